import PyProof.Rows.All
import Wide.All
import OpenK.AllK
import Wide.FinOn
import KE.GoesZip
import KE.GoesMore
import KE.GoesEnumKw
import HandS.ForMost
import HandS.SortKw
import HandS.DictComp
import HandS.Walk
import KE.GoesEnum
import KE.KDictZip
import HandS.WordsDict
import HandS.Evl
import HandS.TupAny
import HandS.ForExc
import HandS.IsInst
import HandS.Defaults
import HandS.Steps
import HandS.CallRecv
import HandS.List
import KE.KRevSl
import HandS.Small
import KE.KDictSum
import PyProof.TupleCall
import HandS.Conv
import HandS.HeadHook3
import KE.KStateDown
import Lean
import PySem.Challenge.RW_checkcut_k16_whole_loops_by_formula
import HandS.Head0
import HandS.Head1
import HandS.Head2
import HandS.HeadEnd
import HandS.HeadHook1
import HandS.HeadHook2
import HandS.HeadHook4
set_option Elab.async false
set_option linter.all false
set_option maxRecDepth 100000
set_option maxHeartbeats 4000000
/-! zip(a, b, strict=True) over two sources (tuples, lists, texts) of one length -/
namespace PySem
open Sem (wp)
abbrev IsZipS (h : Heap) (z TI TO : Addr) (f0 : Value) : Prop :=
  h.get? z = some { cls := .type "zip", dict := none, data := .fields #[f0, .bool false, .bool true, .ref TI, .ref TO], slots := #[] }
section
variable {prog : Program} {w : World} {A : Around} {E : Value → Shared → Prop} {s : Shared} {z TI TO i1 i2 : Addr} {fp1 fp2 : List Addr} {n1 n2 i : Nat} {P1 P2 : Nat → Value → Prop} {St1 St2 : Nat → Heap → Prop} {a1 a2 : Value}
theorem Draws.endItem {it : Addr} {fp : List Addr} {n : Nat} {P : Nat → Value → Prop} {St : Nat → Heap → Prop} (D : Draws prog w A it fp n P St) {Q : Option Value → Shared → Prop} (hi : i < n) (st : St i s.heap)
    (h : ∀ x h' tk, P i x → St (i + 1) h' → Heap.SameBut it s.heap h' → Q (some x) { s with heap := h', toks := tk }) :
    wpAny (model prog w) A (Builtin.SmallTypes.nextOrEnd (.ref it)) Q E s := by
  unfold Builtin.SmallTypes.nextOrEnd
  exact wpAny_bind (wpAny_attempt (D.item i s _ _ hi st fun x h' tk a b c => wpAny_pure (h x h' tk a b c)))
theorem Draws.endDone {it : Addr} {fp : List Addr} {n : Nat} {P : Nat → Value → Prop} {St : Nat → Heap → Prop} (D : Draws prog w A it fp n P St) {Q : Option Value → Shared → Prop} (st : St n s.heap)
    (h : ∀ h', Heap.ExtBut it s.heap h' → Q none { s with heap := h' }) :
    wpAny (model prog w) A (Builtin.SmallTypes.nextOrEnd (.ref it)) Q E s := by
  unfold Builtin.SmallTypes.nextOrEnd
  refine wpAny_bind (wpAny_attempt (D.done s _ _ st fun h' e hb he => ?_))
  obtain ⟨o, ho, hc⟩ := he
  refine wpAny_bind (wpAny_isInstance (T := "StopIteration") (b := true) ⟨o, ho, hc⟩ isSubtype_stop ?_)
  exact wpAny_pure (h _ hb)
theorem zipS_next_item {Q : Value → Shared → Prop} (S : ZipSep2 z TI TO i1 i2 fp1 fp2) (D1 : Draws prog w A i1 fp1 n1 P1 St1) (D2 : Draws prog w A i2 fp2 n2 P2 St2)
    (hz : IsZipS s.heap z TI TO .none) (hTI : IsTupOf2 s.heap TI (.ref i1) (.ref i2)) (hTO : IsTupOf2 s.heap TO a1 a2) (st1 : St1 i s.heap) (st2 : St2 i s.heap) (hlt1 : i < n1) (hlt2 : i < n2)
    (hQ : ∀ x1 x2 h' tk, P1 i x1 → P2 i x2 → IsZipS h' z TI TO (rawInt s.heap.objs.size) → IsTupOf2 h' TO x1 x2 → St1 (i + 1) h' → St2 (i + 1) h' → IsTupOf2 h' s.heap.objs.size x1 x2 → h'.objs.size = s.heap.objs.size + 1 →
      (∀ c o, c ≠ z → c ≠ TO → c ≠ i1 → c ≠ i2 → s.heap.get? c = some o → h'.get? c = some o) → Q (.ref s.heap.objs.size) { s with heap := h', toks := tk }) :
    wpAny (model prog w) A (Builtin.«zip.__next__» ⟨[.ref z], []⟩) (fun fin s' => ∃ v, fin = .done (.ret v) ∧ Q v s') E s := by
  obtain ⟨hp, g, d, tk0, os⟩ := s
  show wpAny _ _ (field (.ref z) 2 >>= _) _ _ _
  refine wpAny_bind (wpAny_field hz rfl (x := .bool true) rfl ?_)
  show wpAny _ _ (field (.ref z) 3 >>= _) _ _ _
  refine wpAny_bind (wpAny_field hz rfl (x := .ref TI) rfl ?_)
  refine wpAny_bind (wpAny_seqItems hTI rfl ?_)
  show wpAny _ _ (Builtin.SmallTypes.ownedTupleIsFree (.ref z) >>= _) _ _ _
  refine wpAny_bind ?_
  unfold Builtin.SmallTypes.ownedTupleIsFree
  refine wpAny_bind (wpAny_field hz rfl (x := .none) rfl (wpAny_pure ?_))
  simp only [if_true]
  refine wpAny_bind (wpAny_rule ?_)
  refine wpAny_bind (wpAny_field hz rfl (x := .ref TO) rfl ?_)
  refine wpAny_bind (wpAny_setField_rec hz (by simp) fun g0 hz0 hs0 => ?_)
  replace hz0 : IsZipS g0 z TI TO .ellipsis := hz0
  replace hs0 : Heap.SameBut z hp g0 := hs0
  refine wpAny_bind ?_
  simp only [List.zipIdx_cons, List.zipIdx_nil, List.forIn_cons, List.forIn_nil]
  refine wpAny_bind (wpAny_bind (wpAny_onRaise ?_))
  show wpAny _ _ (Builtin.SmallTypes.nextOrEnd (.ref i1)) _ _ ⟨g0, g, d, tk0, os⟩
  refine D1.endItem hlt1 (D1.over st1 hs0 S.zf1) fun x1 p1 tk1 hx1 sn1 hp1 => ?_
  replace hp1 : Heap.SameBut i1 g0 p1 := hp1
  have hU1 : IsTupOf2 p1 TO a1 a2 := hp1.extBut _ _ S.Ti1 (hs0.extBut _ _ S.TOz hTO)
  refine wpAny_bind (wpAny_seqItems (s := ⟨p1, g, d, tk1, os⟩) hU1 rfl ?_)
  refine wpAny_bind (updateSeq_IsTupOf2 (s := ⟨p1, g, d, tk1, os⟩) hU1 fun g1 hT1 hs1 => ?_)
  replace hT1 : IsTupOf2 g1 TO x1 a2 := hT1
  replace hs1 : Heap.SameBut TO p1 g1 := hs1
  refine wpAny_bind (wpAny_letGo (wpAny_pure ?_))
  refine wpAny_bind (wpAny_bind (wpAny_onRaise ?_))
  show wpAny _ _ (Builtin.SmallTypes.nextOrEnd (.ref i2)) _ _ ⟨g1, g, d, tk1, os⟩
  refine D2.endItem hlt2 (D2.over (D2.over (D2.over st2 hs0 S.zf2) hp1 S.sep1_2) hs1 S.Tf2) fun x2 p2 tk2 hx2 sn2 hp2 => ?_
  replace hp2 : Heap.SameBut i2 g1 p2 := hp2
  have hU2 : IsTupOf2 p2 TO x1 a2 := hp2.extBut _ _ S.Ti2 hT1
  refine wpAny_bind (wpAny_seqItems (s := ⟨p2, g, d, tk2, os⟩) hU2 rfl ?_)
  refine wpAny_bind (updateSeq_IsTupOf2 (s := ⟨p2, g, d, tk2, os⟩) hU2 fun g2 hT2 hs2 => ?_)
  replace hT2 : IsTupOf2 g2 TO x1 x2 := hT2
  replace hs2 : Heap.SameBut TO p2 g2 := hs2
  refine wpAny_bind (wpAny_letGo (wpAny_pure (wpAny_pure ?_)))
  refine wpAny_bind (wpAny_seqItems (s := ⟨g2, g, d, tk2, os⟩) hT2 rfl ?_)
  refine wpAny_bind (wpAny_newTuple ?_)
  have hsz : g2.objs.size = hp.objs.size := by rw [hs2.1, hp2.1, hs1.1, hp1.1, hs0.1]
  have hzz : IsZipS g2 z TI TO .ellipsis := (hs2.extBut _ _ S.TOz.symm (hp2.extBut _ _ S.zi2 (hs1.extBut _ _ S.TOz.symm (hp1.extBut _ _ S.zi1 hz0))))
  have hkk : ∀ c o, c ≠ z → c ≠ TO → c ≠ i1 → c ≠ i2 → hp.get? c = some o → g2.get? c = some o := fun c o cz cT c1 c2 e =>
    (hs2.extBut _ _ cT (hp2.extBut _ _ c2 (hs1.extBut _ _ cT (hp1.extBut _ _ c1 (hs0.extBut _ _ cz e)))))
  have hj1 : St1 (i + 1) g2 := (D1.over (D1.over (D1.over sn1 hs1 S.Tf1) hp2 S.sep2_1) hs2 S.Tf1)
  have hj2 : St2 (i + 1) g2 := (D2.over sn2 hs2 S.Tf2)
  have hzlt : z < g2.objs.size := Heap.lt_size hzz
  show wpAny _ _ (Builtin.SmallTypes.ownedTupleHandOut (.ref z) (.ref g2.objs.size) >>= _) _ _ ⟨g2.push { cls := .type "tuple", data := .seq #[x1, x2] }, g, d, tk2, os⟩
  refine wpAny_bind ?_
  unfold Builtin.SmallTypes.ownedTupleHandOut
  have hz₆ : IsZipS (g2.push { cls := .type "tuple", data := .seq #[x1, x2] }) z TI TO .ellipsis := Heap.get?_push_of_some _ hzz
  refine wpAny_bind (wpAny_setField_rec hz₆ (by simp) fun h₇ hz₇ hs₇ => ?_)
  replace hz₇ : IsZipS h₇ z TI TO (rawInt g2.objs.size) := hz₇
  refine wpAny_setField_rec hz₇ (by simp) fun h₈ hz₈ hs₈ => ?_
  replace hz₈ : IsZipS h₈ z TI TO (rawInt g2.objs.size) := hz₈
  replace hs₇ : Heap.SameBut z (g2.push { cls := .type "tuple", data := .seq #[x1, x2] }) h₇ := hs₇
  replace hs₈ : Heap.SameBut z h₇ h₈ := hs₈
  have up : ∀ c o, c ≠ z → g2.get? c = some o → h₈.get? c = some o := fun c o c1 e => hs₈.extBut _ _ c1 (hs₇.extBut _ _ c1 (Heap.get?_push_of_some _ e))
  have hT₈ : IsTupOf2 h₈ g2.objs.size x1 x2 := hs₈.extBut _ _ (Nat.ne_of_gt hzlt) (hs₇.extBut _ _ (Nat.ne_of_gt hzlt) (Heap.get?_push_size _ rfl))
  have hz8 : h₈.objs.size = g2.objs.size + 1 := by rw [hs₈.1, hs₇.1, Heap.size_push]
  rw [hsz] at hz₈ hT₈ hz8
  refine wpAny_pure ⟨_, rfl, ?_⟩
  show Q (.ref g2.objs.size) ⟨h₈, g, d, tk2, os⟩
  rw [hsz]
  exact hQ x1 x2 h₈ tk2 hx1 hx2 hz₈ (up _ _ S.TOz hT2) (D1.frame _ _ _ hj1 fun b hb o e => up b o (fun q => S.zf1 (q ▸ hb)) e) (D2.frame _ _ _ hj2 fun b hb o e => up b o (fun q => S.zf2 (q ▸ hb)) e) hT₈ hz8 fun c o cz cT c1 c2 e => up c o cz (hkk c o cz cT c1 c2 e)

theorem zipS_next_end {Q : Fin → Shared → Prop} (hh : A.handled = none) (S : ZipSep2 z TI TO i1 i2 fp1 fp2) (D1 : Draws prog w A i1 fp1 i P1 St1) (D2 : Draws prog w A i2 fp2 i P2 St2)
    (hz : IsZipS s.heap z TI TO .none) (hTI : IsTupOf2 s.heap TI (.ref i1) (.ref i2)) (hTO : IsTupOf2 s.heap TO a1 a2) (st1 : St1 i s.heap) (st2 : St2 i s.heap)
    (hE : ∀ h' e, (∀ c o, c ≠ z → c ≠ TO → c ≠ i1 → c ≠ i2 → s.heap.get? c = some o → h'.get? c = some o) → (∃ o, h'.get? e = some o ∧ o.cls = .type "StopIteration") → E (.ref e) { s with heap := h' }) :
    wpAny (model prog w) A (Builtin.«zip.__next__» ⟨[.ref z], []⟩) Q E s := by
  obtain ⟨hp, g, d, tk0, os⟩ := s
  show wpAny _ _ (field (.ref z) 2 >>= _) _ _ _
  refine wpAny_bind (wpAny_field hz rfl (x := .bool true) rfl ?_)
  show wpAny _ _ (field (.ref z) 3 >>= _) _ _ _
  refine wpAny_bind (wpAny_field hz rfl (x := .ref TI) rfl ?_)
  refine wpAny_bind (wpAny_seqItems hTI rfl ?_)
  show wpAny _ _ (Builtin.SmallTypes.ownedTupleIsFree (.ref z) >>= _) _ _ _
  refine wpAny_bind ?_
  unfold Builtin.SmallTypes.ownedTupleIsFree
  refine wpAny_bind (wpAny_field hz rfl (x := .none) rfl (wpAny_pure ?_))
  simp only [if_true]
  refine wpAny_bind (wpAny_rule ?_)
  refine wpAny_bind (wpAny_field hz rfl (x := .ref TO) rfl ?_)
  refine wpAny_bind (wpAny_setField_rec hz (by simp) fun g0 hz0 hs0 => ?_)
  replace hz0 : IsZipS g0 z TI TO .ellipsis := hz0
  replace hs0 : Heap.SameBut z hp g0 := hs0
  refine wpAny_bind ?_
  simp only [List.zipIdx_cons, List.zipIdx_nil, List.forIn_cons, List.forIn_nil]
  refine wpAny_bind (wpAny_bind (wpAny_onRaise ?_))
  show wpAny _ _ (Builtin.SmallTypes.nextOrEnd (.ref i1)) _ _ ⟨g0, g, d, tk0, os⟩
  refine D1.endDone (D1.over st1 hs0 S.zf1) fun q hq => ?_
  replace hq : Heap.ExtBut i1 g0 q := hq
  have hzq : IsZipS q z TI TO .ellipsis := hq _ _ S.zi1 hz0
  refine wpAny_bind (wpAny_setField_rec (s := ⟨q, g, d, tk0, os⟩) hzq (by simp) fun q' _ hq' => ?_)
  replace hq' : Heap.SameBut z q q' := hq'
  refine wpAny_bind ?_
  have zit : ((([Value.ref i1, Value.ref i2] : List Value).drop 1).zipIdx 1) = [(Value.ref i2, 1)] := rfl
  refine wpAny_bind ?_
  show wpAny (model prog w) A (forIn ([(Value.ref i2, 1)] : List (Value × Nat)) PUnit.unit _) _ _ _
  simp only [List.forIn_cons, List.forIn_nil]
  refine wpAny_bind ?_
  refine wpAny_bind (D2.endDone (s := ⟨q', g, d, tk0, os⟩) (D2.over (D2.frame _ _ _ (D2.over st2 hs0 S.zf2) fun b hb o e => hq b o (fun x => S.sep1_2 (x ▸ hb)) e) hq' S.zf2) fun r hr => ?_)
  replace hr : Heap.ExtBut i2 q' r := hr
  refine wpAny_pure (wpAny_pure ?_)
  refine wpAny_bind (wpAny_rule ?_)
  show wpAny _ _ (newExc (.type "StopIteration") [] >>= _) _ _ _
  refine wpAny_bind ?_
  simp only [newExc, newTuple]
  refine wpAny_bind (wpAny_newObj_type ?_ (by size_fits))
  refine wpAny_bind (m := firstArgMember _ _) (wpAny_of_eq (a := Value.none) (by first | rfl | (simp only [firstArgMember]; rfl)) ?_)
  refine wpAny_newObj_type ?_ (by size_fits)
  simp only [raiseNew]
  refine wpAny_bind (wpAny_handled ?_)
  rw [hh]
  refine wpAny_bind (wpAny_pure (wpAny_throw ?_))
  refine hE _ _ (fun c o cz cT c1 c2 x => ?_) ⟨_, Heap.get?_push_size _ rfl, rfl⟩
  exact Heap.get?_push_of_some _ (Heap.get?_push_of_some _ (hr _ _ c2 (hq'.extBut _ _ cz (hq _ _ c1 (hs0.extBut _ _ cz x)))))
theorem pyNext_zipS_item {Q : Option Value → Shared → Prop} (S : ZipSep2 z TI TO i1 i2 fp1 fp2) (D1 : Draws prog w A.in1 i1 fp1 n1 P1 St1) (D2 : Draws prog w A.in1 i2 fp2 n2 P2 St2)
    (hz : IsZipS s.heap z TI TO .none) (hTI : IsTupOf2 s.heap TI (.ref i1) (.ref i2)) (hTO : IsTupOf2 s.heap TO a1 a2) (st1 : St1 i s.heap) (st2 : St2 i s.heap) (hlt1 : i < n1) (hlt2 : i < n2)
    (hQ : ∀ x1 x2 h' tk, P1 i x1 → P2 i x2 → IsZipS h' z TI TO (rawInt s.heap.objs.size) → IsTupOf2 h' TO x1 x2 → St1 (i + 1) h' → St2 (i + 1) h' → IsTupOf2 h' s.heap.objs.size x1 x2 → h'.objs.size = s.heap.objs.size + 1 →
      (∀ c o, c ≠ z → c ≠ TO → c ≠ i1 → c ≠ i2 → s.heap.get? c = some o → h'.get? c = some o) → Q (some (.ref s.heap.objs.size)) { s with heap := h', toks := tk }) :
    wpAny (model prog w) A (pyNext (.ref z)) Q E s := by
  have hT : s.TypeIs (.ref z) "zip" := ⟨_, hz, rfl⟩
  unfold pyNext
  exact wpAny_bind (wpAny_attempt (wpAny_callSpecial?_slot (name := Str.ofString "__next__") hT F.slot_zip_next
    (wpAny_call_entry F.slot_zip_next hT F.entry_zip_next
      (zipS_next_item S D1 D2 hz hTI hTO st1 st2 hlt1 hlt2 fun x1 x2 h' tk y1 y2 b1 b2 d1 d2 b5 b6 b7 => wpAny_pure (hQ x1 x2 h' tk y1 y2 b1 b2 d1 d2 b5 b6 b7)) (F.args_zip_next_1 _))))
theorem pyNext_zipS_end {Q : Option Value → Shared → Prop} (hh : A.handled = none) (S : ZipSep2 z TI TO i1 i2 fp1 fp2) (D1 : Draws prog w A.in1 i1 fp1 i P1 St1) (D2 : Draws prog w A.in1 i2 fp2 i P2 St2)
    (hz : IsZipS s.heap z TI TO .none) (hTI : IsTupOf2 s.heap TI (.ref i1) (.ref i2)) (hTO : IsTupOf2 s.heap TO a1 a2) (st1 : St1 i s.heap) (st2 : St2 i s.heap)
    (hQ : ∀ h', (∀ c o, c ≠ z → c ≠ TO → c ≠ i1 → c ≠ i2 → s.heap.get? c = some o → h'.get? c = some o) → Q none { s with heap := h' }) : wpAny (model prog w) A (pyNext (.ref z)) Q E s := by
  have hT : s.TypeIs (.ref z) "zip" := ⟨_, hz, rfl⟩
  unfold pyNext
  refine wpAny_bind (wpAny_attempt (wpAny_callSpecial?_slot (name := Str.ofString "__next__") hT F.slot_zip_next
    (wpAny_call_entry F.slot_zip_next hT F.entry_zip_next (zipS_next_end hh S D1 D2 hz hTI hTO st1 st2 fun h' e hk he => ?_) (F.args_zip_next_1 _))))
  obtain ⟨o, ho, hc⟩ := he
  refine wpAny_bind (wpAny_isInstance (T := "StopIteration") (b := true) ⟨o, ho, hc⟩ isSubtype_stop ?_)
  exact wpAny_pure (hQ _ hk)
theorem pyIter_zipS {f0 : Value} {Q : Value → Shared → Prop} (hz : IsZipS s.heap z TI TO f0) (h : Q (.ref z) s) : wpAny (model prog w) A (pyIter (.ref z)) Q E s := by
  have hT : s.TypeIs (.ref z) "zip" := ⟨_, hz, rfl⟩
  refine wpAny_pyIter_slot hT F.slot_zip_iter (wpAny_call_entry F.slot_zip_iter hT F.entry_zip_iter ?_ (F.args_zip_iter_1 _))
  show wpAny _ _ (ret (.ref z)) _ _ s
  exact wpAny_pure ⟨_, rfl, "zip", _, hT, F.slot_zip_next.lookup, h⟩
theorem letGo_zipS {elts : List Expr} {k : Nat} {pos : Pos} {T : Addr} {Q : Unit → Shared → Prop} (hz : IsZipS s.heap z TI TO (rawInt T))
    (h : ∀ h', IsZipS h' z TI TO .none → Heap.SameBut z s.heap h' → Q () { s with heap := h' }) : wpAny (model prog w) A (letOwnedTupleGo (.Tuple elts k pos) (.ref z) (.ref T)) Q E s := by
  unfold letOwnedTupleGo
  refine wpAny_bind (wpAny_load hz ?_)
  show wpAny _ _ (if (["enumerate", "zip", "dict_itemiterator", "dict_reverseitemiterator", "odict_iterator", "itertools.zip_longest", "itertools.pairwise"].contains "zip" &&
      (#[rawInt T, .bool false, .bool true, .ref TI, .ref TO] : Array Value)[0]? == some (rawInt T)) = true then _ else _) Q E s
  rw [if_pos (by simp)]
  refine wpAny_bind (wpAny_rule ?_)
  show wpAny _ _ (setField (.ref z) 0 .none) Q E s
  exact wpAny_setField_rec hz (by simp) fun h' hz' hs' => h h' hz' hs'
end
namespace F
theorem typeCall_zip_strict (a b c : Value) : checkTypeCall "zip" ⟨[a, b], [(Str.ofString "strict", c)]⟩ = pure () := by kernel_rfl
theorem newCall_zip_strict (a b c : Value) : checkBuiltinCall "zip.__new__" ⟨[.type "zip", a, b], [(Str.ofString "strict", c)]⟩ = pure () := by kernel_rfl
theorem args_object_init_strict (obj a b c : Value) : argsOk "object.__init__" ⟨[obj, a, b], [(Str.ofString "strict", c)]⟩ := by unfold argsOk; kernel_rfl
end F
abbrev gsZ2 (h : Heap) (o1 o2 : Obj) : Heap := (gzO2 h o1 o2).push { cls := .type "zip", data := .fields #[.none, .bool false, .bool true, .ref ((h.push o1).push o2).objs.size, .ref (gzT2 h o1 o2).objs.size] }
theorem meets_zip_newS {v1 v2 : Value} {o1 o2 : Obj} {H1 H2 : Heap → Prop} (B1 : Begins v1 o1 H1) (B2 : Begins v2 o2 H2) :
    Meets (Builtin.«zip.__new__» ⟨[.type "zip", v1, v2], [(Str.ofString "strict", .bool true)]⟩) (fun _ R s => (H1 s.heap ∧ H2 s.heap) ∧
      R (.ok (.ret (.ref (gzO2 s.heap o1 o2).objs.size))) { s with heap := gsZ2 s.heap o1 o2 }) :=
  .of_wp fun prog w A R s h => by
    obtain ⟨hp, g, d, tk, os⟩ := s; obtain ⟨⟨h1, h2⟩, h⟩ := h
    have hsub := sub_zip
    have q1 : ∀ {A' : Around} {E : Value → Shared → Prop} {Q : Value → Shared → Prop}, Q (.ref hp.objs.size) ⟨(hp.push o1), g, d, tk, os⟩ → wpAny (model prog w) A' (pyIter v1) Q E ⟨hp, g, d, tk, os⟩ :=
      fun q => B1.iter prog w _ _ ⟨hp, g, d, tk, os⟩ _ (B1.keeps _ _ h1 fun b o' e => e) q
    have q2 : ∀ {A' : Around} {E : Value → Shared → Prop} {Q : Value → Shared → Prop}, Q (.ref (hp.push o1).objs.size) ⟨((hp.push o1).push o2), g, d, tk, os⟩ → wpAny (model prog w) A' (pyIter v2) Q E ⟨(hp.push o1), g, d, tk, os⟩ :=
      fun q => B2.iter prog w _ _ ⟨(hp.push o1), g, d, tk, os⟩ _ (B2.keeps _ _ h2 fun b o' e => (Heap.get?_push_of_some _ e)) q
    have e1 : (Str.ofString "strict" == ("strict" : Str)) = true := by decide +kernel
    have e2 : (Str.ofString "strict" != ("strict" : Str)) = false := by decide +kernel
    wp_walk using q1, q2
    exact ⟨_, rfl, h⟩
section
variable {prog : Program} {w : World} {A : Around} {E : Value → Shared → Prop} {s : Shared}
theorem zipS_begins2 {v1 v2 : Value} {o1 o2 : Obj} {H1 H2 : Heap → Prop} {Q : Value → Shared → Prop} (B1 : Begins v1 o1 H1) (B2 : Begins v2 o2 H2) (h1 : H1 s.heap) (h2 : H2 s.heap)
    (h : ∀ h', IsZipS h' (s.heap.objs.size + 4) (s.heap.objs.size + 2) (s.heap.objs.size + 3) .none → IsTupOf2 h' (s.heap.objs.size + 2) (.ref s.heap.objs.size) (.ref (s.heap.objs.size + 1)) →
      IsTupOf2 h' (s.heap.objs.size + 3) .none .none → h'.get? s.heap.objs.size = some o1 → h'.get? (s.heap.objs.size + 1) = some o2 → h'.objs.size = s.heap.objs.size + 5 →
      (∀ c o, s.heap.get? c = some o → h'.get? c = some o) → Q (.ref (s.heap.objs.size + 4)) { s with heap := h' }) :
    wpAny (model prog w) A (call (.type "zip") [v1, v2] [(Str.ofString "strict", .bool true)]) Q E s := by
  refine callType_newKw F.called_zip (by decide) (F.typeCall_zip_strict _ _ _) (F.newCall_zip_strict _ _ _) (fun obj => F.args_object_init_strict obj _ _ _) F.entry_zip_new
    (meets_zip_newS B1 B2) ⟨⟨h1, h2⟩, ?_⟩
  have z1 : (s.heap.push o1).objs.size = s.heap.objs.size + 1 := by rw [Heap.size_push]
  have z2 : ((s.heap.push o1).push o2).objs.size = s.heap.objs.size + 2 := by rw [Heap.size_push, z1]
  have zT : (gzT2 s.heap o1 o2).objs.size = s.heap.objs.size + 3 := by rw [Heap.size_push, z2]
  have zO : (gzO2 s.heap o1 o2).objs.size = s.heap.objs.size + 4 := by rw [Heap.size_push, zT]
  have zZ : (gsZ2 s.heap o1 o2).objs.size = s.heap.objs.size + 5 := by rw [Heap.size_push, zO]
  have gZ : (gsZ2 s.heap o1 o2).get? (gzO2 s.heap o1 o2).objs.size = some { cls := .type "zip", data := .fields #[.none, .bool false, .bool true, .ref ((s.heap.push o1).push o2).objs.size, .ref (gzT2 s.heap o1 o2).objs.size] } := Heap.get?_push_size _ rfl
  have gO : (gsZ2 s.heap o1 o2).get? (gzT2 s.heap o1 o2).objs.size = some { cls := .type "tuple", data := .seq #[.none, .none] } := Heap.get?_push_of_some _ (Heap.get?_push_size _ rfl)
  have gT : (gsZ2 s.heap o1 o2).get? ((s.heap.push o1).push o2).objs.size = some { cls := .type "tuple", data := .seq #[.ref s.heap.objs.size, .ref (s.heap.push o1).objs.size] } := Heap.get?_push_of_some _ (Heap.get?_push_of_some _ (Heap.get?_push_size _ rfl))
  have g1 : (gsZ2 s.heap o1 o2).get? s.heap.objs.size = some o1 := Heap.get?_push_of_some _ (Heap.get?_push_of_some _ (Heap.get?_push_of_some _ (Heap.get?_push_of_some _ (Heap.get?_push_size _ B1.free))))
  have g2 : (gsZ2 s.heap o1 o2).get? (s.heap.push o1).objs.size = some o2 := Heap.get?_push_of_some _ (Heap.get?_push_of_some _ (Heap.get?_push_of_some _ (Heap.get?_push_size _ B2.free)))
  rw [zO, zT, z2] at gZ
  rw [zT] at gO
  rw [z2, z1] at gT
  rw [z1] at g2
  show _ ∧ _
  rw [zO]
  exact ⟨⟨_, gZ, rfl⟩, h _ gZ gT gO g1 g2 zZ fun c o x => Heap.get?_push_of_some _ (Heap.get?_push_of_some _ (Heap.get?_push_of_some _ (Heap.get?_push_of_some _ (Heap.get?_push_of_some _ x))))⟩
end
end PySem

set_option Elab.async false
set_option linter.all false
set_option maxRecDepth 100000
set_option maxHeartbeats 4000000
namespace PyProof.Rows
open PySem
section
variable {M : Model} {A : Around} {E : Value → Shared → Prop} {s : Shared} {env : Env}
theorem callWith_type_kwB {pos : Pos} {id : String} {first : List Value} {args : List (Bool × Sem Value)} {keywords : List (Option Str × Sem Value)} {Q : Value → Shared → Prop}
    (hplain : args.any (·.1) = false) (hkw : keywords.any (·.1.isNone) = false)
    (h : wpAny M A (evalArgs (.type id) true args keywords) (fun a s₁ => wpAny M A (call (.type id) (first ++ a.pos) a.kw) Q E s₁) E s) :
    wpAny M A (callWith pos (.type id) first args keywords) Q E s := by
  unfold callWith
  refine wpAny_bind (wpAny_holding (wpAny_mono h (fun a s₁ h₁ => wpAny_bind (wpAny_standAt ?_)) fun _ _ x => x))
  simp only [hplain, hkw, Bool.or_false]
  refine wpAny_bind (wpAny_pure ?_)
  exact wpAny_bind (wpAny_mono h₁ (fun r s₂ hr => wpAny_bind (wpAny_holding (wpAny_point (wpAny_pure hr)))) fun _ _ x => x)
theorem callWith_typeKw {pos : Pos} {id : String} {e : Expr} {rest : List Expr} {kws : List Keyword} {Q : Value → Shared → Prop}
    (h : wpAny M A (spliced (backTo pos (starEach (e :: rest) env))) (fun vs s₁ => wpAny M A (evalAll ((backToKw pos (keywordEach kws env)).map (·.2)))
      (fun kvs s₂ => wpAny M A (call (.type id) vs (((backToKw pos (keywordEach kws env)).filterMap (·.1)).zip kvs)) Q E s₂) E s₁) E s)
    (he : backTo pos (starEach (e :: rest) env) = (false, eval e env) :: backTo pos (starEach rest env) := by rfl)
    (hplain : (backTo pos (starEach (e :: rest) env)).any (·.1) = false := by rfl)
    (hall : (backToKw pos (keywordEach kws env)).all (·.1.isSome) = true := by rfl)
    (hkw : (backToKw pos (keywordEach kws env)).any (·.1.isNone) = false := by rfl) :
    wpAny M A (callWith pos (.type id) [] (backTo pos (starEach (e :: rest) env)) (backToKw pos (keywordEach kws env))) Q E s := by
  refine callWith_type_kwB hplain hkw ?_
  rw [he] at h ⊢
  exact evalArgs_kwB hall h
end
end PyProof.Rows

namespace L2
open PySem PySem.Spec PyProof.Rows
/-- what zip, enumerate draw from -/
inductive Src where
  | tup (a : Addr) | lst (a : Addr) | str (z : Str)
def Src.v : Src → V
  | .tup a => .ref a
  | .lst a => .ref a
  | .str z => .str z
def Src.at (src : Src) (K : PySem.W.Frag) (H : Hp) (xs : List V) : Prop := match src with
  | .tup a => SqT K H a xs
  | .lst a => SqL K H a xs
  | .str z => xs = z.cps.toList.map fun c => .str ⟨#[c]⟩
def Src.Stt (src : Src) (t : Tok) (it : Addr) (i : Nat) (h : Heap) : Prop := match src with
  | .tup a => h.IsTupleIter it a i
  | .lst a => h.IsListIter it a i
  | .str z => h.IsStrIter it (strIterType z) z t i
def Src.fp (src : Src) (it : Addr) : List Addr := match src with
  | .tup a => [it, a]
  | .lst a => [it, a]
  | .str _ => [it]
def Src.ne (src : Src) (it : Addr) : Prop := match src with
  | .tup a => a ≠ it
  | .lst a => a ≠ it
  | .str _ => True
section
variable {X : Cx} {pins : List (Addr × Obj)} {σ : St} {H : Hp} {s : Shared}
theorem Src.inj {src : Src} {xs ys : List V} (I : Inv X pins σ H s) (h1 : src.at X.K H xs) (h2 : src.at X.K H ys) : xs = ys := by
  cases src with
  | tup a => exact I.tuple_inj h1 h2
  | lst a => exact I.list_inj h1 h2
  | str z => rw [show xs = _ from h1, show ys = _ from h2]
theorem Src.Stt.obj {src : Src} {t : Tok} {it : Addr} {i : Nat} {h : Heap} (st : src.Stt t it i h) : ∃ o, h.get? it = some o ∧ ∀ v, o.data ≠ .cell v := by
  cases src <;> obtain ⟨o, e, _, d⟩ := st <;> exact ⟨o, e, fun v z => by rw [d] at z; cases z⟩
theorem Src.Stt.keep {src : Src} {t : Tok} {it : Addr} {i : Nat} {h h' : Heap} (st : src.Stt t it i h) (k : ∀ o, h.get? it = some o → h'.get? it = some o) : src.Stt t it i h' := by
  cases src with
  | tup a => exact Heap.IsTupleIter.at st k
  | lst a => exact Heap.IsListIter.at st k
  | str z => obtain ⟨o, e, r⟩ := st; exact ⟨o, k o e, r⟩
theorem Src.draws {src : Src} {t : Tok} {it : Addr} {xs : List V} {A : Around} (hh : A.handled = none) (I : Inv X pins σ H s) (hq : src.at X.K H xs) (ne : src.ne it) :
    ∃ (P : Nat → Value → Prop) (St0 : Nat → Heap → Prop), Draws X.prog X.w A it (src.fp it) xs.length P St0 ∧ (∀ i h, St0 i h → src.Stt t it i h) ∧ (∀ i, src.Stt t it i s.heap → St0 i s.heap) ∧ (∀ i u, P i u → ∃ x, xs[i]? = some x ∧ RelV x u) := by
  cases src with
  | tup a =>
    obtain ⟨its, rv, p, _⟩ := I.tuple hq
    have hl : its.toArray.size = xs.length := by rw [List.size_toArray]; exact rv.length.symm
    refine ⟨_, _, hl ▸ Draws.tuple hh it a ne its.toArray, fun i h st => st.1, fun i st => ⟨st, p⟩, fun i u hu => ?_⟩
    have hu' : its[i]? = some u := by simpa using hu
    have hlt : i < xs.length := by rw [rv.length]; exact (List.getElem?_eq_some_iff.mp hu').1
    obtain ⟨u', e1, e2⟩ := rv.get (List.getElem?_eq_getElem hlt)
    rw [hu'] at e1; cases e1
    exact ⟨_, List.getElem?_eq_getElem hlt, e2⟩
  | lst a =>
    obtain ⟨its, rv, p, _⟩ := I.list hq
    have hl : its.toArray.size = xs.length := by rw [List.size_toArray]; exact rv.length.symm
    refine ⟨_, _, hl ▸ Draws.list hh it a ne its.toArray, fun i h st => st.1, fun i st => ⟨st, p.isList⟩, fun i u hu => ?_⟩
    have hu' : its[i]? = some u := by simpa using hu
    have hlt : i < xs.length := by rw [rv.length]; exact (List.getElem?_eq_some_iff.mp hu').1
    obtain ⟨u', e1, e2⟩ := rv.get (List.getElem?_eq_getElem hlt)
    rw [hu'] at e1; cases e1
    exact ⟨_, List.getElem?_eq_getElem hlt, e2⟩
  | str z =>
    have e : xs = _ := hq
    subst e
    have hl : z.cps.size = (z.cps.toList.map fun c => V.str ⟨#[c]⟩).length := by simp
    refine ⟨_, _, hl ▸ Draws.text hh it z t, fun i h st => st, fun i st => st, fun i u hu => ?_⟩
    obtain ⟨c, k, hc, rfl⟩ := hu
    refine ⟨.str ⟨#[c]⟩, ?_, ⟨k, rfl⟩⟩
    rw [List.getElem?_map, Array.getElem?_toList, hc] <;> rfl
end
end L2

set_option Elab.async false
set_option linter.all false
set_option maxRecDepth 100000
set_option maxHeartbeats 4000000
namespace PySem
open Sem (wp)
namespace F
theorem typeCall_enumerate_one (a : Value) : checkTypeCall "enumerate" ⟨[a], []⟩ = pure () := by kernel_rfl
theorem newCall_enumerate_one (a : Value) : checkBuiltinCall "enumerate.__new__" ⟨[.type "enumerate", a], []⟩ = pure () := by kernel_rfl
theorem args_object_init_two (obj a : Value) : argsOk "object.__init__" ⟨[obj, a], []⟩ := by unfold argsOk; kernel_rfl
end F
theorem meets_enumerate_new1 {v : Value} {o : Obj} {H : Heap → Prop} (B : Begins v o H) :
    Meets (Builtin.«enumerate.__new__» ⟨[.type "enumerate", v], []⟩) (fun _ R s => H s.heap ∧
      R (.ok (.ret (.ref (s.heap.push o).objs.size))) { s with heap := (s.heap.push o).push { cls := .type "enumerate", data := .fields #[.none, .bool false, .ref s.heap.objs.size, rawInt 0, .none, .none] } }) :=
  .of_wp fun prog w A R s h => by
    obtain ⟨hp, g, d, tk, os⟩ := s; obtain ⟨h1, h⟩ := h
    have hsub := sub_enumerate
    have q1 : ∀ {A' : Around} {E : Value → Shared → Prop} {Q : Value → Shared → Prop}, Q (.ref hp.objs.size) ⟨hp.push o, g, d, tk, os⟩ → wpAny (model prog w) A' (pyIter v) Q E ⟨hp, g, d, tk, os⟩ :=
      fun q => B.iter prog w _ _ ⟨hp, g, d, tk, os⟩ _ h1 q
    wp_walk using q1
    first
    | exact ⟨_, rfl, h⟩
    | (refine wpAny_stack_any fun st => wpAny_pure ?_
       split
       · rename_i c _ _ _ _ _
         cases (c == Value.type "enumerate")
         · wp_walk using q1
           exact ⟨_, rfl, h⟩
         · wp_walk using q1
           exact ⟨_, rfl, h⟩
       · wp_walk using q1
         exact ⟨_, rfl, h⟩)
section
variable {prog : Program} {w : World} {A : Around} {E : Value → Shared → Prop} {s : Shared}
theorem enum_begins1 {v : Value} {o : Obj} {H : Heap → Prop} {Q : Value → Shared → Prop} (B : Begins v o H) (h1 : H s.heap)
    (h : ∀ h', IsEnum h' (s.heap.objs.size + 1) s.heap.objs.size 0 .none → h'.get? s.heap.objs.size = some o → h'.objs.size = s.heap.objs.size + 2 →
      (∀ b o, s.heap.get? b = some o → h'.get? b = some o) → Q (.ref (s.heap.objs.size + 1)) { s with heap := h' }) :
    wpAny (model prog w) A (call (.type "enumerate") [v]) Q E s := by
  refine callType_new F.called_enumerate (by decide) (F.typeCall_enumerate_one _) (F.newCall_enumerate_one _) (fun obj => F.args_object_init_two obj _) F.entry_enumerate_new
    (meets_enumerate_new1 B) ⟨h1, ?_⟩
  have hz : (s.heap.push o).objs.size = s.heap.objs.size + 1 := Heap.size_push ..
  show _ ∧ _
  rw [hz]
  have he : IsEnum ((s.heap.push o).push { cls := .type "enumerate", data := .fields #[.none, .bool false, .ref s.heap.objs.size, rawInt 0, .none, .none] }) (s.heap.objs.size + 1) s.heap.objs.size 0 .none := by
    have := Heap.get?_push_size (s.heap.push o) (o := { cls := .type "enumerate", data := .fields #[.none, .bool false, .ref s.heap.objs.size, rawInt 0, .none, .none] }) rfl
    rw [hz] at this; exact this
  refine ⟨⟨_, he, rfl⟩, h _ he (Heap.get?_push_of_some _ (Heap.get?_push_size _ B.free)) (by rw [Heap.size_push, hz]) fun b o x => Heap.get?_push_of_some _ (Heap.get?_push_of_some _ x)⟩
end
end PySem

set_option Elab.async false
set_option linter.all false
set_option maxRecDepth 100000
set_option maxHeartbeats 4000000
namespace L2
open PySem PySem.Spec PyProof.Rows
/-- the items of two sources of one length, in new pairs -/
def ItzS (K : PySem.W.Frag) (s1 s2 : Src) : It :=
  ⟨fun i H => ∃ (xs ys : List V) (x y : V), s1.at K H xs ∧ s2.at K H ys ∧ xs[i]? = some x ∧ ys[i]? = some y,
    fun i H v H' => ∃ T x y, v = .ref T ∧ H T = none ∧ H' = upd H T (.tup [x, y]) ∧ (∀ xs, s1.at K H xs → xs[i]? = some x) ∧ ∀ ys, s2.at K H ys → ys[i]? = some y,
    fun i H => ∃ xs ys : List V, s1.at K H xs ∧ s2.at K H ys ∧ xs.length = i ∧ ys.length = i⟩
theorem Src.fp_mem (src : Src) (it : Addr) : it ∈ src.fp it := by cases src <;> simp [Src.fp]
theorem turn_zipS {P : Program} {w : World} {K : PySem.W.Frag} {elts : List Expr} {kk : Nat} {tpos : Pos} {s1 s2 : Src} {t1 t2 : Tok} {z TI TO i1 i2 : Addr} (D : ZipSep2 z TI TO i1 i2 (s1.fp i1) (s2.fp i2)) (n1 : s1.ne i1) (n2 : s2.ne i2) :
    Turn P w K (.Tuple elts kk tpos) (ItzS K s1 s2) [z, TI, TO, i1, i2] z (fun i h => IsZipS h z TI TO .none ∧ IsTupOf2 h TI (.ref i1) (.ref i2) ∧ (∃ x y, IsTupOf2 h TO x y) ∧ s1.Stt t1 i1 i h ∧ s2.Stt t2 i2 i h) where
  mem := by simp
  obj := fun i h st c hc => by
    obtain ⟨hz, hTI, ⟨x, y, hTO⟩, h1, h2⟩ := st
    have e' : c = z ∨ c = TI ∨ c = TO ∨ c = i1 ∨ c = i2 := by simpa using hc
    rcases e' with q | q | q | q | q
    · rw [q]; exact ⟨_, hz, fun v q => nomatch q⟩
    · rw [q]; exact ⟨_, hTI, fun v q => nomatch q⟩
    · rw [q]; exact ⟨_, hTO, fun v q => nomatch q⟩
    · rw [q]; exact h1.obj
    · rw [q]; exact h2.obj
  keep := fun i h h' st k => by
    obtain ⟨hz, hTI, ⟨x, y, hTO⟩, h1, h2⟩ := st
    exact ⟨k z (by simp) _ hz, k TI (by simp) _ hTI, ⟨x, y, k TO (by simp) _ hTO⟩, h1.keep fun o q => k i1 (by simp) o q, h2.keep fun o q => k i2 (by simp) o q⟩
  item := by
    intro X hP hw hK hc i pins s σ H E I hf st hg
    subst hP hw hK
    obtain ⟨hz, hTI, ⟨x0, y0, hTO⟩, h1, h2⟩ := st
    obtain ⟨xs, ys, x, y, hqx, hqy, hx, hy⟩ := hg
    have hh : X.A.in1.handled = none := I.ok.hd hc
    obtain ⟨P1, S1, D1, a1, b1, c1⟩ := Src.draws (t := t1) hh I hqx n1
    obtain ⟨P2, S2, D2, a2, b2, c2⟩ := Src.draws (t := t2) hh I hqy n2
    have hl1 : i < xs.length := (List.getElem?_eq_some_iff.mp hx).1
    have hl2 : i < ys.length := (List.getElem?_eq_some_iff.mp hy).1
    have hzl : z < s.heap.objs.size := Heap.lt_size hz
    refine pyNext_zipS_item D D1 D2 hz hTI hTO (b1 i h1) (b2 i h2) hl1 hl2 fun u u2 h' tk p1 p2 z' TO' h1' h2' hT hsz hk => ?_
    obtain ⟨x', hx', ru⟩ := c1 i u p1
    obtain ⟨y', hy', ru2⟩ := c2 i u2 p2
    rw [hx] at hx'; cases hx'
    rw [hy] at hy'; cases hy'
    refine ⟨_, rfl, letGo_zipS (s := { s with heap := h', toks := tk }) z' fun h'' z'' sb => ?_⟩
    have hT2 : h''.get? s.heap.objs.size = some { cls := .type "tuple", data := .seq #[u, u2] } := (sb.2 _ (Nat.ne_of_gt hzl)).trans hT
    have new : ObjOk X.prog X.w (upd H s.heap.objs.size (.tup [x, y])) h'' s.heap.objs.size (.tup [x, y]) :=
      ⟨by show 2 ≤ sizeLine; decide, [u, u2], .cons ru (.cons ru2 .nil), ⟨_, hT2, rfl, _, rfl⟩⟩
    have I1 : Inv X pins σ (upd H s.heap.objs.size (.tup [x, y])) { s with heap := h'', toks := tk } :=
      I.turnedNew (t' := tk) (ch := [z, TI, TO, i1, i2]) (fun c o hb q => (sb.2 c (fun q' => hb (by simp [q']))).trans (hk c o (fun q' => hb (by simp [q'])) (fun q' => hb (by simp [q'])) (fun q' => hb (by simp [q'])) (fun q' => hb (by simp [q'])) q)) hf (Nat.le_refl _) new
    refine ⟨.ref s.heap.objs.size, _, I1, rfl, ⟨_, x, y, rfl, I.hok.fresh (Nat.le_refl _), rfl, fun l hl => by rw [Src.inj I hl hqx]; exact hx, fun l hl => by rw [Src.inj I hl hqy]; exact hy⟩, ⟨z'', ?_, ⟨u, u2, ?_⟩, ?_, ?_⟩, fun c hcm => ?_⟩
    · exact (sb.2 _ D.TIz).trans (hk _ _ D.TIz D.TITO D.TIi1 D.TIi2 hTI)
    · exact (sb.2 _ D.TOz).trans TO'
    · exact (a1 _ _ h1').keep fun o q => (sb.2 _ D.zi1.symm).trans q
    · exact (a2 _ _ h2').keep fun o q => (sb.2 _ D.zi2.symm).trans q
    · have hlt : c < s.heap.objs.size := by
        have e' : c = z ∨ c = TI ∨ c = TO ∨ c = i1 ∨ c = i2 := by simpa using hcm
        rcases e' with q | q | q | q | q
        · rw [q]; exact hzl
        · rw [q]; exact Heap.lt_size hTI
        · rw [q]; exact Heap.lt_size hTO
        · rw [q]; obtain ⟨_, e1, _⟩ := h1.obj; exact Heap.lt_size e1
        · rw [q]; obtain ⟨_, e2, _⟩ := h2.obj; exact Heap.lt_size e2
      rw [upd_ne (Nat.ne_of_lt hlt)]
      exact (hf c hcm).1
  done := by
    intro X hP hw hK hc i pins s σ H E I hf st hg
    subst hP hw hK
    obtain ⟨hz, hTI, ⟨x0, y0, hTO⟩, h1, h2⟩ := st
    obtain ⟨xs, ys, hqx, hqy, e1, e2⟩ := hg
    have hh : X.A.in1.handled = none := I.ok.hd hc
    obtain ⟨P1, S1, D1, a1, b1, c1⟩ := Src.draws (t := t1) hh I hqx n1
    obtain ⟨P2, S2, D2, a2, b2, c2⟩ := Src.draws (t := t2) hh I hqy n2
    rw [e1] at D1
    rw [e2] at D2
    exact pyNext_zipS_end (I.ok.hd hc) D D1 D2 hz hTI hTO (b1 i h1) (b2 i h2) fun h' hk => ⟨rfl, I.turnedL (t' := s.toks) (ch := [z, TI, TO, i1, i2]) (fun c o hb q =>
      hk c o (fun q' => hb (by simp [q'])) (fun q' => hb (by simp [q'])) (fun q' => hb (by simp [q'])) (fun q' => hb (by simp [q'])) q) hf⟩
  self := fun A i s Q E st h => pyIter_zipS st.1 h
theorem walk_zipS {K : PySem.W.Frag} {s1 s2 : Src} {xs ys : List V} {n : Nat} (h1 : xs.length = n) (h2 : ys.length = n) : Walk (ItzS K s1 s2) n (fun H => s1.at K H xs ∧ s2.at K H ys) (YPair (fun i => xs[i]?) (fun i => ys[i]?)) := by
  refine ⟨fun i _ hi q => ⟨xs, ys, xs[i]'(by omega), ys[i]'(by omega), q.1, q.2, List.getElem?_eq_getElem _, List.getElem?_eq_getElem _⟩, fun _ q => ⟨xs, ys, q.1, q.2, h1, h2⟩, fun i H v H' _ q y => ?_⟩
  obtain ⟨T, x, z, h1, h2, h3, h4, h5⟩ := y
  exact ⟨T, x, z, h1, h2, h3, h4 xs q.1, h5 ys q.2⟩
/-- how a source begins -/
theorem Src.begins (src : Src) {X : Cx} {pins : List (Addr × Obj)} {σ : L2.St} {H : Hp} {s : Shared} {xs : List V} {u : Value} (I : Inv X pins σ H s) (hq : src.at X.K H xs) (r : RelV src.v u) :
    ∃ (o : Obj) (Hh : Heap → Prop) (t : Tok), Begins u o Hh ∧ Hh s.heap ∧ (∀ (it : Addr) (h' : Heap), h'.get? it = some o → src.Stt t it 0 h') ∧ (∀ it : Addr, s.heap.objs.size ≤ it → src.ne it) ∧ ∀ it c, c ∈ src.fp it → c = it ∨ c < s.heap.objs.size := by
  cases src with
  | tup a =>
    cases (show u = Value.ref a from r)
    obtain ⟨its, rv, p, _⟩ := I.tuple hq
    have hlt : a < s.heap.objs.size := by obtain ⟨o, ho, _⟩ := id p; exact Heap.lt_size ho
    exact ⟨_, _, 0, begins_tuple a its.toArray, p, fun it h' e => ⟨_, e, rfl, rfl⟩, fun it hi => Nat.ne_of_lt (Nat.lt_of_lt_of_le hlt hi), fun it c hc => by
      have e : c = it ∨ c = a := by simpa [Src.fp] using hc
      rcases e with e | e
      · exact .inl e
      · exact .inr (by rw [e]; exact hlt)⟩
  | lst a =>
    cases (show u = Value.ref a from r)
    obtain ⟨its, rv, p, _⟩ := I.list hq
    have hlt : a < s.heap.objs.size := p.lt
    exact ⟨_, _, 0, begins_list a its.toArray, p.isList, fun it h' e => ⟨_, e, rfl, rfl⟩, fun it hi => Nat.ne_of_lt (Nat.lt_of_lt_of_le hlt hi), fun it c hc => by
      have e : c = it ∨ c = a := by simpa [Src.fp] using hc
      rcases e with e | e
      · exact .inl e
      · exact .inr (by rw [e]; exact hlt)⟩
  | str z =>
    obtain ⟨t, rfl⟩ := r
    exact ⟨_, _, t, begins_text z t, trivial, fun it h' e => ⟨_, e, rfl, rfl⟩, fun it hi => trivial, fun it c hc => .inl (by simpa [Src.fp] using hc)⟩
theorem arA (k n : Nat) (h : k = n ∨ k < n) (hk : n < k) : False := by omega
theorem arB (k n : Nat) (h : k = n + 1 ∨ k < n) (hk : n ≤ k) (hn : k ≠ n + 1) : False := by omega
theorem arS (n : Nat) : n + 2 ≠ n + 4 ∧ n + 3 ≠ n + 4 ∧ n + 2 ≠ n + 3 ∧ n + 2 ≠ n ∧ n + 2 ≠ n + 1 ∧ n < n + 4 ∧ n < n + 3 ∧ n ≤ n + 4 ∧ n + 4 ≠ n + 1 ∧ n ≤ n + 3 ∧ n + 3 ≠ n + 1 ∧ n ≤ n ∧ n ≠ n + 1 ∧ n < n + 1 := by omega
theorem sep_new {n : Nat} {s1 s2 : Src} (h1 : ∀ it c, c ∈ s1.fp it → c = it ∨ c < n) (h2 : ∀ it c, c ∈ s2.fp it → c = it ∨ c < n) : ZipSep2 (n + 4) (n + 2) (n + 3) n (n + 1) (s1.fp n) (s2.fp (n + 1)) := by
  have no1 : ∀ k : Nat, n < k → k ∉ s1.fp n := fun k hk hm => arA k n (h1 _ _ hm) hk
  have no2 : ∀ k : Nat, n ≤ k → k ≠ n + 1 → k ∉ s2.fp (n + 1) := fun k hk hn hm => arB k n (h2 _ _ hm) hk hn
  obtain ⟨a1, a2, a3, a4, a5, a6, a7, a8, a9, a10, a11, a12, a13, a14⟩ := arS n
  exact ⟨a1, a2, a3, a4, Src.fp_mem _ _, no1 _ a6, no1 _ a7, a5, Src.fp_mem _ _, no2 _ a8 a9, no2 _ a10 a11, no2 _ a12 a13, no1 _ a14⟩
def iZipS (K : PySem.W.Frag) (ta : TA) : TI := fun σ H R => ta σ H fun vs H1 => ∃ s1 s2 xs ys, vs = [s1.v, s2.v] ∧ s1.at K H1 xs ∧ s2.at K H1 ys ∧ R (ItzS K s1 s2) H1
theorem pi_zipS {X : Cx} {e e2 : Expr} {ta : TA} {p pos tpos kp cp : Pos} {j : Nat} {elts : List Expr} {kk : Nat} (hg : Gl X "zip") (hm : X.mg "zip" = none) (ha : PA X [e, e2] ta)
    (he : backTo pos (starEach [e, e2] X.env) = (false, eval e X.env) :: backTo pos (starEach [e2] X.env) := by rfl)
    (hpl : (backTo pos (starEach [e, e2] X.env)).any (·.1) = false := by rfl) :
    PI X (.Tuple elts kk tpos) (.Call (.Name "zip" p) [e, e2] [⟨some "strict", .Constant (.bool true) j cp, kp⟩] pos) (iZipS X.K ta) := by
  refine ⟨fun pins s σ H R I h => ?_⟩
  refine wpAny_Call_Name_kw (ld_blt I hg hm PyProof.Rows.boot_zip ?_)
  refine PyProof.Rows.callWith_typeKw (thn (ha.run pos pins s σ H _ I h) fun us s1 ⟨vs, H1, I1, r1, q1⟩ => ?_) he hpl
  refine PyProof.Rows.kws_cons ?_
  refine wpAny_Constant_bool ?_
  refine PyProof.Rows.kws_nil ?_
  obtain ⟨a, b, xs, ys, ex, hqx, hqy, q⟩ := q1
  subst ex
  cases r1 with
  | cons r rr =>
    cases rr with
    | cons r' rr =>
      cases rr
      obtain ⟨o1, G1, t1, B1, g1, st1, ne1, f1⟩ := Src.begins a I1 hqx r
      obtain ⟨o2, G2, t2, B2, g2, st2, ne2, f2⟩ := Src.begins b I1 hqy r'
      refine zipS_begins2 B1 B2 g1 g2 fun h' hz hTI hTO h1 h2 hsz hk => pyIter_zipS hz ?_
      have fresh5 : ∀ c, c ∈ [s1.heap.objs.size + 4, s1.heap.objs.size + 2, s1.heap.objs.size + 3, s1.heap.objs.size, s1.heap.objs.size + 1] → FpOk X pins H1 c := fun c hcm => by
        have e' : c = s1.heap.objs.size + 4 ∨ c = s1.heap.objs.size + 2 ∨ c = s1.heap.objs.size + 3 ∨ c = s1.heap.objs.size ∨ c = s1.heap.objs.size + 1 := by simpa using hcm
        have hle : s1.heap.objs.size ≤ c := by
          rcases e' with z | z | z | z | z
          · rw [z]; exact Nat.le_add_right _ _
          · rw [z]; exact Nat.le_add_right _ _
          · rw [z]; exact Nat.le_add_right _ _
          · rw [z]; exact Nat.le_refl _
          · rw [z]; exact Nat.le_add_right _ _
        exact I1.fpOk hle (I1.hok.fresh hle)
      have I2 : Inv X pins σ H1 { s1 with heap := h' } := I1.kept (t' := s1.toks) hk
      exact ⟨s1.heap.objs.size + 4, [s1.heap.objs.size + 4, s1.heap.objs.size + 2, s1.heap.objs.size + 3, s1.heap.objs.size, s1.heap.objs.size + 1], _, _, H1, rfl, I2,
        turn_zipS (t1 := t1) (t2 := t2) (sep_new f1 f2) (ne1 _ (Nat.le_refl _)) (ne2 _ (Nat.le_succ _)), ⟨hz, hTI, ⟨_, _, hTO⟩, st1 _ _ h1, st2 _ _ h2⟩, fresh5, q⟩
/-! ### enumerate over a tuple, a list, a text -/
def IteS (K : PySem.W.Frag) (src : Src) : It :=
  ⟨fun i H => ∃ (xs : List V) (x : V), src.at K H xs ∧ xs[i]? = some x, fun i H v H' => ∃ T x, v = .ref T ∧ H T = none ∧ H' = upd H T (.tup [.int (i : Nat), x]) ∧ ∀ xs, src.at K H xs → xs[i]? = some x, fun i H => ∃ xs : List V, src.at K H xs ∧ xs.length = i⟩
theorem turn_enumS {P : Program} {w : World} {K : PySem.W.Frag} {elts : List Expr} {kk : Nat} {tpos : Pos} {src : Src} {t : Tok} (e it : Addr) (n1 : src.ne it) (hne : e ≠ it) (hef : e ∉ src.fp it) :
    Turn P w K (.Tuple elts kk tpos) (IteS K src) [e, it] e (fun i h => (∃ old, IsEnum h e it ((i : Nat) : Int) old) ∧ src.Stt t it i h) where
  mem := by simp
  obj := fun i h st b hb => by
    obtain ⟨⟨old, he⟩, hi⟩ := st
    have e' : b = e ∨ b = it := by simpa using hb
    rcases e' with z | z
    · rw [z]; exact ⟨_, he, fun v q => nomatch q⟩
    · rw [z]; exact hi.obj
  keep := fun i h h' st k => let ⟨⟨old, he⟩, hi⟩ := st; ⟨⟨old, k e (by simp) _ he⟩, hi.keep fun o q => k it (by simp) o q⟩
  item := by
    intro X hP hw hK hc i pins s σ H E I hf st hg
    subst hP hw hK
    obtain ⟨⟨old, he⟩, hit⟩ := st
    obtain ⟨xs, x, hq, hx⟩ := hg
    have hh : X.A.in1.handled = none := I.ok.hd hc
    obtain ⟨P1, S1, D1, a1, b1, c1⟩ := Src.draws (t := t) hh I hq n1
    have hl1 : i < xs.length := (List.getElem?_eq_some_iff.mp hx).1
    have hel : e < s.heap.objs.size := Heap.lt_size he
    have hil : it < s.heap.objs.size := by obtain ⟨_, q, _⟩ := hit.obj; exact Heap.lt_size q
    refine wpAny_pyNext_enum_itemD D1 he (b1 i hit) hl1 hne hef fun u h' tk p1 ho hit' hT hsz hk => ?_
    obtain ⟨x', hx', ru⟩ := c1 i u p1
    rw [hx] at hx'; cases hx'
    refine ⟨_, rfl, wpAny_letOwnedTupleGo_enum (s := { s with heap := h', toks := tk + 1 }) ho fun h'' he' sb => ?_⟩
    have hT2 : h''.get? s.heap.objs.size = some { cls := .type "tuple", data := .seq #[.int i tk, u] } := (sb.2 _ (Nat.ne_of_gt hel)).trans hT
    have new : ObjOk X.prog X.w (upd H s.heap.objs.size (.tup [.int (i : Nat), x])) h'' s.heap.objs.size (.tup [.int (i : Nat), x]) :=
      ⟨by show 2 ≤ sizeLine; decide, [.int i tk, u], .cons ⟨_, rfl⟩ (.cons ru .nil), ⟨_, hT2, rfl, _, rfl⟩⟩
    have I1 : Inv X pins σ (upd H s.heap.objs.size (.tup [.int (i : Nat), x])) { s with heap := h'', toks := tk + 1 } :=
      I.turnedNew (ch := [e, it]) (fun b ob hb q => (sb.2 b (fun z => hb (by simp [z]))).trans (hk b ob (fun z => hb (by simp [z])) (fun z => hb (by simp [z])) q)) hf (Nat.le_refl _) new
    refine ⟨.ref s.heap.objs.size, _, I1, rfl, ⟨_, x, rfl, I.hok.fresh (Nat.le_refl _), rfl, fun ys hy => by rw [Src.inj I hy hq]; exact hx⟩, ⟨⟨u, ?_⟩, (a1 _ _ hit').keep fun o q => (sb.2 it (Ne.symm hne)).trans q⟩, fun b hb => ?_⟩
    · have e1 : ((i + 1 : Nat) : Int) = (i : Int) + 1 := by omega
      rw [e1]; exact he'
    · have hb' : b < s.heap.objs.size := by
        have e' : b = e ∨ b = it := by simpa using hb
        rcases e' with z | z
        · rw [z]; exact hel
        · rw [z]; exact hil
      rw [upd_ne (Nat.ne_of_lt hb')]
      exact (hf b hb).1
  done := by
    intro X hP hw hK hc i pins s σ H E I hf st hg
    subst hP hw hK
    obtain ⟨⟨old, he⟩, hit⟩ := st
    obtain ⟨xs, hq, hx⟩ := hg
    have hh : X.A.in1.handled = none := I.ok.hd hc
    obtain ⟨P1, S1, D1, a1, b1, c1⟩ := Src.draws (t := t) hh I hq n1
    rw [hx] at D1
    obtain ⟨f0, f1, f2, f3, f4, f5⟩ := hf it (by simp)
    exact wpAny_pyNext_enum_endD D1 he (b1 i hit) fun h' eb => ⟨rfl, I.turned (t' := s.toks) (fun b o hb q => eb b o hb q) f0 f1 f3 f4 f5⟩
  self := fun A i s Q E st h => let ⟨⟨_, he⟩, _⟩ := st; wpAny_pyIter_enum he h
theorem walk_enumS {K : PySem.W.Frag} {src : Src} {xs : List V} : Walk (IteS K src) xs.length (fun H => src.at K H xs) (YPair (fun i => some (.int (i : Nat))) (fun i => xs[i]?)) := by
  refine ⟨fun i _ hi q => ⟨xs, xs[i], q, by simp [hi]⟩, fun _ q => ⟨xs, q, rfl⟩, fun i H v H' _ q y => ?_⟩
  obtain ⟨T, x, h1, h2, h3, h4⟩ := y
  exact ⟨T, .int (i : Nat), x, h1, h2, h3, rfl, h4 xs q⟩
def iEnumS (K : PySem.W.Frag) (ta : TA) : TI := fun σ H R => ta σ H fun vs H1 => ∃ src xs, vs = [src.v] ∧ src.at K H1 xs ∧ R (IteS K src) H1
theorem arE (n c : Nat) (h : c = n ∨ c < n) (e : n + 1 = c) : False := by omega
theorem pi_enumS {X : Cx} {e : Expr} {ta : TA} {p pos tpos : Pos} {elts : List Expr} {kk : Nat} (hg : Gl X "enumerate") (hm : X.mg "enumerate" = none) (ha : PA X [e] ta) (hs : starEach [e] X.env = [(false, eval e X.env)] := by rfl) :
    PI X (.Tuple elts kk tpos) (.Call (.Name "enumerate" p) [e] [] pos) (iEnumS X.K ta) := by
  refine ⟨fun pins s σ H R I h => ?_⟩
  refine Call_ (ld_blt I hg hm boot_enumerate (PyProof.Rows.callWith_type1 (thn (ha.run pos pins s σ H _ I h) fun us s1 ⟨vs, H1, I1, r1, q1⟩ => ?_) hs rfl))
  obtain ⟨a, xs, ex, hq, q⟩ := q1
  subst ex
  cases r1 with
  | cons r rr =>
    cases rr
    obtain ⟨o1, G1, t1, B1, g1, st1, ne1, f1⟩ := Src.begins a I1 hq r
    refine enum_begins1 B1 g1 fun h' he hit hsz hk => wpAny_pyIter_enum he ?_
    have I2 : Inv X pins σ H1 { s1 with heap := h' } := I1.kept (t' := s1.toks) hk
    refine ⟨s1.heap.objs.size + 1, [s1.heap.objs.size + 1, s1.heap.objs.size], _, _, H1, rfl, I2, turn_enumS (t := t1) (s1.heap.objs.size + 1) s1.heap.objs.size (ne1 _ (Nat.le_refl _)) (Nat.succ_ne_self _) (fun hm => arE _ _ (f1 _ _ hm) rfl), ⟨⟨.none, he⟩, st1 _ _ hit⟩, fun b hb => ?_, q⟩
    have e' : b = s1.heap.objs.size + 1 ∨ b = s1.heap.objs.size := by simpa using hb
    have hle : s1.heap.objs.size ≤ b := by
      rcases e' with z | z
      · rw [z]; exact Nat.le_add_right _ _
      · rw [z]; exact Nat.le_refl _
    exact I1.fpOk hle (I1.hok.fresh hle)
end L2

set_option Elab.async false
set_option linter.all false
set_option maxRecDepth 100000
set_option maxHeartbeats 4000000
namespace PySem
open Sem (wp)
open PySem.W (KdxIt kdx_alive)
abbrev IsZipSHeld (h : Heap) (z TI TO T : Addr) (f : Bool) : Prop :=
  h.get? z = some { cls := .type "zip", dict := none, data := .fields #[rawInt T, .bool f, .bool true, .ref TI, .ref TO], slots := #[] }
section
variable {prog : Program} {w : World} {A : Around} {E : Value → Shared → Prop} {s : Shared} {z TI TO T i1 i2 : Addr} {fp1 fp2 : List Addr} {n1 n2 i : Nat} {P1 P2 : Nat → Value → Prop} {St1 St2 : Nat → Heap → Prop} {f : Bool} {oT : Obj}
theorem tupleHeld_zipS {Q : Bool → Shared → Prop} (hz : IsZipSHeld s.heap z TI TO T f) (hT : s.heap.get? T = some oT)
    (h : ∀ h', IsZipSHeld h' z TI TO T true → Heap.SameBut z s.heap h' → Q false { s with heap := h' }) : wpAny (model prog w) A (Builtin.SmallTypes.ownedTupleIsFree (.ref z)) Q E s := by
  unfold Builtin.SmallTypes.ownedTupleIsFree
  refine wpAny_bind (wpAny_field hz rfl (x := rawInt T) rfl ?_)
  show wpAny _ _ (loadIfAlive ((T : Int).toNat) >>= _) _ _ _
  rw [Int.toNat_natCast]
  refine wpAny_bind (kdx_alive hT ?_)
  simp only [Option.isNone_some, Bool.false_eq_true, if_false]
  refine wpAny_bind (wpAny_field hz rfl (x := .bool f) rfl ?_)
  cases f with
  | true =>
    rw [if_neg (show ¬ ((Value.bool true != Value.bool true) = true) from Bool.false_ne_true)]
    exact wpAny_pure (h s.heap hz (Heap.SameBut.refl _ _))
  | false =>
    rw [if_pos (show (Value.bool false != Value.bool true) = true from rfl)]
    exact wpAny_bind (wpAny_setField_rec hz (by simp) fun h₁ hz₁ hs₁ => wpAny_pure (h h₁ hz₁ hs₁))
theorem zipS_item_held {Q : Value → Shared → Prop} (S : ZipSep2 z TI TO i1 i2 fp1 fp2) (D1 : Draws prog w A i1 fp1 n1 P1 St1) (D2 : Draws prog w A i2 fp2 n2 P2 St2)
    (hz : IsZipSHeld s.heap z TI TO T f) (hT : s.heap.get? T = some oT) (hTI : IsTupOf2 s.heap TI (.ref i1) (.ref i2)) (st1 : St1 i s.heap) (st2 : St2 i s.heap) (hlt1 : i < n1) (hlt2 : i < n2)
    (hQ : ∀ x1 x2 h' tk, P1 i x1 → P2 i x2 → IsZipSHeld h' z TI TO T true → St1 (i + 1) h' → St2 (i + 1) h' → IsTupOf2 h' s.heap.objs.size x1 x2 → h'.objs.size = s.heap.objs.size + 1 →
      (∀ c o, c ≠ z → c ≠ i1 → c ≠ i2 → s.heap.get? c = some o → h'.get? c = some o) → Q (.ref s.heap.objs.size) { s with heap := h', toks := tk }) :
    wpAny (model prog w) A (Builtin.«zip.__next__» ⟨[.ref z], []⟩) (fun fin s' => ∃ v, fin = .done (.ret v) ∧ Q v s') E s := by
  obtain ⟨hp, g, d, tk0, os⟩ := s
  show wpAny _ _ (field (.ref z) 2 >>= _) _ _ _
  refine wpAny_bind (wpAny_field hz rfl (x := .bool true) rfl ?_)
  show wpAny _ _ (field (.ref z) 3 >>= _) _ _ _
  refine wpAny_bind (wpAny_field hz rfl (x := .ref TI) rfl ?_)
  refine wpAny_bind (wpAny_seqItems hTI rfl ?_)
  show wpAny _ _ (Builtin.SmallTypes.ownedTupleIsFree (.ref z) >>= _) _ _ _
  refine wpAny_bind (tupleHeld_zipS hz hT fun g0 hz0 hs0 => ?_)
  replace hs0 : Heap.SameBut z hp g0 := hs0
  simp only [Bool.false_eq_true, if_false]
  refine wpAny_bind ?_
  rw [← Array.forIn_toList]
  simp only [List.forIn_cons, List.forIn_nil]
  refine wpAny_bind (wpAny_bind (wpAny_holding ?_))
  show wpAny _ _ (Builtin.SmallTypes.nextOrEnd (.ref i1)) _ _ ⟨g0, g, d, tk0, os⟩
  refine D1.endItem hlt1 (D1.over st1 hs0 S.zf1) fun x1 p1 tk1 hx1 sn1 hp1 => wpAny_pure ?_
  replace hp1 : Heap.SameBut i1 g0 p1 := hp1
  refine wpAny_bind (wpAny_bind (wpAny_holding ?_))
  show wpAny _ _ (Builtin.SmallTypes.nextOrEnd (.ref i2)) _ _ ⟨p1, g, d, tk1, os⟩
  refine D2.endItem hlt2 (D2.over (D2.over st2 hs0 S.zf2) hp1 S.sep1_2) fun x2 p2 tk2 hx2 sn2 hp2 => wpAny_pure (wpAny_pure ?_)
  replace hp2 : Heap.SameBut i2 p1 p2 := hp2
  show wpAny _ _ (newTuple [x1, x2] >>= _) _ _ ⟨p2, g, d, tk2, os⟩
  refine wpAny_bind (wpAny_newTuple ?_)
  have hsz : p2.objs.size = hp.objs.size := by rw [hp2.1, hp1.1, hs0.1]
  have hzz : IsZipSHeld p2 z TI TO T true := hp2.extBut _ _ S.zi2 (hp1.extBut _ _ S.zi1 hz0)
  have hk : ∀ c o, c ≠ z → c ≠ i1 → c ≠ i2 → hp.get? c = some o → p2.get? c = some o := fun c o c1 c2 c3 e => hp2.extBut _ _ c3 (hp1.extBut _ _ c2 (hs0.extBut _ _ c1 e))
  have hj1 : St1 (i + 1) p2 := D1.over sn1 hp2 S.sep2_1
  refine wpAny_pure ⟨_, rfl, ?_⟩
  show Q (.ref p2.objs.size) _
  have hpr : IsTupOf2 (p2.push { cls := .type "tuple", data := .seq #[x1, x2] }) p2.objs.size x1 x2 := Heap.get?_push_size _ rfl
  have hz4 : (p2.push { cls := .type "tuple", data := .seq #[x1, x2] }).objs.size = p2.objs.size + 1 := Heap.size_push ..
  rw [hsz] at hpr hz4 ⊢
  exact hQ x1 x2 _ tk2 hx1 hx2 (Heap.get?_push_of_some _ hzz) (D1.frame _ _ _ hj1 fun b hb o e => Heap.get?_push_of_some _ e) (D2.frame _ _ _ sn2 fun b hb o e => Heap.get?_push_of_some _ e) hpr hz4 fun c o c1 c2 c3 e => Heap.get?_push_of_some _ (hk c o c1 c2 c3 e)
theorem zipS_end_held {Q : Fin → Shared → Prop} (hh : A.handled = none) (S : ZipSep2 z TI TO i1 i2 fp1 fp2) (D1 : Draws prog w A i1 fp1 i P1 St1) (D2 : Draws prog w A i2 fp2 i P2 St2)
    (hz : IsZipSHeld s.heap z TI TO T f) (hT : s.heap.get? T = some oT) (hTI : IsTupOf2 s.heap TI (.ref i1) (.ref i2)) (st1 : St1 i s.heap) (st2 : St2 i s.heap)
    (hE : ∀ h' e, (∀ c o, c ≠ z → c ≠ i1 → c ≠ i2 → s.heap.get? c = some o → h'.get? c = some o) → (∃ o, h'.get? e = some o ∧ o.cls = .type "StopIteration") → E (.ref e) { s with heap := h' }) :
    wpAny (model prog w) A (Builtin.«zip.__next__» ⟨[.ref z], []⟩) Q E s := by
  obtain ⟨hp, g, d, tk0, os⟩ := s
  show wpAny _ _ (field (.ref z) 2 >>= _) _ _ _
  refine wpAny_bind (wpAny_field hz rfl (x := .bool true) rfl ?_)
  show wpAny _ _ (field (.ref z) 3 >>= _) _ _ _
  refine wpAny_bind (wpAny_field hz rfl (x := .ref TI) rfl ?_)
  refine wpAny_bind (wpAny_seqItems hTI rfl ?_)
  show wpAny _ _ (Builtin.SmallTypes.ownedTupleIsFree (.ref z) >>= _) _ _ _
  refine wpAny_bind (tupleHeld_zipS hz hT fun g0 hz0 hs0 => ?_)
  replace hs0 : Heap.SameBut z hp g0 := hs0
  simp only [Bool.false_eq_true, if_false]
  refine wpAny_bind ?_
  rw [← Array.forIn_toList]
  simp only [List.forIn_cons, List.forIn_nil]
  refine wpAny_bind (wpAny_bind (wpAny_holding ?_))
  show wpAny _ _ (Builtin.SmallTypes.nextOrEnd (.ref i1)) _ _ ⟨g0, g, d, tk0, os⟩
  refine D1.endDone (D1.over st1 hs0 S.zf1) fun q hq => ?_
  replace hq : Heap.ExtBut i1 g0 q := hq
  refine wpAny_bind ?_
  refine wpAny_bind ?_
  show wpAny (model prog w) A (forIn ([(Value.ref i2, 1)] : List (Value × Nat)) PUnit.unit _) _ _ _
  simp only [List.forIn_cons, List.forIn_nil]
  refine wpAny_bind ?_
  refine wpAny_bind (D2.endDone (s := ⟨q, g, d, tk0, os⟩) (D2.frame _ _ _ (D2.over st2 hs0 S.zf2) fun b hb o e => hq b o (fun x => S.sep1_2 (x ▸ hb)) e) fun r hr => ?_)
  replace hr : Heap.ExtBut i2 q r := hr
  refine wpAny_pure (wpAny_pure ?_)
  refine wpAny_bind (wpAny_rule ?_)
  show wpAny _ _ (newExc (.type "StopIteration") [] >>= _) _ _ _
  refine wpAny_bind ?_
  simp only [newExc, newTuple]
  refine wpAny_bind (wpAny_newObj_type ?_ (by size_fits))
  refine wpAny_bind (m := firstArgMember _ _) (wpAny_of_eq (a := Value.none) (by first | rfl | (simp only [firstArgMember]; rfl)) ?_)
  refine wpAny_newObj_type ?_ (by size_fits)
  simp only [raiseNew]
  refine wpAny_bind (wpAny_handled ?_)
  rw [hh]
  refine wpAny_bind (wpAny_pure (wpAny_throw ?_))
  refine hE _ _ (fun c o cz c1 c2 x => ?_) ⟨_, Heap.get?_push_size _ rfl, rfl⟩
  exact Heap.get?_push_of_some _ (Heap.get?_push_of_some _ (hr _ _ c2 (hq _ _ c1 (hs0.extBut _ _ cz x))))
theorem pyNext_zipS_item_held {Q : Option Value → Shared → Prop} (S : ZipSep2 z TI TO i1 i2 fp1 fp2) (D1 : Draws prog w A.in1 i1 fp1 n1 P1 St1) (D2 : Draws prog w A.in1 i2 fp2 n2 P2 St2)
    (hz : IsZipSHeld s.heap z TI TO T f) (hT : s.heap.get? T = some oT) (hTI : IsTupOf2 s.heap TI (.ref i1) (.ref i2)) (st1 : St1 i s.heap) (st2 : St2 i s.heap) (hlt1 : i < n1) (hlt2 : i < n2)
    (hQ : ∀ x1 x2 h' tk, P1 i x1 → P2 i x2 → IsZipSHeld h' z TI TO T true → St1 (i + 1) h' → St2 (i + 1) h' → IsTupOf2 h' s.heap.objs.size x1 x2 → h'.objs.size = s.heap.objs.size + 1 →
      (∀ c o, c ≠ z → c ≠ i1 → c ≠ i2 → s.heap.get? c = some o → h'.get? c = some o) → Q (some (.ref s.heap.objs.size)) { s with heap := h', toks := tk }) :
    wpAny (model prog w) A (pyNext (.ref z)) Q E s := by
  have hT' : s.TypeIs (.ref z) "zip" := ⟨_, hz, rfl⟩
  unfold pyNext
  exact wpAny_bind (wpAny_attempt (wpAny_callSpecial?_slot (name := Str.ofString "__next__") hT' F.slot_zip_next
    (wpAny_call_entry F.slot_zip_next hT' F.entry_zip_next
      (zipS_item_held S D1 D2 hz hT hTI st1 st2 hlt1 hlt2 fun x1 x2 h' tk y1 y2 b1 d1 d2 b5 b6 b7 => wpAny_pure (hQ x1 x2 h' tk y1 y2 b1 d1 d2 b5 b6 b7)) (F.args_zip_next_1 _))))
theorem pyNext_zipS_end_held {Q : Option Value → Shared → Prop} (hh : A.handled = none) (S : ZipSep2 z TI TO i1 i2 fp1 fp2) (D1 : Draws prog w A.in1 i1 fp1 i P1 St1) (D2 : Draws prog w A.in1 i2 fp2 i P2 St2)
    (hz : IsZipSHeld s.heap z TI TO T f) (hT : s.heap.get? T = some oT) (hTI : IsTupOf2 s.heap TI (.ref i1) (.ref i2)) (st1 : St1 i s.heap) (st2 : St2 i s.heap)
    (hQ : ∀ h', (∀ c o, c ≠ z → c ≠ i1 → c ≠ i2 → s.heap.get? c = some o → h'.get? c = some o) → Q none { s with heap := h' }) : wpAny (model prog w) A (pyNext (.ref z)) Q E s := by
  have hT' : s.TypeIs (.ref z) "zip" := ⟨_, hz, rfl⟩
  unfold pyNext
  refine wpAny_bind (wpAny_attempt (wpAny_callSpecial?_slot (name := Str.ofString "__next__") hT' F.slot_zip_next
    (wpAny_call_entry F.slot_zip_next hT' F.entry_zip_next (zipS_end_held hh S D1 D2 hz hT hTI st1 st2 fun h' e hk he => ?_) (F.args_zip_next_1 _))))
  obtain ⟨o, ho, hc⟩ := he
  refine wpAny_bind (wpAny_isInstance (T := "StopIteration") (b := true) ⟨o, ho, hc⟩ isSubtype_stop ?_)
  exact wpAny_pure (hQ _ hk)
end
section
variable {prog : Program} {w : World}
/-- zip(t1, t2, strict=True) of two tuples of one length, handed to dict() -/
theorem PairArg.zipS (z TI TO i1 i2 t1 t2 : Addr) (S : ZipSep2 z TI TO i1 i2 [i1, t1] [i2, t2]) (xs ys : Array Value) (n : Nat) (hx : xs.size = n) (hy : ys.size = n) :
    PairArg prog w "zip" z [z, TI, TO, i1, i2, t1, t2] [z, TO, i1, i2] n (fun i k v => xs[i]? = some k ∧ ys[i]? = some v)
      (fun h => IsZipS h z TI TO .none ∧ IsTupOf2 h TI (.ref i1) (.ref i2) ∧ (∃ a b, IsTupOf2 h TO a b) ∧ h.IsTupleIter i1 t1 0 ∧ h.IsTupleIter i2 t2 0 ∧ h.IsTuple t1 xs ∧ h.IsTuple t2 ys) where
  type := fun s ok => ⟨_, ok.1, rfl⟩
  notDict := by decide
  keep := fun h h' ok hk => by
    obtain ⟨hz, hTI, ⟨a, b, hTO⟩, h1, h2, hl1, hl2⟩ := ok
    exact ⟨hk _ _ hz, hk _ _ hTI, ⟨a, b, hk _ _ hTO⟩, h1.at fun o e => hk _ o e, h2.at fun o e => hk _ o e, hl1.at fun o e => hk _ o e, hl2.at fun o e => hk _ o e⟩
  there := fun h ok b hb => by
    obtain ⟨hz, hTI, ⟨a, c, hTO⟩, ⟨o1, h1, _⟩, ⟨o2, h2, _⟩, ⟨o3, hl1, _⟩, ⟨o4, hl2, _⟩⟩ := ok
    simp only [List.mem_cons, List.not_mem_nil, or_false] at hb
    rcases hb with rfl | rfl | rfl | rfl | rfl | rfl | rfl
    all_goals first | exact ⟨_, hz⟩ | exact ⟨_, hTI⟩ | exact ⟨_, hTO⟩ | exact ⟨_, h1⟩ | exact ⟨_, h2⟩ | exact ⟨_, hl1⟩ | exact ⟨_, hl2⟩
  sub := fun b hb => by simp at hb ⊢; rcases hb with rfl | rfl | rfl | rfl <;> simp
  noKeys := fun A s Q E hA ok h => getAttrOr_miss_zip ok.1 rfl rfl rfl zip_no_keys (by decide +kernel) hA h
  iter := fun A s d Q E hA ok hd hdf h => by
    obtain ⟨hz, hTI, ⟨a, b, hTO⟩, h1, h2, hl1, hl2⟩ := ok
    simp only [List.mem_cons, List.not_mem_nil, or_false, not_or] at hdf
    obtain ⟨dz, dTI, dTO, di1, di2, dl1, dl2⟩ := hdf
    have e1 : t1 ≠ z := fun e => S.zf1 (by simp [e])
    have e2 : t2 ≠ z := fun e => S.zf2 (by simp [e])
    have e3 : t1 ≠ i1 := fun e => by
      obtain ⟨o, p, c, _⟩ := hl1; obtain ⟨o', p', c', _⟩ := h1
      rw [e, p'] at p; cases p; rw [c'] at c; simp at c
    have e4 : t2 ≠ i2 := fun e => by
      obtain ⟨o, p, c, _⟩ := hl2; obtain ⟨o', p', c', _⟩ := h2
      rw [e, p'] at p; cases p; rw [c'] at c; simp at c
    have e5 : t1 ≠ i2 := fun e => S.sep2_1 (by simp [e])
    have e6 : t2 ≠ i1 := fun e => S.sep1_2 (by simp [e])
    have e7 : t1 ≠ TO := fun e => S.Tf1 (by simp [e])
    have e8 : t2 ≠ TO := fun e => S.Tf2 (by simp [e])
    have D1 : ∀ A', A'.handled = none → Draws prog w A' i1 [i1, t1] n (fun i v => xs[i]? = some v) (fun i h => h.IsTupleIter i1 t1 i ∧ h.IsTuple t1 xs) := fun A' hA' => hx ▸ Draws.tuple hA' i1 t1 e3 xs
    have D2 : ∀ A', A'.handled = none → Draws prog w A' i2 [i2, t2] n (fun i v => ys[i]? = some v) (fun i h => h.IsTupleIter i2 t2 i ∧ h.IsTuple t2 ys) := fun A' hA' => hy ▸ Draws.tuple hA' i2 t2 e4 ys
    refine pyIter_zipS hz (h z [z, TO, i1, i2] (fun i h => IsTupOf2 h TI (.ref i1) (.ref i2) ∧ h.IsTupleIter i1 t1 i ∧ h.IsTupleIter i2 t2 i ∧ h.IsTuple t1 xs ∧ h.IsTuple t2 ys ∧
      ((IsZipS h z TI TO .none ∧ ∃ a b, IsTupOf2 h TO a b) ∨ ∃ T f oT, IsZipSHeld h z TI TO T f ∧ h.get? T = some oT ∧ T ≠ z ∧ T ≠ i1 ∧ T ≠ i2 ∧ T ≠ d)) s.heap s.toks ?_
      ⟨hTI, h1, h2, hl1, hl2, .inl ⟨hz, a, b, hTO⟩⟩ (fun _ _ e => e) fun b hb => .inl hb)
    exact {
      off := fun hm => by
        simp only [List.mem_cons, List.not_mem_nil, or_false] at hm
        rcases hm with e | e | e | e
        · exact dz e
        · exact dTO e
        · exact di1 e
        · exact di2 e
      frame := fun i h₁ h₂ st hk => by
        obtain ⟨hTI, h1, h2, hl1, hl2, hz⟩ := st
        refine ⟨hk _ _ (Ne.symm dTI) hTI, h1.at fun o e => hk _ o (Ne.symm di1) e, h2.at fun o e => hk _ o (Ne.symm di2) e, hl1.at fun o e => hk _ o (Ne.symm dl1) e, hl2.at fun o e => hk _ o (Ne.symm dl2) e, ?_⟩
        rcases hz with ⟨hz, a, b, hTO⟩ | ⟨T, f, oT, hz, hT, r1, r2, r3, r4⟩
        · exact .inl ⟨hk _ _ (Ne.symm dz) hz, a, b, hk _ _ (Ne.symm dTO) hTO⟩
        · exact .inr ⟨T, f, oT, hk _ _ (Ne.symm dz) hz, hk _ _ r4 hT, r1, r2, r3, r4⟩
      item := fun i s₁ Q₁ E₁ hi st hds hQ => by
        obtain ⟨hTI, h1, h2, hl1, hl2, hz⟩ := st
        have lt : ∀ {c o}, s₁.heap.get? c = some o → s₁.heap.objs.size ≠ c := fun e => Nat.ne_of_gt (Heap.lt_size e)
        have n1 : s₁.heap.objs.size ≠ i1 := let ⟨_, e, _⟩ := h1; lt e
        have n2 : s₁.heap.objs.size ≠ i2 := let ⟨_, e, _⟩ := h2; lt e
        rcases hz with ⟨hz, a, b, hTO⟩ | ⟨T, f, oT, hz, hT, r1, r2, r3, r4⟩
        · refine pyNext_zipS_item S (D1 A.in1 hA) (D2 A.in1 hA) hz hTI hTO ⟨h1, hl1⟩ ⟨h2, hl2⟩ hi hi fun x1 x2 h' tk p1 p2 a1 a2 a3 a4 a5 a6 hk => ?_
          exact hQ s₁.heap.objs.size _ _ h' tk ⟨p1, p2⟩ (.inl ⟨_, a5, rfl, _, rfl⟩)
            ⟨hk _ _ S.TIz S.TITO S.TIi1 S.TIi2 hTI, a3.1, a4.1, a3.2, a4.2, .inr ⟨s₁.heap.objs.size, false, _, a1, a5, lt hz, n1, n2, Nat.ne_of_gt hds⟩⟩
            fun c o hc e => hk c o (fun x => hc (by simp [x])) (fun x => hc (by simp [x])) (fun x => hc (by simp [x])) (fun x => hc (by simp [x])) e
        · refine pyNext_zipS_item_held S (D1 A.in1 hA) (D2 A.in1 hA) hz hT hTI ⟨h1, hl1⟩ ⟨h2, hl2⟩ hi hi fun x1 x2 h' tk p1 p2 a1 a3 a4 a5 a6 hk => ?_
          exact hQ s₁.heap.objs.size _ _ h' tk ⟨p1, p2⟩ (.inl ⟨_, a5, rfl, _, rfl⟩)
            ⟨hk _ _ S.TIz S.TIi1 S.TIi2 hTI, a3.1, a4.1, a3.2, a4.2, .inr ⟨T, true, oT, a1, hk _ _ r1 r2 r3 hT, r1, r2, r3, r4⟩⟩
            fun c o hc e => hk c o (fun x => hc (by simp [x])) (fun x => hc (by simp [x])) (fun x => hc (by simp [x])) e
      done := fun s₁ Q₁ E₁ st hQ => by
        obtain ⟨hTI, h1, h2, hl1, hl2, hz⟩ := st
        rcases hz with ⟨hz, a, b, hTO⟩ | ⟨T, f, oT, hz, hT, r1, r2, r3, r4⟩
        · exact pyNext_zipS_end hA S (D1 A.in1 hA) (D2 A.in1 hA) hz hTI hTO ⟨h1, hl1⟩ ⟨h2, hl2⟩ fun h' hk => hQ h' s₁.toks fun c o hc e => hk c o (fun x => hc (by simp [x])) (fun x => hc (by simp [x])) (fun x => hc (by simp [x])) (fun x => hc (by simp [x])) e
        · exact pyNext_zipS_end_held hA S (D1 A.in1 hA) (D2 A.in1 hA) hz hT hTI ⟨h1, hl1⟩ ⟨h2, hl2⟩ fun h' hk => hQ h' s₁.toks fun c o hc e => hk c o (fun x => hc (by simp [x])) (fun x => hc (by simp [x])) (fun x => hc (by simp [x])) e }
end
end PySem

set_option Elab.async false
set_option linter.all false
set_option maxRecDepth 100000
set_option maxHeartbeats 4000000
namespace L2
open PySem PySem.Spec PyProof.Rows
theorem KV.zip : ∀ {ks : List Key} {zs : List V} {us ws : List Value}, Vals (ks.map kV) us → Vals zs ws → ks.length = zs.length → ∃ kvs : List (Key × Value), KV (ks.zip zs) kvs ∧ kvs.length = ks.length ∧ ∀ (i : Nat) (k : Key) (w : Value), kvs[i]? = some (k, w) → ∃ u, us[i]? = some u ∧ RelV (kV k) u ∧ ws[i]? = some w
  | [], [], _, _, _, _, _ => ⟨[], .nil, rfl, fun i k w h => by simp at h⟩
  | [], _ :: _, _, _, _, _, h => by simp at h
  | _ :: _, [], _, _, _, _, h => by simp at h
  | k :: ks, z :: zs, us, ws, r, q, h => by
    cases r with
    | cons r1 r2 =>
      cases q with
      | cons q1 q2 =>
        rename_i u us' w ws'
        obtain ⟨kvs, a, b, c⟩ := KV.zip r2 q2 (by simpa using h)
        refine ⟨(k, w) :: kvs, .cons ⟨rfl, q1⟩ a, by simp [b], fun i k' w' e => ?_⟩
        cases i with
        | zero =>
          have e' : (k, w) = (k', w') := by simpa using e
          cases e'
          exact ⟨u, rfl, r1, rfl⟩
        | succ i =>
          obtain ⟨x, h1, h2, h3⟩ := c i k' w' (by simpa using e)
          exact ⟨x, by simpa using h1, h2, by simpa using h3⟩
def tDictZip (K : PySem.W.Frag) (ta : TA) : TE := fun σ H Q => ta σ H fun vs H1 => ∃ (a b : Addr) (ks : List Key) (zs : List V), vs = [.ref a, .ref b] ∧ SqT K H1 a (ks.map kV) ∧ SqT K H1 b zs ∧ ks.length = zs.length ∧ ∀ p, H1 p = none → Q (.ref p) (upd H1 p (.dK (mergeK [] (ks.zip zs))))
theorem arD (n a : Nat) (h : a < n) : n + 5 ≠ n + 4 ∧ n + 5 ≠ n + 2 ∧ n + 5 ≠ n + 3 ∧ n + 5 ≠ n ∧ n + 5 ≠ n + 1 ∧ n + 5 ≠ a ∧ n ≤ n + 5 := by omega
theorem arW (n b : Nat) (h : b < n) : b ≠ n + 4 ∧ b ≠ n + 3 ∧ b ≠ n ∧ b ≠ n + 1 := by omega
theorem pe_dictZip {X : Cx} {e e2 : Expr} {ta : TA} {p p2 pos pos2 kp cp : Pos} {j : Nat} (hc : X.calm = true) (hg2 : Gl X "dict") (hm2 : X.mg "dict" = none) (hg : Gl X "zip") (hm : X.mg "zip" = none) (ha : PA X [e, e2] ta)
    (he : backTo pos (starEach [e, e2] X.env) = (false, eval e X.env) :: backTo pos (starEach [e2] X.env) := by rfl)
    (hpl : (backTo pos (starEach [e, e2] X.env)).any (·.1) = false := by rfl)
    (na : starEach [.Call (.Name "zip" p) [e, e2] [⟨some "strict", .Constant (.bool true) j cp, kp⟩] pos] X.env = (false, eval (.Call (.Name "zip" p) [e, e2] [⟨some "strict", .Constant (.bool true) j cp, kp⟩] pos) X.env) :: starEach [] X.env := by rfl) :
    PE X (.Call (.Name "dict" p2) [.Call (.Name "zip" p) [e, e2] [⟨some "strict", .Constant (.bool true) j cp, kp⟩] pos] [] pos2) (tDictZip X.K ta) := by
  refine ⟨fun pins s σ H Q I h => ?_⟩
  refine Call_ (ld_blt I hg2 hm2 boot_dict ?_)
  refine PyProof.Rows.callWith_type1 (PyProof.Rows.args_cons ?_ na) na rfl
  refine wpAny_Call_Name_kw (ld_blt I hg hm PyProof.Rows.boot_zip ?_)
  refine PyProof.Rows.callWith_typeKw (thn (ha.run pos pins s σ H _ I h) fun us s1 ⟨vs, H1, I1, r1, q1⟩ => ?_) he hpl
  refine PyProof.Rows.kws_cons ?_
  refine wpAny_Constant_bool ?_
  refine PyProof.Rows.kws_nil ?_
  obtain ⟨a, b, ks, zs, ex, hqx, hqy, hl, q⟩ := q1
  subst ex
  obtain ⟨u, v, rfl, ra, rb⟩ := r1.two
  cases (show u = Value.ref a from ra)
  cases (show v = Value.ref b from rb)
  obtain ⟨xs, rx, px, zx⟩ := I1.tuple hqx
  obtain ⟨ys, ry, py, zy⟩ := I1.tuple hqy
  have hA : X.A.handled = none := I1.ok.hd hc
  have hax : a < s1.heap.objs.size := by obtain ⟨o, ho, _⟩ := id px; exact Heap.lt_size ho
  have hbx : b < s1.heap.objs.size := by obtain ⟨o, ho, _⟩ := id py; exact Heap.lt_size ho
  refine zipS_begins2 (begins_tuple a xs.toArray) (begins_tuple b ys.toArray) px py fun h' hz hTI hTO h1 h2 hsz hk => ?_
  refine PyProof.Rows.args_nil ?_
  have n1 : xs.toArray.size = ks.length := by rw [List.size_toArray, ← rx.length, List.length_map]
  have n2 : ys.toArray.size = ks.length := by rw [List.size_toArray, ← ry.length, hl]
  have S : ZipSep2 (s1.heap.objs.size + 4) (s1.heap.objs.size + 2) (s1.heap.objs.size + 3) s1.heap.objs.size (s1.heap.objs.size + 1) [s1.heap.objs.size, a] [s1.heap.objs.size + 1, b] :=
    sep_new (s1 := .tup a) (s2 := .tup b) (fun it c hc => by
      have e : c = it ∨ c = a := by simpa [Src.fp] using hc
      rcases e with e | e
      · exact .inl e
      · exact .inr (by rw [e]; exact hax)) (fun it c hc => by
      have e : c = it ∨ c = b := by simpa [Src.fp] using hc
      rcases e with e | e
      · exact .inl e
      · exact .inr (by rw [e]; exact hbx))
  obtain ⟨kvs, kv1, kv2, kv3⟩ := KV.zip rx ry hl
  have P := PairArg.zipS (prog := X.prog) (w := X.w) _ _ _ _ _ a b S xs.toArray ys.toArray ks.length n1 n2
  refine PySem.call_dict_pairs (knd := mixKind X.prog X.w) (kvs := kvs) (s := { s1 with heap := h' }) P hA ⟨hz, hTI, ⟨_, _, hTO⟩, ⟨_, h1, rfl, rfl⟩, ⟨_, h2, rfl, rfl⟩, (show s1.heap.IsTuple a xs.toArray from px).at fun o e => hk _ o e, (show s1.heap.IsTuple b ys.toArray from py).at fun o e => hk _ o e⟩ ?_ ?_ fun h'' tk hd' hk' => ?_
  · refine ⟨kv2, fun i key v ⟨e1, e2⟩ => ?_⟩
    have e1' : xs[i]? = some key := by simpa using e1
    have e2' : ys[i]? = some v := by simpa using e2
    have hlt : i < kvs.length := by
      rw [kv2, ← n1, List.size_toArray]
      exact (List.getElem?_eq_some_iff.mp e1').1
    obtain ⟨u, h1, h2, h3⟩ := kv3 i kvs[i].1 kvs[i].2 (List.getElem?_eq_getElem hlt)
    rw [e1'] at h1; cases h1
    rw [e2'] at h3; cases h3
    exact ⟨kvs[i].1, List.getElem?_eq_getElem hlt, kV_is h2⟩
  · rw [List.length_map] at zx; exact zx
  · have ed : h'.objs.size = s1.heap.objs.size + 5 := hsz
    have kk : ∀ c o, s1.heap.get? c = some o → h''.get? c = some o := fun c o e => hk' c o (fun hm => by
      have hlt := Heap.lt_size e
      obtain ⟨w1, w2, w3, w4⟩ := arW _ _ hlt
      have e' : c = s1.heap.objs.size + 4 ∨ c = s1.heap.objs.size + 3 ∨ c = s1.heap.objs.size ∨ c = s1.heap.objs.size + 1 := by simpa using hm
      rcases e' with z | z | z | z
      · exact w1 z
      · exact w2 z
      · exact w3 z
      · exact w4 z) (hk c o e)
    have hm' : (h'.objs.size == sysModules) = false := beq_eq_false_iff_ne.mpr (Nat.ne_of_gt (Nat.lt_of_lt_of_le I1.big (by rw [ed]; exact Nat.le_add_right _ _)))
    have hlen : (mergeK [] (ks.zip zs)).length ≤ sizeLine := by
      refine Nat.le_trans (length_mergeK _ []) ?_
      rw [List.length_nil, Nat.zero_add, List.length_zip, ← hl, Nat.min_self]
      rw [List.length_map] at zx; exact zx
    exact ⟨.ref h'.objs.size, upd H1 h'.objs.size (.dK (mergeK [] (ks.zip zs))), I1.laid (t' := tk) kk (by rw [ed]; exact Nat.le_add_right _ _) (show ObjOk X.prog X.w _ _ _ (.dK (mergeK [] (ks.zip zs))) from ⟨hlen, hm', merged [] kvs, KV.merge kv1 .nil, hd'⟩), rfl, q _ (I1.hok.fresh (by rw [ed]; exact Nat.le_add_right _ _))⟩
/-- d.update(e), two dicts of texts and ints -/
def rDUpd : V → List V → Hp → VK → Prop := fun x vs H Q => ∃ (a b : Addr) (kvs more : List (Key × V)), x = .ref a ∧ vs = [.ref b] ∧ a ≠ b ∧ H a = some (.dK kvs) ∧ H b = some (.dK more) ∧ kvs.length + more.length ≤ sizeLine ∧ Q .non (upd H a (.dK (mergeK kvs more)))
theorem mt_dupd {X : Cx} : MtR X "dict.update" rDUpd := by
  intro pins s σ H x vs v us Q I rx rv h
  obtain ⟨a, b, kvs, more, rfl, rfl, hne, ha, hb, hz, q⟩ := h
  cases (show v = Value.ref a from rx)
  obtain ⟨u, rfl, ru⟩ := rv.one
  cases (show u = Value.ref b from ru)
  obtain ⟨z1, d1, vs1, r1, e1⟩ := dk_of I.hok ha
  obtain ⟨z2, d2, vs2, r2, e2⟩ := dk_of I.hok hb
  refine call_meetsIn PySem.F.slot_dict_update e1.typeIs PySem.F.entry_dict_update (PySem.F.args_dict_update_2 _ _) (meets_dict_update (mixKind X.prog X.w) a b hne d2)
    ⟨vs1, vs2, e1, e2, by rw [← r1.length, ← r2.length]; exact hz, fun h' hm _ hs => ?_⟩
  have he : ∃ q, h'.get? a = some q := let ⟨q, _, _, hq, _⟩ := hm; ⟨q, hq⟩
  exact ⟨.non, _, d_write (t' := s.toks) I (by rw [ha]; exact True.intro) hs he (dk_new (Nat.le_trans (length_mergeK more kvs) hz) d1 (r2.merge r1) hm), rfl, q⟩
end L2

set_option Elab.async false
set_option linter.all false
set_option maxRecDepth 100000
set_option maxHeartbeats 4000000
/-! data that never changes: none, bools, ints, texts, tuples of such -/
namespace CK
open PySem PySem.Spec PyProof.Rows L2 Evl
abbrev St := L2.St
mutual
inductive Im (K : PySem.W.Frag) (H : Hp) : V → PyData → Prop
  | non : Im K H .non .none
  | bl (b : Bool) : Im K H (.bl b) (.bool b)
  | int (i : Int) : Im K H (.int i) (.int i)
  | str (x : Str) : Im K H (.str x) (.str x)
  | tup {a : Addr} {xs : List V} {ds : List PyData} : SqT K H a xs → ImAll K H xs ds → Im K H (.ref a) (.tuple ds)
inductive ImAll (K : PySem.W.Frag) (H : Hp) : List V → List PyData → Prop
  | nil : ImAll K H [] []
  | cons {v : V} {vs : List V} {d : PyData} {ds : List PyData} : Im K H v d → ImAll K H vs ds → ImAll K H (v :: vs) (d :: ds)
end
/-- tuples stay -/
def Ti (H H' : Hp) : Prop := ∀ a xs, Rd H a (.tup xs) → Rd H' a (.tup xs)
theorem Ti.refl (H : Hp) : Ti H H := fun _ _ h => h
theorem Ti.trans {H H1 H2 : Hp} (a : Ti H H1) (b : Ti H1 H2) : Ti H H2 := fun x o h => b x o (a x o h)
theorem Ti.ex {H H' : Hp} (e : Ex H H') : Ti H H' := fun _ _ h => ex_rd e h
def NoTup (o : Option HO) : Prop := match o with
  | some (.tup _) => False
  | some (.frz _ (.tup _)) => False
  | _ => True
theorem Ti.upd {H : Hp} {p : Addr} {o : HO} (h : NoTup (H p)) : Ti H (L2.upd H p o) := fun a xs r => by
  have ne : a ≠ p := fun e => by
    subst e
    rcases r with r | ⟨ob, r⟩ <;> (rw [r] at h; exact h)
  rcases r with r | ⟨ob, r⟩
  · exact .inl (by rw [upd_ne ne]; exact r)
  · exact .inr ⟨ob, by rw [upd_ne ne]; exact r⟩
section
variable {K : PySem.W.Frag} {H H' : Hp} {v : V} {vs : List V} {d : PyData} {ds : List PyData}
theorem Ti.sq (e : Ti H H') {a : Addr} {xs : List V} (h : SqT K H a xs) : SqT K H' a xs := h.elim (fun h => .inl (e _ _ h)) .inr
mutual
theorem Im.ti (e : Ti H H') : ∀ {v : V} {d : PyData}, Im K H v d → Im K H' v d
  | _, _, .non => .non
  | _, _, .bl b => .bl b
  | _, _, .int i => .int i
  | _, _, .str x => .str x
  | _, _, .tup h1 h2 => .tup (e.sq h1) (ImAll.ti e h2)
theorem ImAll.ti (e : Ti H H') : ∀ {vs : List V} {ds : List PyData}, ImAll K H vs ds → ImAll K H' vs ds
  | _, _, .nil => .nil
  | _, _, .cons h1 h2 => .cons (Im.ti e h1) (ImAll.ti e h2)
end
theorem Im.ex (e : Ex H H') (h : Im K H v d) : Im K H' v d := h.ti (.ex e)
theorem ImAll.ex (e : Ex H H') (h : ImAll K H vs ds) : ImAll K H' vs ds := h.ti (.ex e)
mutual
theorem Im.dp : ∀ {v : V} {d : PyData}, Im K H v d → Dp K H v d
  | _, _, .non => .non
  | _, _, .bl b => .bl b
  | _, _, .int i => .int i
  | _, _, .str x => .str x
  | _, _, .tup h1 h2 => .tup h1 (ImAll.dp h2)
theorem ImAll.dp : ∀ {vs : List V} {ds : List PyData}, ImAll K H vs ds → DpAll K H vs ds
  | _, _, .nil => .nil
  | _, _, .cons h1 h2 => .cons (Im.dp h1) (ImAll.dp h2)
end
theorem ImAll.length : ∀ {vs : List V} {ds : List PyData}, ImAll K H vs ds → vs.length = ds.length
  | _, _, .nil => rfl
  | _, _, .cons _ h => by rw [List.length_cons, List.length_cons, h.length]
theorem ImAll.get : ∀ {vs : List V} {ds : List PyData} {i : Nat} {v : V}, ImAll K H vs ds → vs[i]? = some v → ∃ d, ds[i]? = some d ∧ Im K H v d
  | _, _, _, _, .nil, e => by simp at e
  | _, _, 0, _, .cons h _, e => by simp at e; subst e; exact ⟨_, rfl, h⟩
  | _, _, i + 1, _, .cons _ h, e => by simpa using ImAll.get (i := i) h (by simpa using e)
theorem ImAll.at : ∀ {vs : List V} {ds : List PyData} {i : Nat} {d : PyData}, ImAll K H vs ds → ds[i]? = some d → ∃ v, vs[i]? = some v ∧ Im K H v d
  | _, _, _, _, .nil, e => by simp at e
  | _, _, 0, _, .cons h _, e => by simp at e; subst e; exact ⟨_, rfl, h⟩
  | _, _, i + 1, _, .cons _ h, e => by simpa using ImAll.at (i := i) h (by simpa using e)
theorem ImAll.append : ∀ {xs ys : List V} {ds es : List PyData}, ImAll K H xs ds → ImAll K H ys es → ImAll K H (xs ++ ys) (ds ++ es)
  | _, _, _, _, .nil, h => h
  | _, _, _, _, .cons a b, h => .cons a (b.append h)
theorem ImAll.take : ∀ {xs : List V} {ds : List PyData} (n : Nat), ImAll K H xs ds → ImAll K H (xs.take n) (ds.take n)
  | _, _, 0, _ => .nil
  | _, _, _ + 1, .nil => .nil
  | _, _, n + 1, .cons a b => .cons a (b.take n)
theorem ImAll.drop : ∀ {xs : List V} {ds : List PyData} (n : Nat), ImAll K H xs ds → ImAll K H (xs.drop n) (ds.drop n)
  | _, _, 0, h => h
  | _, _, _ + 1, .nil => .nil
  | _, _, n + 1, .cons _ b => b.drop n
theorem ImAll.one (h : Im K H v d) : ImAll K H [v] [d] := .cons h .nil
theorem ImAll.dropLast {xs : List V} {ds : List PyData} (h : ImAll K H xs ds) : ImAll K H xs.dropLast ds.dropLast := by
  rw [List.dropLast_eq_take, List.dropLast_eq_take, h.length]
  exact h.take _
theorem ImAll.mem {xs : List V} {ds : List PyData} (h : ImAll K H xs ds) {v : V} (hv : v ∈ xs) : ∃ d, d ∈ ds ∧ Im K H v d := by
  obtain ⟨i, e⟩ := List.mem_iff_getElem?.mp hv
  obtain ⟨d, e2, q⟩ := h.get e
  exact ⟨d, List.mem_of_getElem? e2, q⟩
theorem im_strs : ∀ (xs : List Str), ImAll K H (xs.map V.str) (xs.map PyData.str)
  | [] => .nil
  | x :: xs => .cons (.str x) (im_strs xs)
theorem im_ints : ∀ (xs : List Int), ImAll K H (xs.map V.int) (xs.map PyData.int)
  | [] => .nil
  | x :: xs => .cons (.int x) (im_ints xs)
theorem im_bls : ∀ (xs : List Bool), ImAll K H (xs.map V.bl) (xs.map PyData.bool)
  | [] => .nil
  | x :: xs => .cons (.bl x) (im_bls xs)
theorem strs_im : ∀ {vs : List V} {xs : List Str}, ImAll K H vs (xs.map PyData.str) → vs = xs.map V.str
  | _, [], .nil => rfl
  | _, x :: xs, .cons h t => by cases h; rw [strs_im t]; rfl
theorem bls_im : ∀ {vs : List V} {xs : List Bool}, ImAll K H vs (xs.map PyData.bool) → vs = xs.map V.bl
  | _, [], .nil => rfl
  | _, x :: xs, .cons h t => by cases h; rw [bls_im t]; rfl
theorem ints_im : ∀ {vs : List V} {xs : List Int}, ImAll K H vs (xs.map PyData.int) → vs = xs.map V.int
  | _, [], .nil => rfl
  | _, x :: xs, .cons h t => by cases h; rw [ints_im t]; rfl
/-- the type of such data -/
def tyD : PyData → String
  | .none => "NoneType"
  | .bool _ => "bool"
  | .int _ => "int"
  | .str _ => "str"
  | .list _ => "list"
  | .tuple _ => "tuple"
  | .dict _ => "dict"
theorem sqT_ty {a : Addr} {xs : List V} (h : SqT K H a xs) : TyX K H (.ref a) (.type "tuple") := by
  rcases h with (h | ⟨o, h⟩) | ⟨o, its, n, h1, h2, _⟩
  · exact .base (.tup h)
  · exact .fTuple h
  · exact .kTuple h1 h2
theorem sqL_ty {a : Addr} {xs : List V} (h : SqL K H a xs) : TyX K H (.ref a) (.type "list") := by
  rcases h with (h | ⟨o, h⟩) | ⟨o, its, n, h1, h2, _⟩
  · exact .base (.lst h)
  · exact .base (.frz h)
  · exact .kList h1 h2
theorem Im.ty (h : Im K H v d) : TyX K H v (.type (tyD d)) := by
  cases h with
  | non => exact .base .non
  | bl b => exact .base (.bl b)
  | int i => exact .base (.int i)
  | str x => exact .base (.str x)
  | tup h1 h2 => exact sqT_ty h1
/-- isinstance(x, T) for the types above -/
def tyIs (t T : String) : Bool := t == T || (t == "bool" && T == "int")
def tysL : List String := ["NoneType", "bool", "int", "str", "list", "tuple", "dict"]
theorem kit_all : ∀ t ∈ tysL, ∀ T ∈ tysL.tail, kitB t T = some (tyIs t T) := by decide +kernel
theorem tyD_mem (d : PyData) : tyD d ∈ tysL := by cases d <;> simp [tyD, tysL]
theorem kit_d (d : PyData) {T : String} (hT : T ∈ tysL.tail) : kitB (tyD d) T = some (tyIs (tyD d) T) := kit_all _ (tyD_mem d) _ hT
end

/-! ### what evaluates to what -/
/-- to data that never changes -/
def ED (K : PySem.W.Frag) (te : TE) (σ : St) (H : Hp) (d : PyData) : Prop := ∀ H1, Ex H H1 → ∀ Q : VK, (∀ v H2, Ex H1 H2 → Im K H2 v d → Q v H2) → te σ H1 Q
/-- to a new list of such -/
def EL (K : PySem.W.Frag) (te : TE) (σ : St) (H : Hp) (ds : List PyData) : Prop := ∀ H1, Ex H H1 → ∀ Q : VK, (∀ p xs H2, H1 p = none → Ex H1 H2 → H2 p = some (.lst xs) → ImAll K H2 xs ds → Q (.ref p) H2) → te σ H1 Q
def EA (K : PySem.W.Frag) (ta : TA) (σ : St) (H : Hp) (ds : List PyData) : Prop := ∀ H1, Ex H H1 → ∀ Q : List V → Hp → Prop, (∀ vs H2, Ex H1 H2 → ImAll K H2 vs ds → Q vs H2) → ta σ H1 Q
section
variable {K : PySem.W.Frag} {σ : St} {H H' : Hp} {ta tb te tx : TE} {t u : TT} {v : V} {d e : PyData} {ds es : List PyData}
theorem ED.mono (e : Ex H H') (h : ED K te σ H d) : ED K te σ H' d := fun H1 a Q q => h H1 (e.trans a) Q q
theorem EL.mono (e : Ex H H') (h : EL K te σ H ds) : EL K te σ H' ds := fun H1 a Q q => h H1 (e.trans a) Q q
theorem EA.mono {ta : TA} (e : Ex H H') (h : EA K ta σ H ds) : EA K ta σ H' ds := fun H1 a Q q => h H1 (e.trans a) Q q
theorem ed_var {i : Nat} (h : σ[i]? = some (some v)) (hd : Im K H v d) : ED K (tVar i) σ H d := fun H1 e1 _ q => ⟨v, h, q _ H1 (Ex.refl H1) (hd.ex e1)⟩
theorem ed_c (hd : Im K H v d) : ED K (tC v) σ H d := fun H1 e1 _ q => q _ H1 (Ex.refl H1) (hd.ex e1)
theorem ed_int (i : Int) : ED K (tC (.int i)) σ H (.int i) := ed_c (.int i)
theorem ed_str (x : Str) : ED K (tC (.str x)) σ H (.str x) := ed_c (.str x)
theorem ed_bl (b : Bool) : ED K (tC (.bl b)) σ H (.bool b) := ed_c (.bl b)
theorem ed_non : ED K (tC .non) σ H .none := ed_c .non
/-- scalars -/
theorem ED.i {i : Int} (h : ED K te σ H (.int i)) : Ev te σ H (.int i) := fun H1 e1 Q q => h H1 e1 Q fun v H2 e2 r => by cases r; exact q H2 e2
theorem ED.s {x : Str} (h : ED K te σ H (.str x)) : Ev te σ H (.str x) := fun H1 e1 Q q => h H1 e1 Q fun v H2 e2 r => by cases r; exact q H2 e2
theorem ED.b {x : Bool} (h : ED K te σ H (.bool x)) : Ev te σ H (.bl x) := fun H1 e1 Q q => h H1 e1 Q fun v H2 e2 r => by cases r; exact q H2 e2
theorem ED.n (h : ED K te σ H .none) : Ev te σ H .non := fun H1 e1 Q q => h H1 e1 Q fun v H2 e2 r => by cases r; exact q H2 e2
theorem ed_ofI {i : Int} (h : Ev te σ H (.int i)) : ED K te σ H (.int i) := fun H1 e1 Q q => h H1 e1 Q fun H2 e2 => q _ H2 e2 (.int i)
theorem ed_ofS {x : Str} (h : Ev te σ H (.str x)) : ED K te σ H (.str x) := fun H1 e1 Q q => h H1 e1 Q fun H2 e2 => q _ H2 e2 (.str x)
theorem ed_ofB {x : Bool} (h : Ev te σ H (.bl x)) : ED K te σ H (.bool x) := fun H1 e1 Q q => h H1 e1 Q fun H2 e2 => q _ H2 e2 (.bl x)
theorem ed_ofN (h : Ev te σ H .non) : ED K te σ H .none := fun H1 e1 Q q => h H1 e1 Q fun H2 e2 => q _ H2 e2 .non
theorem ea_nil : EA K tNil σ H [] := fun H1 _ _ q => q [] H1 (Ex.refl H1) .nil
theorem ea_cons {tr : TA} (h : ED K ta σ H d) (hr : EA K tr σ H ds) : EA K (tCons ta tr) σ H (d :: ds) := fun H1 e Q q =>
  h H1 e _ fun v H2 e2 r => hr H2 (e.trans e2) _ fun vs H3 e3 rs => q (v :: vs) H3 (e2.trans e3) (.cons (r.ex e3) rs)
/-- (a, b, ..) -/
theorem ed_tup {ta : TA} (h : EA K ta σ H ds) (hl : ds.length ≤ 100000 := by decide) : ED K (tTup ta) σ H (.tuple ds) := fun H1 e Q q =>
  h H1 e _ fun vs H2 e2 r => ⟨sz_of (by rw [r.length]; exact hl), fun p hp => q (.ref p) _ (e2.trans (Ex.new hp)) (.tup (st_of upd_same) (r.ex (Ex.new hp)))⟩
/-- [a, b, ..] -/
theorem el_lst {ta : TA} (h : EA K ta σ H ds) (hl : ds.length ≤ 100000 := by decide) : EL K (tLst ta) σ H ds := fun H1 e Q q =>
  h H1 e _ fun vs H2 e2 r => ⟨sz_of (by rw [r.length]; exact hl), fun p hp => q p vs _ (fresh_back e2 hp) (e2.trans (Ex.new hp)) upd_same (r.ex (Ex.new hp))⟩
theorem atI_im {xs : List V} (r : ImAll K H xs ds) {i : Int} (h : atI ds i = some d) : ∃ v, atI xs i = some v ∧ Im K H v d := by
  unfold atI at h ⊢
  rw [r.length]
  cases hb : ixN ds.length i with
  | none => rw [hb] at h; cases h
  | some j =>
    rw [hb] at h
    exact r.at h
/-- t[i], t a tuple -/
theorem ed_ixT {i : Int} (ha : ED K ta σ H (.tuple ds)) (hb : Ev tb σ H (.int i)) (h : atI ds i = some d) : ED K (tOp (rIxT K) ta tb) σ H d := fun H1 e Q q =>
  ha H1 e _ fun v H2 e2 r => hb H2 (e.trans e2) _ fun H3 e3 => by
    cases r with
    | tup hs hi =>
      obtain ⟨x, hx, rx⟩ := atI_im (hi.ex e3) h
      exact ⟨_, _, i, x, rfl, rfl, ex_t e3 hs, hx, q x H3 (e2.trans e3) rx⟩
theorem ed_ixN {n : Nat} (ha : ED K ta σ H (.tuple ds)) (h : ds[n]? = some d) : ED K (tOp (rIxT K) ta (tC (.int (n : Int)))) σ H d :=
  ed_ixT ha ev_c (atI_nat h)
/-- x == y of data -/
theorem ev_eqD (ha : ED K ta σ H d) (hb : ED K tb σ H e) (h1 : SeqAt.shaped d = true) (h2 : SeqAt.shaped e = true) : Ev (tOp (rEqD K) ta tb) σ H (.bl (PyData.eqv d e)) := fun H1 e1 Q q =>
  ha H1 e1 _ fun v H2 e2 r => hb H2 (e1.trans e2) _ fun w H3 e3 r' => ⟨d, e, (r.ex e3).dp, r'.dp, h1, h2, q H3 (e2.trans e3)⟩
theorem ev_neD (ha : ED K ta σ H d) (hb : ED K tb σ H e) (h1 : SeqAt.shaped d = true) (h2 : SeqAt.shaped e = true) : Ev (tOp (rNeD K) ta tb) σ H (.bl (!PyData.eqv d e)) := fun H1 e1 Q q =>
  ha H1 e1 _ fun v H2 e2 r => hb H2 (e1.trans e2) _ fun w H3 e3 r' => ⟨d, e, (r.ex e3).dp, r'.dp, h1, h2, q H3 (e2.trans e3)⟩
theorem ev_eqS {x y : V} (ha : Ev ta σ H x) (hb : Ev tb σ H y) (h : scal x y = true) : Ev (tOp rEq ta tb) σ H (.bl (decide (x = y))) := ev_op ha hb (rv_eq h)
theorem ev_neS {x y : V} (ha : Ev ta σ H x) (hb : Ev tb σ H y) (h : scal x y = true) : Ev (tOp rNe ta tb) σ H (.bl (!decide (x = y))) := ev_op ha hb (rv_ne h)
/-- isinstance(x, T) -/
theorem ev_isi {T : String} (ha : ED K ta σ H d) (hT : T ∈ tysL.tail := by decide) : Ev (tCB (rIsi K) (tCons ta (tCons (tC (.ty T)) tNil))) σ H (.bl (tyIs (tyD d) T)) := fun H1 e Q q =>
  ha H1 e _ fun v H2 e2 r => ⟨v, .ty T, _, _, _, rfl, .ty T, r.ty, kit_ty (kit_d d hT), q H2 e2⟩
/-- x in t, t a tuple of texts -/
def lenS : List V → Hp → VK → Prop := fun xs H Q => ∃ z, xs = [.str z] ∧ z.length ≤ sizeLine ∧ Q (.int z.length) H
theorem ev_lenS {x : Str} (ha : Ev ta σ H (.str x)) (h : x.length ≤ 100000) : Ev (tCB lenS (tCons ta tNil)) σ H (.int (x.length : Int)) := fun H1 e Q q =>
  ha H1 e _ fun H2 e2 => ⟨x, rfl, sz_of h, q H2 e2⟩
theorem ev_lenT (ha : ED K ta σ H (.tuple ds)) : Ev (tCB (rLenS K) (tCons ta tNil)) σ H (.int (ds.length : Int)) := fun H1 e Q q =>
  ha H1 e _ fun v H2 e2 r => by
    cases r with
    | tup hs hi => exact ⟨_, _, rfl, .inr hs, by rw [hi.length]; exact q H2 e2⟩
theorem flat_strs (xs : List Str) : (xs.map V.str).all flatV = true := by
  rw [List.all_map]; exact List.all_eq_true.mpr fun _ _ => rfl
theorem inV_strs {x : Str} : ∀ (xs : List Str), inV (.str x) (xs.map V.str) = decide (x ∈ xs)
  | [] => by simp [inV]
  | y :: ys => by
    have ih := inV_strs (x := x) ys
    unfold inV at ih ⊢
    rw [List.map_cons, List.any_cons, ih]
    have e : eqV (V.str y) (V.str x) = decide (y = x) := by
      first | rfl | (unfold eqV; simp)
    rw [e]
    by_cases h : y = x
    · subst h; simp
    · have h' : ¬ x = y := fun q => h q.symm
      simp [h, h']
theorem ev_inTS {x : Str} {xs : List Str} (ha : Ev ta σ H (.str x)) (hb : ED K tb σ H (.tuple (xs.map .str))) : Ev (tOp (rIn K false) ta tb) σ H (.bl (decide (x ∈ xs))) := fun H1 e Q q =>
  ha H1 e _ fun H2 e2 => hb H2 (e.trans e2) _ fun w H3 e3 r => by
    cases r with
    | tup hs hi =>
      rw [strs_im hi] at hs
      refine ⟨_, _, rfl, .inr hs, rfl, flat_strs xs, ?_⟩
      rw [inV_strs]
      exact q H3 (e2.trans e3)
theorem ev_niTS {x : Str} {xs : List Str} (ha : Ev ta σ H (.str x)) (hb : ED K tb σ H (.tuple (xs.map .str))) : Ev (tOp (rIn K true) ta tb) σ H (.bl (!decide (x ∈ xs))) := fun H1 e Q q =>
  ha H1 e _ fun H2 e2 => hb H2 (e.trans e2) _ fun w H3 e3 r => by
    cases r with
    | tup hs hi =>
      rw [strs_im hi] at hs
      refine ⟨_, _, rfl, .inr hs, rfl, flat_strs xs, ?_⟩
      rw [inV_strs]
      exact q H3 (e2.trans e3)
/-- a sign in a text -/
theorem ev_inS {c : Nat} {z : Str} (ha : Ev ta σ H (.str ⟨#[c]⟩)) (hb : Ev tb σ H (.str z)) : Ev (tOp rInS ta tb) σ H (.bl (decide (c ∈ z.cps.toList))) :=
  ev_op ha hb fun H1 _ Q q => ⟨c, z, rfl, rfl, q H1 (Ex.refl H1)⟩
/-- a < b < c -/
theorem ev_chain {r r' : R2} {x y z : V} {a b : Bool} (ha : Ev ta σ H x) (hb : Ev tb σ H y) (hr : RV r x y H (.bl a)) (hc : a = true → Ev tx σ H z) (hr' : a = true → RV r' y z H (.bl b)) : Ev (tChain r r' ta tb tx) σ H (.bl (a && b)) := fun H1 e Q q =>
  ha H1 e _ fun H2 e2 => hb H2 (e.trans e2) _ fun H3 e3 => hr H3 ((e.trans e2).trans e3) _ fun H4 e4 => ⟨a, rfl, by
    cases a with
    | true =>
      show tx σ H4 fun w' H4 => r' y w' H4 Q
      exact hc rfl H4 (((e.trans e2).trans e3).trans e4) _ fun H5 e5 => hr' rfl H5 ((((e.trans e2).trans e3).trans e4).trans e5) Q fun H6 e6 => q H6 ((((e2.trans e3).trans e4).trans e5).trans e6)
    | false =>
      show Q (.bl false) H4
      exact q H4 ((e2.trans e3).trans e4)⟩
/-- all([..]), any([..]) of a new list -/
theorem ev_all {bs : List Bool} (h : EL K te σ H (bs.map .bool)) : Ev (tCB (rAll K) (tCons te tNil)) σ H (.bl (bs.all id)) := fun H1 e Q q =>
  h H1 e _ fun p xs H2 _ e2 hp r => ⟨p, bs, rfl, by rw [← bls_im r]; exact sq_of hp, q H2 e2⟩
theorem ev_any {bs : List Bool} (h : EL K te σ H (bs.map .bool)) : Ev (tCB (rAny K) (tCons te tNil)) σ H (.bl (bs.any id)) := fun H1 e Q q =>
  h H1 e _ fun p xs H2 _ e2 hp r => ⟨p, bs, rfl, by rw [← bls_im r]; exact sq_of hp, q H2 e2⟩
end
end CK

set_option Elab.async false
set_option linter.all false
set_option maxRecDepth 100000
set_option maxHeartbeats 4000000
/-! comprehensions and loops over data -/
namespace CK
open PySem PySem.Spec PyProof.Rows L2 Evl
/-- an iterator that gives these data, as long as G stands -/
def ItD (K : PySem.W.Frag) (J : It) (ds : List PyData) (G : Hp → Prop) : Prop := Walk J ds.length G fun i H x H' => Ex H H' ∧ ∃ d, ds[i]? = some d ∧ Im K H' x d
/-- what a walk walks: these data; S: what the heap may do meanwhile -/
def EI (K : PySem.W.Frag) (S : Hp → Hp → Prop) (wi : TI) (σ : St) (H : Hp) (ds : List PyData) : Prop := ∀ H1, Ex H H1 → ∀ R : It → Hp → Prop, (∀ J H2 G, Ex H1 H2 → (∀ H', S H2 H' → G H') → ItD K J ds G → R J H2) → wi σ H1 R
section
variable {K : PySem.W.Frag} {S : Hp → Hp → Prop} {σ : St} {H H' : Hp} {ta tb te tx : TE} {t u : TT} {v : V} {d e : PyData} {ds es : List PyData} {wi : TI}
theorem EI.ex (h : EI K Ti wi σ H ds) : EI K Ex wi σ H ds := fun H1 e R r => h H1 e R fun J H2 G e2 g w => r J H2 G e2 (fun H' s => g H' (.ex s)) w
theorem EI.mono (e : Ex H H') (h : EI K S wi σ H ds) : EI K S wi σ H' ds := fun H1 a Q q => h H1 (e.trans a) Q q
theorem ei_tup (h : ED K te σ H (.tuple ds)) : EI K Ti (iTup K te) σ H ds := fun H1 e R r => h H1 e _ fun v H2 e2 rv => by
  cases rv with
  | tup hs hi =>
    rename_i a xs
    refine ⟨a, rfl, ⟨xs, hs⟩, r _ H2 (fun H' => SqT K H' a xs ∧ ImAll K H' xs ds) e2 (fun H' s => ⟨s.sq hs, hi.ti s⟩) ?_⟩
    have hl := hi.length
    unfold ItD
    rw [← hl]
    refine (walk_tup (K := K) (a := a) (xs := xs)).mono (fun H' q => q.1) fun i Hi x H' hlt q y => ?_
    obtain ⟨rfl, y⟩ := y
    obtain ⟨d, e1, e2⟩ := q.2.get y
    exact ⟨Ex.refl _, d, e1, e2⟩
theorem ei_list (h : EL K te σ H ds) : EI K Ex (iList K te) σ H ds := fun H1 e R r => h H1 e _ fun p xs H2 hp e2 hx hi => by
  refine ⟨p, rfl, ⟨xs, sq_of hx⟩, r _ H2 (fun H' => SqL K H' p xs ∧ ImAll K H' xs ds) e2 (fun H' s => ⟨sq_of (s _ _ hx), hi.ex s⟩) ?_⟩
  have hl := hi.length
  unfold ItD
  rw [← hl]
  refine (walk_list (K := K) (a := p) (xs := xs)).mono (fun H' q => q.1) fun i Hi x H' hlt q y => ?_
  obtain ⟨rfl, y⟩ := y
  obtain ⟨d, e1, e2⟩ := q.2.get y
  exact ⟨Ex.refl _, d, e1, e2⟩
def signs (x : Str) : List PyData := x.cps.toList.map fun c => .str ⟨#[c]⟩
theorem ei_str {x : Str} (h : Ev te σ H (.str x)) : EI K Ti (iStr te) σ H (signs x) := fun H1 e R r => h H1 e _ fun H2 e2 =>
  ⟨x, rfl, r _ H2 (fun _ => True) e2 (fun _ _ => trivial) (by
    have hl : (signs x).length = x.cps.size := by simp [signs]
    unfold ItD
    rw [hl]
    refine walk_str.mono (fun _ q => q) fun i Hi y H' hlt q z => ?_
    obtain ⟨rfl, c, hc, rfl⟩ := z
    exact ⟨Ex.refl _, .str ⟨#[c]⟩, by simp [signs, hc], .str _⟩)⟩
theorem ei_range {n : Int} {tn : TA} (h : EvA tn σ H [.int n]) (h1 : -(2 ^ 62) ≤ n) (h2 : n < 2 ^ 62) : EI K Ti (iRng1 tn) σ H ((List.range n.toNat).map fun (i : Nat) => PyData.int (i : Int)) := fun H1 e R r => h H1 e _ fun H2 e2 =>
  ⟨n, rfl, h1, h2, r _ H2 (fun _ => True) e2 (fun _ _ => trivial) (by
    unfold ItD
    rw [List.length_map, List.length_range]
    refine walk_range.mono (fun _ q => q) fun i Hi y H' hlt q z => ?_
    obtain ⟨rfl, rfl⟩ := z
    exact ⟨Ex.refl _, .int (i : Int), by rw [List.getElem?_map, List.getElem?_range hlt] <;> rfl, by show Im K H' (V.int (0 + (i : Int))) _; rw [Int.zero_add]; exact .int _⟩)⟩
/-- sources of zip, enumerate -/
def SrcD (K : PySem.W.Frag) (H : Hp) (src : Src) (xs : List V) (ds : List PyData) : Prop := src.at K H xs ∧ ImAll K H xs ds
def ES (K : PySem.W.Frag) (S : Hp → Hp → Prop) (te : TE) (σ : St) (H : Hp) (ds : List PyData) : Prop := ∀ H1, Ex H H1 → ∀ Q : VK, (∀ src xs H2, Ex H1 H2 → (∀ H', S H2 H' → SrcD K H' src xs ds) → Q src.v H2) → te σ H1 Q
theorem es_tup (h : ED K te σ H (.tuple ds)) : ES K Ti te σ H ds := fun H1 e Q q => h H1 e Q fun v H2 e2 r => by
  cases r with
  | tup hs hi => exact q (.tup _) _ H2 e2 fun H' s => ⟨s.sq hs, hi.ti s⟩
theorem es_str {x : Str} (h : Ev te σ H (.str x)) : ES K Ti te σ H (signs x) := fun H1 e Q q => h H1 e Q fun H2 e2 =>
  q (.str x) _ H2 e2 fun H' s => ⟨rfl, by
    unfold signs
    generalize x.cps.toList = l
    induction l with
    | nil => exact .nil
    | cons c l ih => exact .cons (.str _) ih⟩
theorem es_list (h : EL K te σ H ds) : ES K Ex te σ H ds := fun H1 e Q q => h H1 e Q fun p xs H2 hp e2 hx hi =>
  q (.lst p) xs H2 e2 fun H' s => ⟨sq_of (s _ _ hx), hi.ex s⟩
theorem ES.ex (h : ES K Ti te σ H ds) : ES K Ex te σ H ds := fun H1 e Q q => h H1 e Q fun src xs H2 e2 g => q src xs H2 e2 fun H' s => g H' (.ex s)
theorem ES.mono (e : Ex H H') (h : ES K S te σ H ds) : ES K S te σ H' ds := fun H1 a Q q => h H1 (e.trans a) Q q
def enumD (ds : List PyData) : List PyData := ds.zipIdx.map fun p => .tuple [.int (p.2 : Nat), p.1]
theorem enumD_len (ds : List PyData) : (enumD ds).length = ds.length := by simp [enumD]
theorem enumD_at {ds : List PyData} {i : Nat} {d : PyData} (h : ds[i]? = some d) : (enumD ds)[i]? = some (.tuple [.int (i : Nat), d]) := by
  simp [enumD, List.getElem?_zipIdx, h]
theorem ei_enum (hS : ∀ H, S H H) (h : ES K S te σ H ds) : EI K S (iEnumS K (tCons te tNil)) σ H (enumD ds) := fun H1 e R r => h H1 e _ fun src xs H2 e2 g => by
  refine ⟨src, xs, rfl, (g H2 (hS H2)).1, r _ H2 (fun H' => src.at K H' xs ∧ ImAll K H' xs ds) e2 (fun H' s => g H' s) ?_⟩
  unfold ItD
  rw [enumD_len, ← (g H2 (hS H2)).2.length]
  refine (walk_enumS (K := K) (src := src) (xs := xs)).mono (fun H' q => q.1) fun i Hi x H' hlt q y => ?_
  obtain ⟨T, a, b, rfl, hT, rfl, h1, h2⟩ := y
  cases h1
  obtain ⟨d, e1, e2⟩ := q.2.get h2
  exact ⟨Ex.new hT, _, enumD_at e1, .tup (st_of upd_same) (.cons (.int _) (.cons (e2.ex (Ex.new hT)) .nil))⟩
def zipD (ds es : List PyData) : List PyData := (ds.zip es).map fun p => .tuple [p.1, p.2]
theorem zipD_len (ds es : List PyData) (h : ds.length = es.length) : (zipD ds es).length = ds.length := by simp [zipD, ← h]
theorem zipD_at {ds es : List PyData} {i : Nat} {d e : PyData} (h : ds[i]? = some d) (h' : es[i]? = some e) : (zipD ds es)[i]? = some (.tuple [d, e]) := by
  simp [zipD, List.getElem?_zip_eq_some, h, h']
theorem ei_zip {S' : Hp → Hp → Prop} (hS : ∀ H, S H H) (hX : ∀ H1 H2 H3, Ex H1 H2 → S H2 H3 → S H1 H3) (h : ES K S ta σ H ds) (h' : ES K S tb σ H es) (hl : ds.length = es.length) : EI K S (iZipS K (tCons ta (tCons tb tNil))) σ H (zipD ds es) := fun H1 e R r => h H1 e _ fun s1 xs H2 e2 g => h' H2 (e.trans e2) _ fun s2 ys H3 e3 g' => by
  have g3 : ∀ H', S H3 H' → SrcD K H' s1 xs ds := fun H' s => g H' (hX _ _ _ e3 s)
  refine ⟨s1, s2, xs, ys, rfl, (g3 H3 (hS H3)).1, (g' H3 (hS H3)).1, r _ H3 (fun H' => (s1.at K H' xs ∧ ImAll K H' xs ds) ∧ (s2.at K H' ys ∧ ImAll K H' ys es)) (e2.trans e3) (fun H' s => ⟨g3 H' s, g' H' s⟩) ?_⟩
  have l1 := (g3 H3 (hS H3)).2.length
  have l2 := (g' H3 (hS H3)).2.length
  unfold ItD
  rw [zipD_len _ _ hl, ← l1]
  refine (walk_zipS (K := K) (s1 := s1) (s2 := s2) (xs := xs) (ys := ys) (n := xs.length) rfl (by omega)).mono (fun H' q => ⟨q.1.1, q.2.1⟩) fun i Hi x H' hlt q y => ?_
  obtain ⟨T, a, b, rfl, hT, rfl, h1, h2⟩ := y
  obtain ⟨d, f1, f2⟩ := q.1.2.get h1
  obtain ⟨d', f1', f2'⟩ := q.2.2.get h2
  exact ⟨Ex.new hT, _, zipD_at f1 f1', .tup (st_of upd_same) (.cons (f2.ex (Ex.new hT)) (.cons (f2'.ex (Ex.new hT)) .nil))⟩
theorem tiX : ∀ H1 H2 H3, Ex H1 H2 → Ti H2 H3 → Ti H1 H3 := fun _ _ _ a b => (Ti.ex a).trans b
theorem exX : ∀ H1 H2 H3, Ex H1 H2 → Ex H2 H3 → Ex H1 H3 := fun _ _ _ a b => a.trans b

/-! ### targets -/
/-- a target takes a value that is d: slots σ then stand as τ says -/
def GB (K : PySem.W.Frag) (g : TG) (σ : St) (H : Hp) (x : V) (τ : St → Prop) : Prop := ∀ H1, Ex H H1 → ∀ Q : St → Hp → Prop, (∀ σ', τ σ' → Q σ' H1) → g x σ H1 Q
theorem gb_name {j : Nat} {x : V} : GB K (gName j) σ H x (fun σ' => σ' = σ.set j (some x)) := fun _ _ _ q => q _ rfl

/-! ### list comprehensions -/
theorem et_yes : EvT tYes σ H true := fun H1 _ _ q => q H1 (Ex.refl H1)
def filtM {A : Type} (c : A → Bool) (f : A → PyData) (as : List A) : List PyData := (as.filter c).map f
theorem filtM_yes {A : Type} {c : A → Bool} {f : A → PyData} {as : List A} {i : Nat} {a : A} (h : as[i]? = some a) (hc : c a = true) : filtM c f (as.take (i + 1)) = filtM c f (as.take i) ++ [f a] := by
  have e : as.take (i + 1) = as.take i ++ [a] := by rw [List.take_add_one, h]; rfl
  unfold filtM
  rw [e, List.filter_append, List.map_append, List.filter_cons, if_pos hc]; rfl
theorem filtM_no {A : Type} {c : A → Bool} {f : A → PyData} {as : List A} {i : Nat} {a : A} (h : as[i]? = some a) (hc : c a = false) : filtM c f (as.take (i + 1)) = filtM c f (as.take i) := by
  have e : as.take (i + 1) = as.take i ++ [a] := by rw [List.take_add_one, h]; rfl
  unfold filtM
  rw [e, List.filter_append, List.map_append, List.filter_cons, if_neg (by rw [hc]; decide)]
  show _ ++ [] = _
  rw [List.append_nil]
theorem filtM_len {A : Type} (c : A → Bool) (f : A → PyData) (as : List A) : (filtM c f as).length ≤ as.length := by
  unfold filtM; rw [List.length_map]; exact List.length_filter_le _ _
/-- [f(a) for a in as if c(a)] -/
theorem el_lc {A : Type} {as : List A} {enc : A → PyData} {c : A → Bool} {f : A → PyData} {g : TG} {vs : List Nat} (τ : A → V → St → Prop) (hi : EI K Ex wi σ H (as.map enc)) (hz : as.length ≤ 50000)
    (hw : ∀ a x σ', τ a x σ' → wipe σ' vs = wipe σ vs)
    (hs : ∀ a x H', a ∈ as → Ex H H' → Im K H' x (enc a) → GB K g (wipe σ vs) H' x (τ a x) ∧ ∀ σ', τ a x σ' → EvT t σ' H' (c a) ∧ (c a = true → ED K te σ' H' (f a))) :
    EL K (tLc wi g t te vs) σ H (filtM c f as) := fun H0 e Q q => hi H0 e _ fun J H1 G e1 hG w => fun Dl hD => by
  have h0 : H0 Dl = none := fresh_back e1 hD
  unfold ItD at w
  rw [List.length_map] at w
  refine lc_it w (fun i H' => H1 Dl = none ∧ Ex H1 H' ∧ ∃ xs, H' Dl = some (.lst xs) ∧ ImAll K H' xs (filtM c f (as.take i))) ⟨hD, Ex.new hD, [], upd_same, .nil⟩ (fun i H' _ p => hG H' p.2.1) ?_ ?_
  · rintro i x Ha Hb hi ⟨p1, p2, xs, p3, p4⟩ ⟨eab, d, hd, hx⟩
    rw [List.getElem?_map] at hd
    obtain ⟨a, ha, rfl⟩ := Option.map_eq_some_iff.mp hd
    have hmem := List.mem_of_getElem? ha
    obtain ⟨hg, hb⟩ := hs a x Hb hmem ((e.trans e1).trans (p2.trans eab)) hx
    refine hg Hb (Ex.refl _) _ fun σ' hσ => ⟨hw a x σ' hσ, ?_⟩
    obtain ⟨h1, h2⟩ := hb σ' hσ
    refine h1 Hb (Ex.refl _) _ fun Hc ec => ?_
    have p5 : Hc Dl = some (.lst xs) := ec _ _ (eab _ _ p3)
    have e1c : Ex H1 Hc := (p2.trans eab).trans ec
    cases hc : c a with
    | true =>
      rw [if_pos rfl]
      refine h2 hc Hc ec _ fun y Hd ed hy => ?_
      have p6 : Hd Dl = some (.lst xs) := ed _ _ p5
      have ti : Ti Hd (L2.upd Hd Dl (.lst (xs ++ [y]))) := Ti.upd (by rw [p6]; trivial)
      refine ⟨xs, p6, sz_lt ?_, p1, Ex.mut (e1c.trans ed) p1, xs ++ [y], upd_same, ?_⟩
      · rw [p4.length]
        have := filtM_len c f (as.take i)
        rw [List.length_take] at this
        omega
      · rw [filtM_yes ha hc]
        exact ((p4.ex ((eab.trans ec).trans ed)).ti ti).append (.one (hy.ti ti))
    | false =>
      rw [if_neg (by decide)]
      refine ⟨p1, e1c, xs, p5, ?_⟩
      rw [filtM_no ha hc]
      exact p4.ex (eab.trans ec)
  · rintro H' ⟨p1, p2, xs, p3, p4⟩
    rw [List.take_length] at p4
    exact q Dl xs H' h0 (e1.trans p2) p3 p4
/-- the target a name -/
theorem el_lc1 {A : Type} {as : List A} {enc : A → PyData} {c : A → Bool} {f : A → PyData} {j : Nat} {vs : List Nat} (hi : EI K Ex wi σ H (as.map enc)) (hz : as.length ≤ 50000)
    (hw : ∀ x, wipe ((wipe σ vs).set j (some x)) vs = wipe σ vs)
    (hs : ∀ a x H', a ∈ as → Ex H H' → Im K H' x (enc a) → EvT t ((wipe σ vs).set j (some x)) H' (c a) ∧ (c a = true → ED K te ((wipe σ vs).set j (some x)) H' (f a))) :
    EL K (tLc wi (gName j) t te vs) σ H (filtM c f as) :=
  el_lc (fun _ x σ' => σ' = (wipe σ vs).set j (some x)) hi hz (fun a x σ' h => by rw [h]; exact hw x) fun a x H' hm e hx => ⟨gb_name, fun σ' h => by rw [h]; exact hs a x H' hm e hx⟩
/-- no test -/
theorem el_map1 {A : Type} {as : List A} {enc : A → PyData} {f : A → PyData} {j : Nat} {vs : List Nat} (hi : EI K Ex wi σ H (as.map enc)) (hz : as.length ≤ 50000)
    (hw : ∀ x, wipe ((wipe σ vs).set j (some x)) vs = wipe σ vs)
    (hs : ∀ a x H', a ∈ as → Ex H H' → Im K H' x (enc a) → ED K te ((wipe σ vs).set j (some x)) H' (f a)) :
    EL K (tLc wi (gName j) tYes te vs) σ H (as.map f) := by
  have h := el_lc1 (K := K) (t := tYes) (te := te) (c := fun _ => true) (f := f) hi hz hw fun a x H' hm e hx => ⟨et_yes, fun _ => hs a x H' hm e hx⟩
  have e : filtM (fun _ : A => true) f as = as.map f := by
    unfold filtM
    rw [List.filter_eq_self.mpr fun _ _ => rfl]
  rw [e] at h
  exact h
end
end CK

set_option Elab.async false
set_option linter.all false
set_option maxRecDepth 100000
set_option maxHeartbeats 4000000
/-! a def, a method, a class as they stand behind the top, with their promises -/
namespace CK
open PySem PySem.Spec PyProof.Rows L2 Evl
section
variable (P : Program) (w : World) (K : PySem.W.Frag) (mg : Str → Option Value) (base : Heap)
/-- the module's def x -/
structure Ok (k : Nat) (x : Str) (ps : List Str) (sp : Sp) : Prop where
  ex : ∃ f fd, mg x = some (.ref f) ∧ PySem.W.keepIn K (.ref f) = true ∧ Binds K fd ps [] ∧ FnOk P w K mg base CX0 k f fd ps sp
/-- the method m of the class at C -/
structure OkM (C : Addr) (k : Nat) (m : Str) (ps : List Str) (sp : Sp) : Prop where
  ex : ∃ f fd, Meth K C m f ∧ Binds K fd ps [] ∧ FnOk P w K mg base CX0 k f fd ps sp
/-- the class x at C, its __init__ -/
structure OkI (C : Addr) (k : Nat) (x : Str) (ps : List Str) (sp : Sp) : Prop where
  ex : ∃ f fd, mg x = some (.ref C) ∧ Mk K C f ∧ Binds K fd ps [] ∧ FnOk P w K mg base CX0 k f fd ps sp
end
section
variable {X : Cx} {k : Nat} {x m : Str} {ps : List Str} {sp : Sp} {C : Addr} {p pos apos : Pos} {e o : Expr} {es : List Expr} {t : TA} {ta : TE}
theorem pe_callO (O : Ok X.prog X.w X.K X.mg X.base k x ps sp) (hr : Room k X.A) (hg : Gl X x) (ha : PA X (e :: es) t) (hdb : (x == ("__debug__" : Str)) = false := by decide)
    (he : starEach (e :: es) X.env = (false, eval e X.env) :: starEach es X.env := by rfl) (hpl : (backTo pos (starEach es X.env)).any (·.1) = false := by rfl) : PE X (.Call (.Name x p) (e :: es) [] pos) (tCall sp [] E0 t) := by
  obtain ⟨f, fd, h1, h2, h3, h4⟩ := O.ex
  exact pe_call h4 hr hg h1 h2 h3 .nil pass0 ha hdb he hpl
theorem pe_callO0 (O : Ok X.prog X.w X.K X.mg X.base k x ps sp) (hr : Room k X.A) (hg : Gl X x) (hdb : (x == ("__debug__" : Str)) = false := by decide) : PE X (.Call (.Name x p) [] [] pos) (tCall sp [] E0 tNil) := by
  obtain ⟨f, fd, h1, h2, h3, h4⟩ := O.ex
  exact pe_call0 h4 hr hg h1 h2 h3 .nil pass0 hdb
theorem pe_methO {pl : Sem Bool} (O : OkM X.prog X.w X.K X.mg X.base C k m ps sp) (he : PE X o ta) (c : Cls X.K C) (hr : Room k X.A) (ha : PA X (e :: es) t)
    (hst : starEach (e :: es) X.env = (false, eval e X.env) :: starEach es X.env := by rfl) (hpl : (backTo pos (starEach es X.env)).any (·.1) = false := by rfl)
    (ht : eval (.Call (.Attribute o m apos) (e :: es) [] pos) X.env = (do
      let ov ← eval o X.env
      standAt apos.atName
      let (f, first) ← holding [ov] (getMethod ov m pl)
      callWith pos f first (backTo pos (starEach (e :: es) X.env)) (backToKw pos (keywordEach [] X.env))) := by rfl) : PE X (.Call (.Attribute o m apos) (e :: es) [] pos) (tMeth C m sp [] E0 ta t) := by
  obtain ⟨f, fd, h1, h2, h3⟩ := O.ex
  exact pe_meth he c h1 h3 hr h2 .nil pass0 ha hst hpl ht
theorem pe_methO0 {pl : Sem Bool} (O : OkM X.prog X.w X.K X.mg X.base C k m ps sp) (he : PE X o ta) (c : Cls X.K C) (hr : Room k X.A)
    (ht : eval (.Call (.Attribute o m apos) [] [] pos) X.env = (do
      let ov ← eval o X.env
      standAt apos.atName
      let (f, first) ← holding [ov] (getMethod ov m pl)
      callWith pos f first (backTo pos (starEach [] X.env)) (backToKw pos (keywordEach [] X.env))) := by rfl) : PE X (.Call (.Attribute o m apos) [] [] pos) (tMeth C m sp [] E0 ta tNil) := by
  obtain ⟨f, fd, h1, h2, h3⟩ := O.ex
  exact pe_meth0 he c h1 h3 hr h2 .nil pass0 ht
theorem pe_makeO (O : OkI X.prog X.w X.K X.mg X.base C k x ps sp) (hr : Room (k + 1) X.A) (hg : Gl X x) (ha : PA X (e :: es) t) (hdb : (x == ("__debug__" : Str)) = false := by decide)
    (he : starEach (e :: es) X.env = (false, eval e X.env) :: starEach es X.env := by rfl) (hpl : (backTo pos (starEach es X.env)).any (·.1) = false := by rfl) : PE X (.Call (.Name x p) (e :: es) [] pos) (tMake C sp [] E0 t) := by
  obtain ⟨f, fd, h1, h2, h3, h4⟩ := O.ex
  exact pe_make h2 h4 hr hg h1 h3 .nil pass0 ha hdb he hpl
end
/-- the module's constants -/
theorem pe_gint {X : Cx} {x : Str} {i : Int} {pos : Pos} (hg : Gl X x) (h : ∃ t, X.mg x = some (.int i t)) (hd : (x == ("__debug__" : Str)) = false := by decide) : PE X (.Name x pos) (tC (.int i)) := by
  obtain ⟨t, h⟩ := h
  exact pe_glob hg h ⟨_, rfl⟩ hd
theorem pe_gstr {X : Cx} {x z : Str} {pos : Pos} (hg : Gl X x) (h : ∃ t, X.mg x = some (.str z t)) (hd : (x == ("__debug__" : Str)) = false := by decide) : PE X (.Name x pos) (tC (.str z)) := by
  obtain ⟨t, h⟩ := h
  exact pe_glob hg h ⟨_, rfl⟩ hd
theorem pe_gref {X : Cx} {x : Str} {a : Addr} {pos : Pos} (hg : Gl X x) (h : X.mg x = some (.ref a)) (hd : (x == ("__debug__" : Str)) = false := by decide) : PE X (.Name x pos) (tC (.ref a)) := pe_glob hg h rfl hd
/-- a built-in class as a value -/
theorem pe_ty {X : Cx} {x : Str} {n : String} {pos : Pos} (hg : Gl X x) (hm : X.mg x = none) (hv : bootBuiltins x = some (.type n)) (hn : x ≠ "__name__" := by decide) (hd : (x == ("__debug__" : Str)) = false := by decide) : PE X (.Name x pos) (tC (.ty n)) :=
  pe_bltn hg hm hv rfl hn hd
theorem hu1 {k : Nat} {A : Around} (hr : Room k A) : A.units + 1 < cLine := by have := hr.un; omega
theorem hu64 {k : Nat} {A : Around} (hr : Room k A) : A.units + 64 < cLine := by have := hr.un; omega
theorem hu65 {k : Nat} {A : Around} (hr : Room k A) : A.units + 65 < cLine := by have := hr.un; omega
end CK

set_option Elab.async false
set_option linter.all false
set_option maxRecDepth 100000
set_option maxHeartbeats 4000000
/-! xs.extend(t), t a tuple -/
namespace L2
open PySem PySem.Spec PyProof.Rows
theorem meets_extendT (l : Addr) (items : Array Value) (n : Nat) (b : Addr) (items2 : Array Value) (hz1 : items.size ≤ sizeLine) (hz : items.size + items2.size ≤ sizeLine) :
    Meets (Builtin.«list.extend» ⟨[.ref l, .ref b], []⟩) (fun _ R s => s.heap.get? l = some { cls := .type "list", dict := none, data := .seq items n, slots := #[] } ∧ IsTup s.heap b items2 ∧
      R (.ok (.ret .none)) { s with heap := s.heap.update l (Obj.mapSeq (· ++ items2)) }) :=
  .of_wp fun prog w A R s h => by
    obtain ⟨hl, ⟨o, ho, hc, n2, hd⟩, h⟩ := h
    show wpAny _ _ (Builtin.List.listExtendWith (.ref l) (.ref b) .none) _ _ _
    unfold Builtin.List.listExtendWith
    refine wpAny_bind (wpAny_typeOf (T := "tuple") ⟨o, ho, hc⟩ ?_)
    have h1 : (Builtin.List.listSameRef (.ref l) (.ref b) || Value.type "tuple" == Value.type "list" || Value.type "tuple" == Value.type "tuple") = true := by simp
    simp only [h1, if_true]
    refine wpAny_bind ?_
    unfold Builtin.List.listItems
    refine wpAny_bind (wpAny_seqItems ho hd (wpAny_pure ?_))
    refine wpAny_bind ?_
    refine wpAny_bind (wpAny_seqItems hl rfl (wpAny_pure ?_))
    have hlong : (!items.isEmpty && Builtin.List.listTooLong (items.size + items2.size)) = false := by
      rw [notLongL hz, Bool.and_false]
    simp only [hlong, Bool.false_eq_true, if_false]
    show wpAny _ _ (updateSeq l (· ++ items2) >>= fun _ => ret .none) _ _ s
    refine wpAny_bind (wpAny_updateSeq hl rfl (hz := hz1) (_hz' := by rw [Array.size_append]; omega) ?_)
    exact wpAny_pure ⟨_, rfl, h⟩
def rExtendT (K : PySem.W.Frag) : V → List V → Hp → VK → Prop := fun x vs H Q => ∃ l b xs zs, x = .ref l ∧ vs = [.ref b] ∧ H l = some (.lst xs) ∧ SqT K H b zs ∧ xs.length + zs.length ≤ sizeLine ∧ Q .non (upd H l (.lst (xs ++ zs)))
theorem mt_extendT {X : Cx} : MtM X "list.extend" (rExtendT X.K) := by
  intro pins s σ H x vs v us Q I rx rv h
  obtain ⟨l, b, xs, zs, rfl, rfl, hH, hB, hz, q⟩ := h
  cases rx
  obtain ⟨u, rfl, ru⟩ := rv.one
  cases ru
  obtain ⟨z, its, n, r, hl, e⟩ := I.lstM hH
  obtain ⟨its2, r2, ht, hz2⟩ := I.tuple hB
  have h1 := r.length
  have h2 := r2.length
  refine call_meets PySem.F.slot_list_extend ⟨_, e, rfl⟩ PySem.F.entry_list_extend (PySem.F.args_list_extend_2 _ _)
    (meets_extendT l its.toArray n b its2.toArray (by rw [List.size_toArray]; omega) (by rw [List.size_toArray, List.size_toArray]; omega)) ⟨e, ht, ?_⟩
  refine ⟨.non, _, I.lset (its' := its ++ its2) hH e (by simp) (r.append r2) ?_, rfl, q⟩
  rw [List.length_append]
  omega
def rExt2 (K : PySem.W.Frag) : V → List V → Hp → VK → Prop := fun x vs H Q => rExtend x vs H Q ∨ rExtendT K x vs H Q
theorem mt_ext2 {X : Cx} : MtR X "list.extend" (rExt2 X.K) := MtR.or mt_extend mt_extendT
end L2

set_option Elab.async false
set_option linter.all false
set_option maxRecDepth 100000
set_option maxHeartbeats 4000000
/-! t[::-1], t a tuple or a list -/
namespace HT
open PySem PySem.Spec PyProof.Rows
section
variable {prog : Program} {w : World} {A : Around} {E : Value → Shared → Prop} {s : Shared}
theorem adjust_rev (n : Nat) : Builtin.Slice.sliceAdjust none none (-1) (n : Int) = ((n : Int) - 1, -1) := by
  unfold Builtin.Slice.sliceAdjust
  simp
theorem places_rev (n : Nat) : Builtin.Slice.slicePlaces ((n : Int) - 1) (-1) (-1) = n := by
  unfold Builtin.Slice.slicePlaces
  have h1 : ¬ ((-1 : Int) > 0) := by omega
  simp only [h1, if_false]
  by_cases h : (n : Int) - 1 > -1
  · rw [if_pos h]
    have : ((n : Int) - 1 - -1 - 1) / (- -1) + 1 = (n : Int) := by
      rw [show (- -1 : Int) = 1 by decide, Int.ediv_one]; omega
    rw [this]; omega
  · rw [if_neg h]; omega
theorem sliceApplied_rev {sl : Addr} {vl vu vs : Value} {n : Nat} {Q : Int × Int × Nat → Shared → Prop} (hs : s.heap.IsSliceOf sl vl vu vs) (pl : IsPart vl none) (pu : IsPart vu none) (ps : IsPart vs (some (-1)))
    (h : Q ((n : Int) - 1, -1, n) s) : wpAny (model prog w) A (Builtin.Slice.sliceApplied (.ref sl) (pure (n : Int))) Q E s := by
  obtain ⟨os, hos, hcs, hds⟩ := id hs
  unfold Builtin.Slice.sliceApplied Builtin.Slice.sliceFields
  refine wpAny_bind (wpAny_bind (wpAny_field hos hds (x := vl) rfl (wpAny_bind (wpAny_field hos hds (x := vu) rfl (wpAny_bind (wpAny_field hos hds (x := vs) rfl (wpAny_pure ?_)))))))
  refine wpAny_bind (slicePart_ ps ?_)
  show wpAny _ _ (if ((-1 : Int) == 0) = true then _ else _) _ _ s
  rw [if_neg (by decide)]
  refine wpAny_bind (slicePart_ pl (wpAny_bind (slicePart_ pu (wpAny_bind (wpAny_pure ?_)))))
  show wpAny _ _ (match Builtin.Slice.sliceAdjust none none (-1) (n : Int) with | (lo, hi) => pure (lo, (-1 : Int), Builtin.Slice.slicePlaces lo hi (-1))) _ _ s
  rw [adjust_rev n]
  show wpAny _ _ (pure ((n : Int) - 1, (-1 : Int), Builtin.Slice.slicePlaces ((n : Int) - 1) (-1) (-1))) _ _ s
  rw [places_rev]
  exact wpAny_pure h
theorem pick_rev (xs : Array Value) : ((List.range xs.size).filterMap fun (m : Nat) => xs[(((xs.size : Int) - 1) + (m : Int) * (-1)).toNat]?).toArray = xs.toList.reverse.toArray := by
  have e : ((List.range xs.size).filterMap fun (m : Nat) => xs[(((xs.size : Int) - 1) + (m : Int) * (-1)).toNat]?) = ((List.range xs.size).map fun k => xs.size - 1 - k).filterMap (xs[·]?) := by
    rw [List.filterMap_map]
    congr 1
    funext m
    show _ = xs[xs.size - 1 - m]?
    have : (((xs.size : Int) - 1) + (m : Int) * (-1)).toNat = xs.size - 1 - m := by omega
    rw [this]
  rw [e, PySem.W.krv_range, List.filterMap_reverse, PySem.W.krv_all]
theorem getItem_tuple_rev {t sl : Addr} {items : Array Value} {vl vu vs : Value} {Q : Value → Shared → Prop} (ht : IsTup s.heap t items) (hs : s.heap.IsSliceOf sl vl vu vs) (pl : IsPart vl none) (pu : IsPart vu none) (ps : IsPart vs (some (-1)))
    (h : Q (.ref s.heap.objs.size) { s with heap := s.heap.push { cls := .type "tuple", data := .seq items.toList.reverse.toArray } })
    (hsz : items.size ≤ sizeLine) : wpAny (model prog w) A (getItem (.ref t) (.ref sl)) Q E s := by
  have htake : sizeOk (.seq items.toList.reverse.toArray) := by
    show items.toList.reverse.toArray.size ≤ sizeLine
    rw [List.size_toArray, List.length_reverse, Array.length_toList]
    exact hsz
  obtain ⟨os, hos, hcs, hds⟩ := id hs
  have hTs : s.TypeIs (.ref sl) "slice" := ⟨os, hos, hcs⟩
  unfold getItem
  try with_reducible refine wpAny_holding ?_
  first | refine wpAny_bind (wpAny_pure ?_) | skip
  refine wpAny_bind (wpAny_sequenceKey ht.typeIs (by decide) ?_)
  refine wpAny_bind (wpAny_callSpecial?_slot (name := Str.ofString "__getitem__") ht.typeIs PyProof.Rows.slot_tuple_getitem
    (wpAny_call_entry PyProof.Rows.slot_tuple_getitem ht.typeIs entry_tuple_getitem ?_ (args_tuple_getitem _ _)))
  show wpAny _ _ (Builtin.Tuple.tupleItemsOf (.ref t) >>= _) _ _ s
  refine wpAny_bind (tupleItemsOf_ ht ?_)
  refine wpAny_bind (wpAny_typeOf hTs ?_)
  rw [if_pos (by decide)]
  refine wpAny_bind (sliceApplied_rev hs pl pu ps ?_)
  have hno : ¬ (((items.size : Int) - 1 == 0 && (-1 : Int) == 1 && items.size == items.size) = true) := by
    intro q
    rw [Bool.and_eq_true, Bool.and_eq_true] at q
    exact absurd (eq_of_beq q.1.2) (by decide)
  show wpAny _ _ (if ((items.size : Int) - 1 == 0 && (-1 : Int) == 1 && items.size == items.size) = true then _ else _) _ _ s
  rw [if_neg hno, pick_rev]
  first
    | exact wpAny_bind (m := Builtin.Tuple.tupleExact _) (wpAny_newObj_type (wpAny_pure ⟨_, rfl, wpAny_pure h⟩) htake)
    | exact wpAny_bind (m := Builtin.Tuple.tupleExact _) (wpAny_newObj_type (wpAny_bind (wpAny_pure (wpAny_pure ⟨_, rfl, wpAny_pure h⟩))) htake)
    | exact wpAny_bind (wpAny_bind (m := Builtin.Tuple.tupleExact _) (wpAny_newObj_type (wpAny_pure (wpAny_pure ⟨_, rfl, wpAny_pure h⟩)) htake))
    | exact wpAny_bind (wpAny_bind (m := Builtin.Tuple.tupleExact _) (wpAny_newObj_type (wpAny_pure ⟨_, rfl, wpAny_pure h⟩) htake))
end
end HT
namespace L2
open PySem PySem.Spec PyProof.Rows
section
variable {X : Cx}
def tRev (K : PySem.W.Frag) (te : TE) : TE := fun σ H Q => te σ H fun x H1 => ∃ a xs, x = .ref a ∧ ((SqL K H1 a xs ∧ ∀ p, H1 p = none → Q (.ref p) (upd H1 p (.lst xs.reverse))) ∨ (SqT K H1 a xs ∧ ∀ p, H1 p = none → Q (.ref p) (upd H1 p (.tup xs.reverse))))
theorem pe_rev {e : Expr} {te : TE} {k : Nat} {p1 p2 p3 pos : Pos} (he : PE X e te) : PE X (.Subscript e (.Slice none none (some (.UnaryOp .USub (.Constant (.int 1) k p1) p2)) p3) pos) (tRev X.K te) := by
  refine ⟨fun pins s σ H Q I h => ?_⟩
  refine Subscript_ (thn (he.run pins s σ H _ I h) fun v s1 ⟨x, H1, I1, r1, q1⟩ => ?_)
  obtain ⟨a, xs, ex, q1⟩ := q1
  subst ex
  cases r1
  have hst : PO X (some (.UnaryOp .USub (.Constant (.int 1) k p1) p2)) (tPart (tUn (rU fun i => .int (-i)) (tC (.int 1)))) := po_some (pe_un un_neg pe_int)
  refine wpAny_Slice (thn (po_none.run pins s1 σ H1 (fun o H2 => o = none ∧ H2 = H1) I1 ⟨rfl, rfl⟩) fun vl s2 ⟨l, H2, I2, pl, el, e2⟩ => ?_)
  subst el e2
  refine thn (po_none.run pins s2 σ H2 (fun o H3 => o = none ∧ H3 = H2) I2 ⟨rfl, rfl⟩) fun vu s3 ⟨u, H3, I3, pu, eu, e3⟩ => ?_
  subst eu e3
  refine thn (hst.run pins s3 σ H3 (fun o H4 => o = some (-1) ∧ H4 = H3) I3 ⟨1, rfl, -1, rfl, rfl, rfl⟩) fun vs s4 ⟨o, H4, I4, ps, eo, e4⟩ => ?_
  subst eo e4
  have I5 : Inv X pins σ H4 { s4 with heap := s4.heap.push { cls := .type "slice", data := .fields #[vl, vu, vs] } } := I4.kept (t' := s4.toks) fun b ob q => Heap.get?_push_of_some _ q
  show wpAny (model X.prog X.w) X.A (subscriptTail e (.Slice none none (some (.UnaryOp .USub (.Constant (.int 1) k p1) p2)) p3) (.ref a) (.ref s4.heap.objs.size)) (EP X pins σ Q) X.xe { s4 with heap := s4.heap.push { cls := .type "slice", data := .fields #[vl, vu, vs] } }
  rcases q1 with ⟨hx, q⟩ | ⟨hx, q⟩
  · obtain ⟨its, r, ht, hz⟩ := I5.list hx
    have hlen := r.length
    refine tail_any (ops := [.ref a, .ref s4.heap.objs.size]) ht.isList.typeIs (PySem.slot_list_getitem.lookup) ?_ (by with_unfolding_all rfl)
    refine wpAny_getItem_list_slice ht.isList (Heap.IsSliceOf.new _ vl vu vs) pl pu ps (by decide) ?_ (by rw [List.size_toArray]; omega)
    rw [PySem.W.krv_pick]
    refine ⟨.ref _, _, I5.laid (t' := s4.toks) (o := .lst xs.reverse) (fun b ob q => Heap.get?_push_of_some _ q) (Nat.le_refl _) ?_, rfl, q _ (I5.hok.fresh (Nat.le_refl _))⟩
    exact ⟨by rw [List.length_reverse]; exact hz, _, 0, r.reverse, Heap.get?_push_size _ rfl⟩
  · obtain ⟨its, r, ht, hz⟩ := I5.tuple hx
    have hlen := r.length
    refine tail_any (ops := [.ref a, .ref s4.heap.objs.size]) ht.typeIs (PyProof.Rows.slot_tuple_getitem.lookup) ?_ (by with_unfolding_all rfl)
    refine HT.getItem_tuple_rev ht (Heap.IsSliceOf.new _ vl vu vs) pl pu ps ?_ (by rw [List.size_toArray]; omega)
    refine ⟨.ref _, _, I5.laid (t' := s4.toks) (o := .tup xs.reverse) (fun b ob q => Heap.get?_push_of_some _ q) (Nat.le_refl _) ?_, rfl, q _ (I5.hok.fresh (Nat.le_refl _))⟩
    exact ⟨by rw [List.length_reverse]; exact hz, _, r.reverse, IsTup.new _ _⟩
end
end L2

set_option Elab.async false
set_option linter.all false
set_option maxRecDepth 100000
set_option maxHeartbeats 4000000
/-! values, objects, stores of the plain side; how they stand for those of the layer -/
namespace CI
open PySem PySem.Spec PyProof.Rows L2 Evl
inductive AV where
  | non | bl (b : Bool) | int (i : Int) | str (x : Str)
  | tup (xs : List AV) | fl (xs : List AV) | loc (n : Nat) | k (v : V) | wd (es : List (Str × Str))
inductive AO where
  | lst (xs : List AV) | dct (kvs : List (Key × AV)) (fz : Bool) | ins (C : Nat) (fs : List (Str × AV))
abbrev Store := List AO
abbrev Env := List (Option AV)
/-- an exception: its class, its fields -/
structure XV where
  cls : V
  fs : List (Str × AV)
/-- what is known of the place: the written things, the world -/
structure Ct where
  K : PySem.W.Frag
  w : World
  cl : Nat → Addr
def M (A : Type) := Store → Option (Except XV A × Store)
def M.pure {A : Type} (a : A) : M A := fun S => some (.ok a, S)
def M.bind {A B : Type} (m : M A) (k : A → M B) : M B := fun S => match m S with
  | none => none
  | some (.ok a, S') => k a S'
  | some (.error x, S') => some (.error x, S')
instance : Monad M where
  pure := M.pure
  bind := M.bind
def M.no {A : Type} : M A := fun _ => none
def M.ofO {A : Type} : Option A → M A
  | some a => M.pure a
  | none => M.no
theorem bind_some {A B : Type} {m : M A} {k : A → M B} {S : Store} {o : Except XV B × Store} (h : (m >>= k) S = some o) :
    (∃ a S1, m S = some (.ok a, S1) ∧ k a S1 = some o) ∨ ∃ x S1, m S = some (.error x, S1) ∧ o = (.error x, S1) := by
  have h : M.bind m k S = some o := h
  unfold M.bind at h
  cases q : m S with
  | none => rw [q] at h; cases h
  | some p =>
    obtain ⟨e, S1⟩ := p
    rw [q] at h
    cases e with
    | ok a => exact .inl ⟨a, S1, rfl, h⟩
    | error x => exact .inr ⟨x, S1, rfl, (Option.some.inj h).symm⟩
theorem pure_some {A : Type} {a : A} {S : Store} {o : Except XV A × Store} (h : (pure a : M A) S = some o) : o = (.ok a, S) := (Option.some.inj h).symm
theorem ofO_some {A : Type} {a : Option A} {S : Store} {o : Except XV A × Store} (h : M.ofO a S = some o) : ∃ x, a = some x ∧ o = (.ok x, S) := by
  cases a with
  | none => cases h
  | some x => exact ⟨x, rfl, (Option.some.inj h).symm⟩
/-! ### the relation -/
def Perm : HO → Prop
  | .tup _ => True
  | .frz _ (.tup _) => True
  | .frz _ (.lst _) => True
  | _ => False
/-- what never changes stays -/
def Ps (H H' : Hp) : Prop := ∀ a o, H a = some o → Perm o → H' a = some o
theorem Ps.refl (H : Hp) : Ps H H := fun _ _ h _ => h
theorem Ps.trans {H H1 H2 : Hp} (a : Ps H H1) (b : Ps H1 H2) : Ps H H2 := fun x o h p => b x o (a x o h p) p
theorem Ps.new {H : Hp} {p : Addr} {o : HO} (h : H p = none) : Ps H (upd H p o) := fun a u e _ => by
  rw [upd_ne (ne_of_none e h)]
  exact e
theorem Ps.upd {H : Hp} {p : Addr} {o u : HO} (h : H p = some o) (n : ¬ Perm o) : Ps H (upd H p u) := fun a z e q => by
  have ne : a ≠ p := fun x => by
    subst x
    rw [h] at e; cases e
    exact n q
  rw [upd_ne ne]
  exact e
/-- a list that never changes -/
def SqF (K : PySem.W.Frag) (H : Hp) (a : Addr) (xs : List V) : Prop :=
  (∃ o, H a = some (.frz o (.lst xs))) ∨
    ∃ (o : Obj) (its : Array Value) (n : Nat), K.lookup a = some o ∧ o.cls = .type "list" ∧ o.dict = none ∧ o.data = .seq its n ∧ its.size ≤ sizeLine ∧ Vals xs its.toList
theorem SqF.l {K : PySem.W.Frag} {H : Hp} {a : Addr} {xs : List V} (h : SqF K H a xs) : SqL K H a xs := h.elim (fun ⟨o, h⟩ => .inl (.inr ⟨o, h⟩)) .inr
theorem Ps.sqF {K : PySem.W.Frag} {H H' : Hp} {a : Addr} {xs : List V} (e : Ps H H') (h : SqF K H a xs) : SqF K H' a xs := h.elim (fun ⟨o, h⟩ => .inl ⟨o, e _ _ h trivial⟩) .inr
theorem Ps.sq {K : PySem.W.Frag} {H H' : Hp} {a : Addr} {xs : List V} (e : Ps H H') (h : SqT K H a xs) : SqT K H' a xs := by
  rcases h with (h | ⟨o, h⟩) | h
  · exact .inl (.inl (e _ _ h trivial))
  · exact .inl (.inr ⟨o, e _ _ h trivial⟩)
  · exact .inr h
/-- a written dict of texts -/
def WD (c : Ct) (a : Addr) (es : List (Str × Str)) : Prop := ∀ p ∈ es, KDct c.K c.w a p.1 (.str p.2)
mutual
inductive Va (c : Ct) (μ : List Addr) (H : Hp) : V → AV → Prop
  | non : Va c μ H .non .non
  | bl (b : Bool) : Va c μ H (.bl b) (.bl b)
  | int (i : Int) : Va c μ H (.int i) (.int i)
  | str (x : Str) : Va c μ H (.str x) (.str x)
  | tup {a : Addr} {vs : List V} {xs : List AV} : SqT c.K H a vs → VaAll c μ H vs xs → Va c μ H (.ref a) (.tup xs)
  | fl {a : Addr} {vs : List V} {xs : List AV} : SqF c.K H a vs → VaAll c μ H vs xs → Va c μ H (.ref a) (.fl xs)
  | loc {a : Addr} {n : Nat} : μ[n]? = some a → Va c μ H (.ref a) (.loc n)
  | k (v : V) : Va c μ H v (.k v)
  | wd {a : Addr} {es : List (Str × Str)} : WD c a es → Va c μ H (.ref a) (.wd es)
inductive VaAll (c : Ct) (μ : List Addr) (H : Hp) : List V → List AV → Prop
  | nil : VaAll c μ H [] []
  | cons {v : V} {vs : List V} {x : AV} {xs : List AV} : Va c μ H v x → VaAll c μ H vs xs → VaAll c μ H (v :: vs) (x :: xs)
end
abbrev Pre (μ μ' : List Addr) : Prop := ∃ t, μ' = μ ++ t
theorem Pre.refl (μ : List Addr) : Pre μ μ := ⟨[], by simp⟩
theorem Pre.trans {a b d : List Addr} : Pre a b → Pre b d → Pre a d := fun ⟨t, h⟩ ⟨u, h'⟩ => ⟨t ++ u, by rw [h', h, List.append_assoc]⟩
theorem Pre.at {μ μ' : List Addr} (p : Pre μ μ') {n : Nat} {a : Addr} (h : μ[n]? = some a) : μ'[n]? = some a := by
  obtain ⟨t, rfl⟩ := p
  rw [List.getElem?_append_left (List.getElem?_eq_some_iff.mp h).1]
  exact h
section
variable {c : Ct} {μ μ' : List Addr} {H H' : Hp}
mutual
theorem Va.mono (p : Pre μ μ') (e : Ps H H') : ∀ {v : V} {x : AV}, Va c μ H v x → Va c μ' H' v x
  | _, _, .non => .non
  | _, _, .bl b => .bl b
  | _, _, .int i => .int i
  | _, _, .str x => .str x
  | _, _, .tup h1 h2 => .tup (e.sq h1) (VaAll.mono p e h2)
  | _, _, .fl h1 h2 => .fl (e.sqF h1) (VaAll.mono p e h2)
  | _, _, .loc h => .loc (p.at h)
  | _, _, .k v => .k v
  | _, _, .wd h => .wd h
theorem VaAll.mono (p : Pre μ μ') (e : Ps H H') : ∀ {vs : List V} {xs : List AV}, VaAll c μ H vs xs → VaAll c μ' H' vs xs
  | _, _, .nil => .nil
  | _, _, .cons h1 h2 => .cons (Va.mono p e h1) (VaAll.mono p e h2)
end
theorem VaAll.length : ∀ {vs : List V} {xs : List AV}, VaAll c μ H vs xs → vs.length = xs.length
  | _, _, .nil => rfl
  | _, _, .cons _ h => by rw [List.length_cons, List.length_cons, h.length]
theorem VaAll.get : ∀ {vs : List V} {xs : List AV} {i : Nat} {v : V}, VaAll c μ H vs xs → vs[i]? = some v → ∃ x, xs[i]? = some x ∧ Va c μ H v x
  | _, _, _, _, .nil, e => by simp at e
  | _, _, 0, _, .cons h _, e => by simp at e; subst e; exact ⟨_, rfl, h⟩
  | _, _, i + 1, _, .cons _ h, e => by simpa using VaAll.get (i := i) h (by simpa using e)
theorem VaAll.at : ∀ {vs : List V} {xs : List AV} {i : Nat} {x : AV}, VaAll c μ H vs xs → xs[i]? = some x → ∃ v, vs[i]? = some v ∧ Va c μ H v x
  | _, _, _, _, .nil, e => by simp at e
  | _, _, 0, _, .cons h _, e => by simp at e; subst e; exact ⟨_, rfl, h⟩
  | _, _, i + 1, _, .cons _ h, e => by simpa using VaAll.at (i := i) h (by simpa using e)
theorem VaAll.append : ∀ {vs ws : List V} {xs ys : List AV}, VaAll c μ H vs xs → VaAll c μ H ws ys → VaAll c μ H (vs ++ ws) (xs ++ ys)
  | _, _, _, _, .nil, h => h
  | _, _, _, _, .cons a b, h => .cons a (b.append h)
theorem VaAll.take : ∀ {vs : List V} {xs : List AV} (n : Nat), VaAll c μ H vs xs → VaAll c μ H (vs.take n) (xs.take n)
  | _, _, 0, _ => .nil
  | _, _, _ + 1, .nil => .nil
  | _, _, n + 1, .cons a b => .cons a (b.take n)
theorem VaAll.drop : ∀ {vs : List V} {xs : List AV} (n : Nat), VaAll c μ H vs xs → VaAll c μ H (vs.drop n) (xs.drop n)
  | _, _, 0, h => h
  | _, _, _ + 1, .nil => .nil
  | _, _, n + 1, .cons _ b => b.drop n
theorem VaAll.one {v : V} {x : AV} (h : Va c μ H v x) : VaAll c μ H [v] [x] := .cons h .nil
theorem VaAll.dropLast {vs : List V} {xs : List AV} (h : VaAll c μ H vs xs) : VaAll c μ H vs.dropLast xs.dropLast := by
  rw [List.dropLast_eq_take, List.dropLast_eq_take, h.length]
  exact h.take _
theorem VaAll.set {v : V} {x : AV} (r : Va c μ H v x) : ∀ {vs : List V} {xs : List AV} (i : Nat), VaAll c μ H vs xs → VaAll c μ H (vs.set i v) (xs.set i x)
  | _, _, _, .nil => .nil
  | _, _, 0, .cons _ b => .cons r b
  | _, _, i + 1, .cons a b => .cons a (b.set r i)
/-- pairs: keys, names alike -/
inductive VaP {κ : Type} (c : Ct) (μ : List Addr) (H : Hp) : List (κ × V) → List (κ × AV) → Prop
  | nil : VaP c μ H [] []
  | cons {k : κ} {v : V} {vs : List (κ × V)} {x : AV} {xs : List (κ × AV)} : Va c μ H v x → VaP c μ H vs xs → VaP c μ H ((k, v) :: vs) ((k, x) :: xs)
theorem VaP.mono {κ : Type} (p : Pre μ μ') (e : Ps H H') {vs : List (κ × V)} {xs : List (κ × AV)} (h : VaP c μ H vs xs) : VaP c μ' H' vs xs := by
  induction h with
  | nil => exact .nil
  | cons a _ ih => exact .cons (a.mono p e) ih
theorem VaP.length {κ : Type} {vs : List (κ × V)} {xs : List (κ × AV)} (h : VaP c μ H vs xs) : vs.length = xs.length := by
  induction h with
  | nil => rfl
  | cons _ _ ih => rw [List.length_cons, List.length_cons, ih]
theorem VaP.lookup {vs : List (Str × V)} {xs : List (Str × AV)} (h : VaP c μ H vs xs) {f : Str} {x : AV} (e : xs.lookup f = some x) : ∃ v, vs.lookup f = some v ∧ Va c μ H v x := by
  induction h with
  | nil => cases e
  | @cons k v vs y ys a _ ih =>
    rw [List.lookup_cons] at e ⊢
    cases q : (f == k) with
    | true =>
      rw [q] at e
      obtain rfl := Option.some.inj e
      exact ⟨v, rfl, a⟩
    | false =>
      rw [q] at e
      exact ih e
theorem VaP.lookup0 {vs : List (Str × V)} {xs : List (Str × AV)} (h : VaP c μ H vs xs) {f : Str} (e : xs.lookup f = none) : vs.lookup f = none := by
  induction h with
  | nil => rfl
  | @cons k v vs y ys a _ ih =>
    rw [List.lookup_cons] at e ⊢
    cases q : (f == k) with
    | true => rw [q] at e; cases e
    | false =>
      rw [q] at e
      exact ih e
/-! the keyed things -/
def getK {κ : Type} [DecidableEq κ] (xs : List (κ × AV)) (k : κ) : Option AV := (xs.find? fun kv => decide (kv.1 = k)).map (·.2)
def setK {κ : Type} [DecidableEq κ] (xs : List (κ × AV)) (k : κ) (x : AV) : List (κ × AV) :=
  if (xs.any fun kv => decide (kv.1 = k)) = true then xs.map (fun kv => if kv.1 = k then (kv.1, x) else kv) else xs ++ [(k, x)]
theorem VaP.get {κ : Type} [DecidableEq κ] {vs : List (κ × V)} {xs : List (κ × AV)} (h : VaP c μ H vs xs) (k : κ) :
    (getK xs k = none ∧ valV vs k = none) ∨ ∃ x v, getK xs k = some x ∧ valV vs k = some v ∧ Va c μ H v x := by
  induction h with
  | nil => exact .inl ⟨rfl, rfl⟩
  | @cons k' v vs y ys a _ ih =>
    by_cases q : k' = k
    · refine .inr ⟨y, v, by simp [getK, List.find?_cons, q], by simp [valV, List.find?_cons, q], a⟩
    · have e1 : getK ((k', y) :: ys) k = getK ys k := by simp [getK, List.find?_cons, q]
      have e2 : valV ((k', v) :: vs) k = valV vs k := by simp [valV, List.find?_cons, q]
      rw [e1, e2]
      exact ih
theorem VaP.any {κ : Type} [DecidableEq κ] {vs : List (κ × V)} {xs : List (κ × AV)} (h : VaP c μ H vs xs) (k : κ) : (vs.any fun kv => decide (kv.1 = k)) = xs.any fun kv => decide (kv.1 = k) := by
  induction h with
  | nil => rfl
  | cons a _ ih => rw [List.any_cons, List.any_cons, ih]
theorem VaP.append {κ : Type} {vs ws : List (κ × V)} {xs ys : List (κ × AV)} (h : VaP c μ H vs xs) (h' : VaP c μ H ws ys) : VaP c μ H (vs ++ ws) (xs ++ ys) := by
  induction h with
  | nil => exact h'
  | cons a _ ih => exact .cons a ih
theorem VaP.put {κ : Type} [DecidableEq κ] {vs : List (κ × V)} {xs : List (κ × AV)} (h : VaP c μ H vs xs) (k : κ) {v : V} {x : AV} (r : Va c μ H v x) : VaP c μ H (putK vs k v) (setK xs k x) := by
  unfold putK setK
  rw [h.any k]
  split
  · rename_i q0; clear q0
    induction h with
    | nil => exact .nil
    | @cons k' w ws y ys a _ ih =>
      rw [List.map_cons, List.map_cons]
      by_cases q : k' = k
      · show VaP c μ H ((if k' = k then (k', v) else (k', w)) :: _) ((if k' = k then (k', x) else (k', y)) :: _)
        rw [if_pos q, if_pos q]; exact .cons r ih
      · show VaP c μ H ((if k' = k then (k', v) else (k', w)) :: _) ((if k' = k then (k', x) else (k', y)) :: _)
        rw [if_neg q, if_neg q]; exact .cons a ih
  · exact h.append (.cons r .nil)
theorem VaP.keys {κ : Type} {vs : List (κ × V)} {xs : List (κ × AV)} (h : VaP c μ H vs xs) : vs.map (·.1) = xs.map (·.1) := by
  induction h with
  | nil => rfl
  | cons _ _ ih => rw [List.map_cons, List.map_cons, ih]
/-- an object -/
def RO (c : Ct) (μ : List Addr) (H : Hp) (a : Addr) : AO → Prop
  | .lst xs => ∃ vs, H a = some (.lst vs) ∧ VaAll c μ H vs xs
  | .dct kvs false => ∃ ks, H a = some (.dK ks) ∧ VaP c μ H ks kvs
  | .dct kvs true => ∃ o ks, H a = some (.frz o (.dK ks)) ∧ VaP c μ H ks kvs
  | .ins C fs => ∃ dx vs, H a = some (.ins (c.cl C) dx vs) ∧ VaP c μ H vs fs
theorem RO.known {a : Addr} {o : AO} (h : RO c μ H a o) : ∃ u, H a = some u ∧ ¬ Perm u := by
  cases o with
  | lst xs => obtain ⟨vs, e, _⟩ := h; exact ⟨_, e, fun z => z⟩
  | dct kvs fz =>
    cases fz with
    | false => obtain ⟨vs, e, _⟩ := h; exact ⟨_, e, fun z => z⟩
    | true => obtain ⟨_, vs, e, _⟩ := h; exact ⟨_, e, fun z => z⟩
  | ins C fs => obtain ⟨dx, vs, e, _⟩ := h; exact ⟨_, e, fun z => z⟩
/-- the object at a stands as before -/
theorem RO.mono {a : Addr} {o : AO} (p : Pre μ μ') (e : Ps H H') (ha : H' a = H a) (h : RO c μ H a o) : RO c μ' H' a o := by
  cases o with
  | lst xs => obtain ⟨vs, q, r⟩ := h; exact ⟨vs, ha.trans q, r.mono p e⟩
  | dct kvs fz =>
    cases fz with
    | false => obtain ⟨vs, q, r⟩ := h; exact ⟨vs, ha.trans q, r.mono p e⟩
    | true => obtain ⟨u, vs, q, r⟩ := h; exact ⟨u, vs, ha.trans q, r.mono p e⟩
  | ins C fs => obtain ⟨dx, vs, q, r⟩ := h; exact ⟨dx, vs, ha.trans q, r.mono p e⟩
/-- the store -/
structure RS (c : Ct) (μ : List Addr) (H : Hp) (S : Store) : Prop where
  nd : μ.Nodup
  len : μ.length = S.length
  at_ : ∀ (n : Nat) (a : Addr) (o : AO), μ[n]? = some a → S[n]? = some o → RO c μ H a o
variable {S : Store}
theorem RS.get (r : RS c μ H S) {n : Nat} {a : Addr} {o : AO} (h : μ[n]? = some a) (e : S[n]? = some o) : RO c μ H a o := r.at_ n a o h e
theorem RS.mem (r : RS c μ H S) {a : Addr} (h : a ∈ μ) : ∃ u, H a = some u ∧ ¬ Perm u := by
  obtain ⟨n, e⟩ := List.mem_iff_getElem?.mp h
  have hn := (List.getElem?_eq_some_iff.mp e).1
  rw [r.len] at hn
  exact (r.at_ n a _ e (List.getElem?_eq_getElem hn)).known
theorem RS.nin (r : RS c μ H S) {p : Addr} (h : H p = none) : p ∉ μ := fun m => by
  obtain ⟨u, e, _⟩ := r.mem m
  rw [h] at e; cases e
theorem RS.inj (r : RS c μ H S) {n m : Nat} {a : Addr} (h : μ[n]? = some a) (h' : μ[m]? = some a) : n = m := by
  obtain ⟨h1, e1⟩ := List.getElem?_eq_some_iff.mp h
  obtain ⟨h2, e2⟩ := List.getElem?_eq_some_iff.mp h'
  exact (List.getElem_inj r.nd).mp (e1.trans e2.symm)
/-- something new that is no object of the store -/
theorem RS.put (r : RS c μ H S) {p : Addr} {u : HO} (h : H p = none) : RS c μ (upd H p u) S :=
  ⟨r.nd, r.len, fun n a o e q => (r.at_ n a o e q).mono (.refl μ) (.new h) (upd_ne fun z => r.nin h (z ▸ List.mem_of_getElem? e))⟩
/-- a new object -/
theorem RS.new (r : RS c μ H S) {p : Addr} {u : HO} {o : AO} (h : H p = none) (ho : RO c (μ ++ [p]) (upd H p u) p o) : RS c (μ ++ [p]) (upd H p u) (S ++ [o]) := by
  refine ⟨?_, by rw [List.length_append, List.length_append, r.len]; rfl, fun n a q e z => ?_⟩
  · rw [List.nodup_append]
    refine ⟨r.nd, by simp, fun a ha b hb => ?_⟩
    rw [List.mem_singleton] at hb
    subst hb
    exact fun z => r.nin h (z ▸ ha)
  · by_cases hn : n < μ.length
    · rw [List.getElem?_append_left hn] at e
      rw [List.getElem?_append_left (by rw [← r.len]; exact hn)] at z
      exact (r.at_ n a q e z).mono ⟨[p], rfl⟩ (.new h) (upd_ne fun y => r.nin h (y ▸ List.mem_of_getElem? e))
    · have hn' := (List.getElem?_eq_some_iff.mp e).1
      rw [List.length_append, List.length_singleton] at hn'
      have : n = μ.length := by omega
      subst this
      rw [List.getElem?_append_right (Nat.le_refl _), Nat.sub_self] at e
      rw [r.len, List.getElem?_append_right (Nat.le_refl _), Nat.sub_self] at z
      obtain rfl := Option.some.inj e
      obtain rfl := Option.some.inj z
      exact ho
/-- an object changed -/
theorem RS.set (r : RS c μ H S) {n : Nat} {a : Addr} {u : HO} {o : AO} (h : μ[n]? = some a) (ho : RO c μ (upd H a u) a o) : RS c μ (upd H a u) (S.set n o) := by
  obtain ⟨u0, e0, n0⟩ := r.mem (List.mem_of_getElem? h)
  refine ⟨r.nd, by rw [List.length_set]; exact r.len, fun m b q e z => ?_⟩
  by_cases hm : n = m
  · subst hm
    rw [h] at e
    obtain rfl := Option.some.inj e
    rw [List.getElem?_set_self (by rw [← r.len]; exact (List.getElem?_eq_some_iff.mp h).1)] at z
    obtain rfl := Option.some.inj z
    exact ho
  · rw [List.getElem?_set_ne hm] at z
    refine (r.at_ m b q e z).mono (.refl μ) (.upd e0 n0) (upd_ne fun y => ?_)
    subst y
    exact hm (r.inj h e)
/-- slots -/
structure RE (c : Ct) (μ : List Addr) (H : Hp) (σ : L2.St) (ρ : Env) : Prop where
  len : σ.length = ρ.length
  at_ : ∀ (i : Nat) (x : AV), ρ[i]? = some (some x) → ∃ v, σ[i]? = some (some v) ∧ Va c μ H v x
variable {σ : L2.St} {ρ : Env}
theorem RE.mono (r : RE c μ H σ ρ) (p : Pre μ μ') (e : Ps H H') : RE c μ' H' σ ρ := ⟨r.len, fun i x h => let ⟨v, h1, h2⟩ := r.at_ i x h; ⟨v, h1, h2.mono p e⟩⟩
theorem RE.set (r : RE c μ H σ ρ) {v : V} {x : AV} (h : Va c μ H v x) (i : Nat) : RE c μ H (σ.set i (some v)) (ρ.set i (some x)) := by
  refine ⟨by rw [List.length_set, List.length_set, r.len], fun j y e => ?_⟩
  by_cases hij : i = j
  · subst hij
    have hl := (List.getElem?_eq_some_iff.mp e).1
    rw [List.length_set] at hl
    rw [List.getElem?_set_self hl] at e
    obtain rfl := Option.some.inj (Option.some.inj e)
    exact ⟨v, List.getElem?_set_self (by rw [r.len]; exact hl), h⟩
  · rw [List.getElem?_set_ne hij] at e
    obtain ⟨w, h1, h2⟩ := r.at_ j y e
    exact ⟨w, by rw [List.getElem?_set_ne hij]; exact h1, h2⟩
end
/-- what a computation may do to the heap: new things, and its own objects -/
structure Fw (μ : List Addr) (H : Hp) (μ' : List Addr) (H' : Hp) : Prop where
  ex : ∃ t, μ' = μ ++ t ∧ ∀ a ∈ t, H a = none
  fr : ∀ a o, H a = some o → a ∉ μ → H' a = some o
  fz : ∀ a o u, H a = some (.frz o u) → H' a = some (.frz o u)
section
variable {c : Ct} {μ μ' : List Addr} {H H' : Hp} {S S' : Store} {σ : L2.St} {ρ : Env}
theorem Fw.refl (μ : List Addr) (H : Hp) : Fw μ H μ H := ⟨⟨[], by simp, by simp⟩, fun _ _ h _ => h, fun _ _ _ h => h⟩
theorem Fw.pre (f : Fw μ H μ' H') : Pre μ μ' := let ⟨t, h, _⟩ := f.ex; ⟨t, h⟩
theorem RS.psF (rs : RS c μ H S) (f : Fw μ H μ' H') : Ps H H' := fun a o h p => f.fr a o h fun m => by
  obtain ⟨u, e, n⟩ := rs.mem m
  rw [h] at e; cases e
  exact n p
theorem Fw.trans {μ1 μ2 : List Addr} {H1 H2 : Hp} {S1 : Store} (f : Fw μ H μ1 H1) (rs1 : RS c μ1 H1 S1) (g : Fw μ1 H1 μ2 H2) : Fw μ H μ2 H2 := by
  obtain ⟨t, e, ht⟩ := f.ex
  obtain ⟨u, e', hu⟩ := g.ex
  refine ⟨⟨t ++ u, by rw [e', e, List.append_assoc], fun a ha => ?_⟩, fun a o h m => ?_, fun a o v h => g.fz a o v (f.fz a o v h)⟩
  · rcases List.mem_append.mp ha with ha | ha
    · exact ht a ha
    · cases q : H a with
      | none => rfl
      | some o =>
        have n1 := hu a ha
        by_cases m : a ∈ μ
        · obtain ⟨w, e2, _⟩ := rs1.mem (a := a) (by rw [e]; exact List.mem_append_left _ m)
          rw [n1] at e2; cases e2
        · rw [f.fr a o q m] at n1; cases n1
  · refine g.fr a o (f.fr a o h m) fun m1 => ?_
    rw [e] at m1
    rcases List.mem_append.mp m1 with m1 | m1
    · exact m m1
    · rw [ht a m1] at h; cases h
theorem Fw.new {p : Addr} {u : HO} (h : H p = none) : Fw μ H (μ ++ [p]) (upd H p u) :=
  ⟨⟨[p], rfl, fun a ha => by rw [List.mem_singleton] at ha; rw [ha]; exact h⟩, fun a o e _ => by rw [upd_ne (ne_of_none e h)]; exact e, fun a o v e => by rw [upd_ne (ne_of_none e h)]; exact e⟩
theorem Fw.put {p : Addr} {u : HO} (h : H p = none) : Fw μ H μ (upd H p u) :=
  ⟨⟨[], by simp, by simp⟩, fun a o e _ => by rw [upd_ne (ne_of_none e h)]; exact e, fun a o v e => by rw [upd_ne (ne_of_none e h)]; exact e⟩
def NoFz : HO → Prop
  | .frz _ _ => False
  | _ => True
theorem Fw.upd {n : Nat} {a : Addr} {u u0 : HO} (h : μ[n]? = some a) (h0 : H a = some u0) (n0 : NoFz u0) : Fw μ H μ (L2.upd H a u) :=
  ⟨⟨[], by simp, by simp⟩, fun b o e m => by rw [upd_ne fun z => m (by rw [z]; exact List.mem_of_getElem? h)]; exact e, fun b o v e => by
    rw [upd_ne fun z => ?_]
    · exact e
    · subst z; rw [h0] at e; cases e; exact n0⟩
theorem Va.fw (rs : RS c μ H S) (f : Fw μ H μ' H') {v : V} {x : AV} (r : Va c μ H v x) : Va c μ' H' v x := r.mono f.pre (rs.psF f)
theorem VaAll.fw (rs : RS c μ H S) (f : Fw μ H μ' H') {v : List V} {x : List AV} (r : VaAll c μ H v x) : VaAll c μ' H' v x := r.mono f.pre (rs.psF f)
theorem RE.fw (re : RE c μ H σ ρ) (rs : RS c μ H S) (f : Fw μ H μ' H') : RE c μ' H' σ ρ := re.mono f.pre (rs.psF f)
end
end CI

set_option Elab.async false
set_option linter.all false
set_option maxRecDepth 100000
set_option maxHeartbeats 4000000
/-! what a reading computes on the plain side; expressions -/
namespace CI
open PySem PySem.Spec PyProof.Rows L2 Evl
/-- an exception of the layer and one of the plain side -/
def XR (c : Ct) (μ : List Addr) (H : Hp) (cls : Value) (d : Option Addr) (x : XV) : Prop :=
  RelV x.cls cls ∧ ((d = none ∧ x.fs = []) ∨ ∃ a vs, d = some a ∧ H a = some (.xd vs) ∧ VaP c μ H vs x.fs)
abbrev Rl (B A : Type) := List Addr → Hp → B → A → Prop
def Ends1 {A B : Type} (c : Ct) (R : Rl B A) (μ : List Addr) (H : Hp) (E : XK) (Q : B → Hp → Prop) : Except XV A × Store → Prop
  | (.ok x, S') => ∀ v μ' H', Fw μ H μ' H' → RS c μ' H' S' → R μ' H' v x → Q v H'
  | (.error x, S') => ∀ cls d μ' H', Fw μ H μ' H' → RS c μ' H' S' → XR c μ' H' cls d x → E cls d H'
def Runs {A B : Type} (c : Ct) (R : Rl B A) (E : XK) (μ : List Addr) (H : Hp) (S : Store) (p : (B → Hp → Prop) → Prop) (m : M A) : Prop :=
  ∀ o, m S = some o → ∀ Q, Ends1 c R μ H E Q o → p Q
section
variable {A B A' B' : Type} {c : Ct} {R : Rl B A} {R' : Rl B' A'} {E : XK} {μ μ' : List Addr} {H H' : Hp} {S S' : Store}
theorem Ends1.later {Q : B → Hp → Prop} (f : Fw μ H μ' H') (rs : RS c μ' H' S') : ∀ {o : Except XV A × Store}, Ends1 c R μ H E Q o → Ends1 c R μ' H' E Q o
  | (.ok x, S1), h => fun v μ2 H2 f2 => h v μ2 H2 (f.trans rs f2)
  | (.error x, S1), h => fun cls d μ2 H2 f2 => h cls d μ2 H2 (f.trans rs f2)
theorem Runs.bind {p : (B → Hp → Prop) → Prop} {m : M A} {q : B → Hp → (B' → Hp → Prop) → Prop} {k : A → M A'} (h : Runs c R E μ H S p m)
    (hk : ∀ μ' H' S' v x, Fw μ H μ' H' → RS c μ' H' S' → R μ' H' v x → Runs c R' E μ' H' S' (q v H') (k x)) : Runs c R' E μ H S (fun Q => p fun v H' => q v H' Q) (m >>= k) := fun o ho Q hQ => by
  rcases bind_some ho with ⟨a, S1, h1, h2⟩ | ⟨x, S1, h1, h2⟩
  · exact h _ h1 _ fun v μ' H' f rs rv => hk μ' H' S1 v a f rs rv o h2 Q (hQ.later f rs)
  · subst h2
    exact h _ h1 _ hQ
theorem Runs.pure {v : B} {x : A} (rs : RS c μ H S) (h : R μ H v x) : Runs c R E μ H S (fun Q => Q v H) (pure x) := fun o ho Q hQ => by
  obtain rfl := pure_some ho
  exact hQ v μ H (.refl _ _) rs h
theorem Runs.ofO {v : B} {x : Option A} (rs : RS c μ H S) (h : ∀ y, x = some y → R μ H v y) : Runs c R E μ H S (fun Q => Q v H) (M.ofO x) := fun o ho Q hQ => by
  obtain ⟨y, e, rfl⟩ := ofO_some ho
  exact hQ v μ H (.refl _ _) rs (h y e)
theorem Runs.no {p : (B → Hp → Prop) → Prop} : Runs c R E μ H S p (M.no : M A) := fun o ho => by cases ho
theorem Runs.imp {p p' : (B → Hp → Prop) → Prop} {m : M A} (h : Runs c R E μ H S p m) (hp : ∀ Q, p Q → p' Q) : Runs c R E μ H S p' m := fun o ho Q hQ => hp Q (h o ho Q hQ)
end
/-! ### bundles: a reading, what it computes -/
abbrev XT1 (B : Type) := XK → L2.St → Hp → (B → Hp → Prop) → Prop
def Sim {A B : Type} (c : Ct) (R : Rl B A) (t : XT1 B) (f : Env → M A) : Prop :=
  ∀ E μ H σ ρ S, RS c μ H S → RE c μ H σ ρ → Runs c R E μ H S (t E σ H) (f ρ)
abbrev RlB : Rl Bool Bool := fun _ _ b a => b = a
structure XE (c : Ct) where
  t : XT1 V
  f : Env → M AV
  sim : Sim c (Va c) t f
structure XA (c : Ct) where
  t : XT1 (List V)
  f : Env → M (List AV)
  sim : Sim c (VaAll c) t f
structure XT (c : Ct) where
  t : XT1 Bool
  f : Env → M Bool
  sim : Sim c RlB t f
def RlO : Rl (Option Int) (Option Int) := fun _ _ b a => b = a
structure XO (c : Ct) where
  t : XT1 (Option Int)
  f : Env → M (Option Int)
  sim : Sim c RlO t f
/-! ### leaves -/
def mVar (i : Nat) : Env → M AV := fun ρ => M.ofO (ρ[i]?.join)
def mC (x : AV) : Env → M AV := fun _ => pure x
section
variable {c : Ct}
def XE.var (i : Nat) : XE c where
  t := fun _ => tVar i
  f := mVar i
  sim := fun E μ H σ ρ S rs re o ho Q hQ => by
    obtain ⟨y, e, rfl⟩ := ofO_some ho
    obtain ⟨v, h1, h2⟩ := re.at_ i y (by
      cases q : ρ[i]? with
      | none => rw [q] at e; cases e
      | some z => rw [q] at e; exact congrArg some e)
    exact ⟨v, h1, hQ v μ H (.refl _ _) rs h2⟩
def XE.int (i : Int) : XE c where
  t := fun _ => tC (.int i)
  f := mC (.int i)
  sim := fun E μ H σ ρ S rs re => Runs.pure rs (.int i)
def XE.str (x : Str) : XE c where
  t := fun _ => tC (.str x)
  f := mC (.str x)
  sim := fun E μ H σ ρ S rs re => Runs.pure rs (.str x)
def XE.bl (b : Bool) : XE c where
  t := fun _ => tC (.bl b)
  f := mC (.bl b)
  sim := fun E μ H σ ρ S rs re => Runs.pure rs (.bl b)
def XE.non : XE c where
  t := fun _ => tC .non
  f := mC .non
  sim := fun E μ H σ ρ S rs re => Runs.pure rs .non
/-- a thing that stands everywhere as a plain value says -/
def XE.cst (v : V) (x : AV) (h : ∀ μ H, Va c μ H v x) : XE c where
  t := fun _ => tC v
  f := mC x
  sim := fun E μ H σ ρ S rs re => Runs.pure rs (h μ H)
def XE.ty (n : String) : XE c := .cst (.ty n) (.k (.ty n)) fun _ _ => .k _
def mNil : Env → M (List AV) := fun _ => pure []
def XA.nil : XA c where
  t := fun _ => tNil
  f := mNil
  sim := fun E μ H σ ρ S rs re => Runs.pure rs .nil
def mCons (a : Env → M AV) (r : Env → M (List AV)) : Env → M (List AV) := fun ρ => do let x ← a ρ; let xs ← r ρ; pure (x :: xs)
def XA.cons (a : XE c) (r : XA c) : XA c where
  t := fun E => tCons (a.t E) (r.t E)
  f := mCons a.f r.f
  sim := fun E μ H σ ρ S rs re => (a.sim E μ H σ ρ S rs re).bind fun μ1 H1 S1 v x f1 rs1 rv => (r.sim E μ1 H1 σ ρ S1 rs1 (re.fw rs f1)).bind fun μ2 H2 S2 vs xs f2 rs2 rvs => Runs.pure rs2 (.cons (rv.fw rs1 f2) rvs)
/-! ### two-place operations -/
def Sim2 (c : Ct) (r : R2) (g : AV → AV → M AV) : Prop := ∀ E μ H S v w x y, RS c μ H S → Va c μ H v x → Va c μ H w y → Runs c (Va c) E μ H S (r v w H) (g x y)
def mOp (g : AV → AV → M AV) (a b : Env → M AV) : Env → M AV := fun ρ => do let x ← a ρ; let y ← b ρ; g x y
def XE.op (r : R2) (g : AV → AV → M AV) (h : Sim2 c r g) (a b : XE c) : XE c where
  t := fun E => tOp r (a.t E) (b.t E)
  f := mOp g a.f b.f
  sim := fun E μ H σ ρ S rs re => (a.sim E μ H σ ρ S rs re).bind fun μ1 H1 S1 v x f1 rs1 rv => (b.sim E μ1 H1 σ ρ S1 rs1 (re.fw rs f1)).bind fun μ2 H2 S2 w y f2 rs2 rw' => h E μ2 H2 S2 v w x y rs2 (rv.fw rs1 f2) rw'
theorem Sim2.or {r r' : R2} {g g' : AV → AV → M AV} (h : Sim2 c r g) (h' : Sim2 c r' g') (ch : AV → AV → Bool) : Sim2 c (fun x y H Q => r x y H Q ∨ r' x y H Q) (fun x y => if ch x y then g x y else g' x y) := fun E μ H S v w x y rs rv rw' => by
  cases q : ch x y with
  | true =>
    simp only [q, if_true]
    exact (h E μ H S v w x y rs rv rw').imp fun Q => .inl
  | false =>
    simp only [q, Bool.false_eq_true, if_false]
    exact (h' E μ H S v w x y rs rv rw').imp fun Q => .inr
/-! new objects -/
def M.new (o : AO) : M AV := fun S => some (.ok (.loc S.length), S ++ [o])
theorem Runs.new {E : XK} {μ : List Addr} {H : Hp} {S : Store} {u : HO} {o : AO} (rs : RS c μ H S) (h : ∀ p, H p = none → RO c (μ ++ [p]) (upd H p u) p o) : Runs c (Va c) E μ H S (fun Q => ∀ p, H p = none → Q (.ref p) (upd H p u)) (M.new o) := fun z hz Q hQ => by
  obtain rfl := (Option.some.inj hz).symm
  exact fun p hp => hQ _ (μ ++ [p]) _ (.new hp) (rs.new hp (h p hp)) (.loc (by rw [← rs.len, List.getElem?_append_right (Nat.le_refl _), Nat.sub_self]; rfl))
theorem Runs.newLst {E : XK} {μ : List Addr} {H : Hp} {S : Store} {vs : List V} {xs : List AV} (rs : RS c μ H S) (r : VaAll c μ H vs xs) : Runs c (Va c) E μ H S (fun Q => ∀ p, H p = none → Q (.ref p) (upd H p (.lst vs))) (M.new (.lst xs)) :=
  .new rs fun p hp => ⟨vs, upd_same, r.mono ⟨[p], rfl⟩ (.new hp)⟩
theorem Runs.newTup {E : XK} {μ : List Addr} {H : Hp} {S : Store} {vs : List V} {xs : List AV} (rs : RS c μ H S) (r : VaAll c μ H vs xs) : Runs c (Va c) E μ H S (fun Q => ∀ p, H p = none → Q (.ref p) (upd H p (.tup vs))) (Pure.pure (AV.tup xs)) := fun z hz Q hQ => by
  obtain rfl := pure_some hz
  exact fun p hp => hQ _ μ _ (.put hp) (rs.put hp) (.tup (st_of upd_same) (r.mono (.refl _) (.new hp)))
/-- the object at a place -/
def M.at (n : Nat) : M AO := fun S => match S[n]? with
  | some o => some (.ok o, S)
  | none => none
def getL (x : AV) : M (List AV) := fun S => match x with
  | .loc n => match S[n]? with
    | some (.lst xs) => some (.ok xs, S)
    | _ => none
  | .fl xs => some (.ok xs, S)
  | _ => none
def getS (x : AV) : M (List AV) := fun S => match x with
  | .tup xs => some (.ok xs, S)
  | x => getL x S
theorem getL_ok {μ : List Addr} {H : Hp} {S : Store} {v : V} {x : AV} {o : Except XV (List AV) × Store} (rs : RS c μ H S) (rv : Va c μ H v x) (h : getL x S = some o) :
    ∃ a vs xs, v = .ref a ∧ SqL c.K H a vs ∧ VaAll c μ H vs xs ∧ o = (.ok xs, S) := by
  unfold getL at h
  cases rv with
  | loc e =>
    rename_i a n
    simp only at h
    split at h
    · rename_i xs q
      obtain ⟨vs, h1, h2⟩ := rs.get e q
      exact ⟨a, vs, xs, rfl, sq_of h1, h2, (Option.some.inj h).symm⟩
    · cases h
  | fl h1 h2 => exact ⟨_, _, _, rfl, h1.l, h2, (Option.some.inj h).symm⟩
  | _ => cases h
theorem getS_ok {μ : List Addr} {H : Hp} {S : Store} {v : V} {x : AV} {o : Except XV (List AV) × Store} (rs : RS c μ H S) (rv : Va c μ H v x) (h : getS x S = some o) :
    ∃ a vs xs, v = .ref a ∧ (SqL c.K H a vs ∨ SqT c.K H a vs) ∧ VaAll c μ H vs xs ∧ o = (.ok xs, S) := by
  unfold getS at h
  cases rv with
  | tup h1 h2 => exact ⟨_, _, _, rfl, .inr h1, h2, (Option.some.inj h).symm⟩
  | loc e => obtain ⟨a, vs, xs, h1, h2, h3⟩ := getL_ok rs (.loc e) h; exact ⟨a, vs, xs, h1, .inl h2, h3⟩
  | fl h1 h2 => exact ⟨_, _, _, rfl, .inl h1.l, h2, (Option.some.inj h).symm⟩
  | _ => cases h
/-! ints -/
def gI (C : Int → Int → Bool) (g : Int → Int → AV) (x y : AV) : M AV := match x, y with
  | .int i, .int j => if C i j then pure (g i j) else M.no
  | _, _ => M.no
theorem sim_I {C : Int → Int → Prop} {Cb : Int → Int → Bool} {g : Int → Int → V} {g' : Int → Int → AV} (hC : ∀ i j, Cb i j = true → C i j) (hg : ∀ μ H i j, Va c μ H (g i j) (g' i j)) : Sim2 c (rI C g) (gI Cb g') := fun E μ H S v w x y rs rv rw' o ho Q hQ => by
  cases rv with
  | int i =>
    cases rw' with
    | int j =>
      unfold gI at ho
      simp only at ho
      split at ho
      · rename_i q
        obtain rfl := pure_some ho
        exact ⟨i, j, rfl, rfl, hC i j q, hQ _ μ H (.refl _ _) rs (hg μ H i j)⟩
      · cases ho
    | _ => cases ho
  | _ => cases ho
def gI0 (g : Int → Int → AV) (x y : AV) : M AV := match x, y with
  | .int i, .int j => pure (g i j)
  | _, _ => M.no
theorem sim_I0 {g : Int → Int → V} {g' : Int → Int → AV} (hg : ∀ μ H i j, Va c μ H (g i j) (g' i j)) : Sim2 c (rI0 g) (gI0 g') := fun E μ H S v w x y rs rv rw' o ho Q hQ => by
  cases rv with
  | int i =>
    cases rw' with
    | int j =>
      obtain rfl := pure_some ho
      exact ⟨i, j, rfl, rfl, hQ _ μ H (.refl _ _) rs (hg μ H i j)⟩
    | _ => cases ho
  | _ => cases ho
def XE.sub : XE c → XE c → XE c := .op (rI0 fun i j => .int (i - j)) (gI0 fun i j => .int (i - j)) (sim_I0 fun _ _ _ _ => .int _)
def bMul (i j : Int) : Bool := decide ((-(2 ^ 64) < i ∧ i < 2 ^ 64) ∨ (-(2 ^ 64) < j ∧ j < 2 ^ 64))
def XE.mul : XE c → XE c → XE c := .op (rI CMul fun i j => .int (i * j)) (gI bMul fun i j => .int (i * j)) (sim_I (fun i j h => show (-(2 ^ 64) < i ∧ i < 2 ^ 64) ∨ (-(2 ^ 64) < j ∧ j < 2 ^ 64) from of_decide_eq_true h) fun _ _ _ _ => .int _)
def bDiv (_ j : Int) : Bool := decide (0 < j ∧ j < 1073741824)
def XE.fdiv : XE c → XE c → XE c := .op (rI CDiv fun i j => .int (i / j)) (gI bDiv fun i j => .int (i / j)) (sim_I (fun i j h => show 0 < j ∧ j < 1073741824 from of_decide_eq_true h) fun _ _ _ _ => .int _)
def XE.mod : XE c → XE c → XE c := .op (rI (fun _ j => 0 < j) fun i j => .int (i % j)) (gI (fun _ j => decide (0 < j)) fun i j => .int (i % j)) (sim_I (fun _ _ h => of_decide_eq_true h) fun _ _ _ _ => .int _)
def bPow (i j : Int) : Bool := decide (0 ≤ j ∧ j ≤ 1000000 ∧ i.natAbs < 2 ^ 64)
def XE.pow : XE c → XE c → XE c := .op (rI CPow fun i j => .int (i ^ j.toNat)) (gI bPow fun i j => .int (i ^ j.toNat)) (sim_I (fun i j h => show 0 ≤ j ∧ j ≤ 1000000 ∧ i.natAbs < 2 ^ 64 from of_decide_eq_true h) fun _ _ _ _ => .int _)
/-- + -/
def rAdd4 (K : PySem.W.Frag) : R2 := fun x y H Q => rI0 (fun i j => .int (i + j)) x y H Q ∨ rCatA K x y H Q ∨ rCat x y H Q
def gAdd (x y : AV) : M AV := match x, y with
  | .int i, .int j => pure (.int (i + j))
  | .tup xs, .tup ys => if xs.length + ys.length ≤ 100000 then pure (.tup (xs ++ ys)) else M.no
  | .loc n, .loc m => do
    let xs ← getL (.loc n)
    let ys ← getL (.loc m)
    if xs.length + ys.length ≤ 100000 then M.new (.lst (xs ++ ys)) else M.no
  | _, _ => M.no
theorem sim_add : Sim2 c (rAdd4 c.K) gAdd := fun E μ H S v w x y rs rv rw' o ho Q hQ => by
  cases rv with
  | int i =>
    cases rw' with
    | int j =>
      obtain rfl := pure_some ho
      exact .inl ⟨i, j, rfl, rfl, hQ _ μ H (.refl _ _) rs (.int _)⟩
    | _ => cases ho
  | tup h1 h2 =>
    rename_i a vs xs
    cases rw' with
    | tup h3 h4 =>
      rename_i b ws ys
      unfold gAdd at ho
      simp only at ho
      split at ho
      · rename_i q
        obtain rfl := pure_some ho
        refine .inr (.inl ⟨a, b, vs, ws, rfl, rfl, h1, h3, sz_of (by rw [h2.length, h4.length]; exact q), fun e => ?_, fun _ e => ?_, fun _ _ p hp => ?_⟩)
        · subst e
          cases h2
          exact hQ _ μ H (.refl _ _) rs (.tup h3 h4)
        · subst e
          cases h4
          rw [List.append_nil] at hQ
          exact hQ _ μ H (.refl _ _) rs (.tup h1 h2)
        · exact hQ _ μ _ (.put hp) (rs.put hp) (.tup (st_of upd_same) ((h2.append h4).mono (.refl _) (.new hp)))
      · cases ho
    | _ => cases ho
  | loc e1 =>
    rename_i a n
    cases rw' with
    | loc e2 =>
      rename_i b m
      unfold gAdd at ho
      simp only at ho
      rcases bind_some ho with ⟨xs, S1, h1, h2⟩ | ⟨x, S1, h1, h2⟩
      · unfold getL at h1
        simp only at h1
        split at h1
        · rename_i xs' q1
          cases h1
          rcases bind_some h2 with ⟨ys, S2, h3, h4⟩ | ⟨x, S2, h3, h4⟩
          · unfold getL at h3
            simp only at h3
            split at h3
            · rename_i ys' q2
              cases h3
              split at h4
              · rename_i q
                obtain ⟨vs, r1, r2⟩ := rs.get e1 q1
                obtain ⟨ws, r3, r4⟩ := rs.get e2 q2
                exact .inr (.inr ⟨a, b, vs, ws, rfl, rfl, r1, r3, sz_of (by rw [r2.length, r4.length]; exact q), Runs.newLst rs (r2.append r4) _ h4 Q hQ⟩)
              · cases h4
            · cases h3
          · unfold getL at h3
            simp only at h3
            split at h3 <;> cases h3
        · cases h1
      · unfold getL at h1
        simp only at h1
        split at h1 <;> cases h1
    | _ => cases ho
  | _ => cases ho
def XE.add : XE c → XE c → XE c := .op (rAdd4 c.K) gAdd sim_add
/-! comparisons of ints -/
def XE.lt : XE c → XE c → XE c := .op (rI0 fun i j => .bl (decide (i < j))) (gI0 fun i j => .bl (decide (i < j))) (sim_I0 fun _ _ _ _ => .bl _)
def XE.le : XE c → XE c → XE c := .op (rI0 fun i j => .bl (decide (i ≤ j))) (gI0 fun i j => .bl (decide (i ≤ j))) (sim_I0 fun _ _ _ _ => .bl _)
def XE.gt : XE c → XE c → XE c := .op (rI0 fun i j => .bl (decide (j < i))) (gI0 fun i j => .bl (decide (j < i))) (sim_I0 fun _ _ _ _ => .bl _)
def XE.ge : XE c → XE c → XE c := .op (rI0 fun i j => .bl (decide (j ≤ i))) (gI0 fun i j => .bl (decide (j ≤ i))) (sim_I0 fun _ _ _ _ => .bl _)
/-! displays -/
def mTup (a : Env → M (List AV)) : Env → M AV := fun ρ => do let xs ← a ρ; if xs.length ≤ 100000 then pure (.tup xs) else M.no
def XE.tup (a : XA c) : XE c where
  t := fun E => tTup (a.t E)
  f := mTup a.f
  sim := fun E μ H σ ρ S rs re => (a.sim E μ H σ ρ S rs re).bind fun μ1 H1 S1 vs xs f1 rs1 rv => by
    intro o ho Q hQ
    split at ho
    · rename_i q
      exact ⟨sz_of (by rw [rv.length]; exact q), Runs.newTup rs1 rv _ ho Q hQ⟩
    · cases ho
def mLst (a : Env → M (List AV)) : Env → M AV := fun ρ => do let xs ← a ρ; if xs.length ≤ 100000 then M.new (.lst xs) else M.no
def XE.lst (a : XA c) : XE c where
  t := fun E => tLst (a.t E)
  f := mLst a.f
  sim := fun E μ H σ ρ S rs re => (a.sim E μ H σ ρ S rs re).bind fun μ1 H1 S1 vs xs f1 rs1 rv => by
    intro o ho Q hQ
    split at ho
    · rename_i q
      exact ⟨sz_of (by rw [rv.length]; exact q), Runs.newLst rs1 rv _ ho Q hQ⟩
    · cases ho
def mDict0 : Env → M AV := fun _ => M.new (.dct [] false)
def XE.dict0 : XE c where
  t := fun _ => tDNewK
  f := mDict0
  sim := fun E μ H σ ρ S rs re => Runs.new rs fun p hp => ⟨[], upd_same, .nil⟩
/-! tests, and, or, not, if -/
def toB (x : AV) : M Bool := match x with
  | .bl b => pure b
  | _ => M.no
theorem Runs.tob {B : Type} {A : Type} {R : Rl B A} {E : XK} {μ : List Addr} {H : Hp} {S : Store} {v : V} {x : AV} {k : Bool → M A} {q : Bool → (B → Hp → Prop) → Prop} (rv : Va c μ H v x) (h : ∀ b, v = .bl b → Runs c R E μ H S (q b) (k b)) :
    Runs c R E μ H S (fun Q => ∃ b, v = .bl b ∧ q b Q) (toB x >>= k) := fun o ho Q hQ => by
  cases rv with
  | bl b => exact ⟨b, rfl, h b rfl o ho Q hQ⟩
  | _ => cases ho
def mTest (a : Env → M AV) : Env → M Bool := fun ρ => a ρ >>= fun x => toB x >>= fun b => Pure.pure b
def XT.ofE (a : XE c) : XT c where
  t := fun E => tB (a.t E)
  f := mTest a.f
  sim := fun E μ H σ ρ S rs re => (a.sim E μ H σ ρ S rs re).bind fun μ1 H1 S1 v x f1 rs1 rv => Runs.tob rv fun b _ => Runs.pure rs1 rfl
theorem tTest_eq (t : TE) : tTest t = tB t := rfl
def mTAnd (a b : Env → M Bool) : Env → M Bool := fun ρ => do let x ← a ρ; if x = true then b ρ else pure false
def XT.and (a b : XT c) : XT c where
  t := fun E => tAnd (a.t E) (b.t E)
  f := mTAnd a.f b.f
  sim := fun E μ H σ ρ S rs re => (a.sim E μ H σ ρ S rs re).bind fun μ1 H1 S1 v x f1 rs1 rv => by
    cases rv
    cases v with
    | true => exact b.sim E μ1 H1 σ ρ S1 rs1 (re.fw rs f1)
    | false => exact Runs.pure rs1 rfl
def mTOr (a b : Env → M Bool) : Env → M Bool := fun ρ => do let x ← a ρ; if x = true then pure true else b ρ
def XT.or (a b : XT c) : XT c where
  t := fun E => tOr (a.t E) (b.t E)
  f := mTOr a.f b.f
  sim := fun E μ H σ ρ S rs re => (a.sim E μ H σ ρ S rs re).bind fun μ1 H1 S1 v x f1 rs1 rv => by
    cases rv
    cases v with
    | true => exact Runs.pure rs1 rfl
    | false => exact b.sim E μ1 H1 σ ρ S1 rs1 (re.fw rs f1)
def mTNot (a : Env → M Bool) : Env → M Bool := fun ρ => do let x ← a ρ; pure (!x)
def XT.not (a : XT c) : XT c where
  t := fun E => tNot (a.t E)
  f := mTNot a.f
  sim := fun E μ H σ ρ S rs re => (a.sim E μ H σ ρ S rs re).bind fun μ1 H1 S1 v x f1 rs1 rv => by
    cases rv
    exact Runs.pure rs1 rfl
def mAnd (a b : Env → M AV) : Env → M AV := fun ρ => do let x ← a ρ; let k ← toB x; if k = true then b ρ else pure (.bl false)
def XE.and (a b : XE c) : XE c where
  t := fun E => tAndV (a.t E) (b.t E)
  f := mAnd a.f b.f
  sim := fun E μ H σ ρ S rs re => (a.sim E μ H σ ρ S rs re).bind fun μ1 H1 S1 v x f1 rs1 rv => Runs.tob rv fun k _ => by
    cases k with
    | true => exact b.sim E μ1 H1 σ ρ S1 rs1 (re.fw rs f1)
    | false => exact Runs.pure rs1 (.bl false)
def mOr (a b : Env → M AV) : Env → M AV := fun ρ => do let x ← a ρ; let k ← toB x; if k = true then pure (.bl true) else b ρ
def XE.or (a b : XE c) : XE c where
  t := fun E => tOrV (a.t E) (b.t E)
  f := mOr a.f b.f
  sim := fun E μ H σ ρ S rs re => (a.sim E μ H σ ρ S rs re).bind fun μ1 H1 S1 v x f1 rs1 rv => Runs.tob rv fun k _ => by
    cases k with
    | true => exact Runs.pure rs1 (.bl true)
    | false => exact b.sim E μ1 H1 σ ρ S1 rs1 (re.fw rs f1)
def mNot (a : Env → M AV) : Env → M AV := fun ρ => do let x ← a ρ; let k ← toB x; pure (.bl (!k))
def XE.not (a : XE c) : XE c where
  t := fun E => tNotV (a.t E)
  f := mNot a.f
  sim := fun E μ H σ ρ S rs re => (a.sim E μ H σ ρ S rs re).bind fun μ1 H1 S1 v x f1 rs1 rv => Runs.tob rv fun k _ => Runs.pure rs1 (.bl _)
def mIfe (t : Env → M Bool) (a b : Env → M AV) : Env → M AV := fun ρ => do let x ← t ρ; if x = true then a ρ else b ρ
def XE.ife (t : XT c) (a b : XE c) : XE c where
  t := fun E => tIf (t.t E) (a.t E) (b.t E)
  f := mIfe t.f a.f b.f
  sim := fun E μ H σ ρ S rs re => (t.sim E μ H σ ρ S rs re).bind fun μ1 H1 S1 v x f1 rs1 rv => by
    cases rv
    cases v with
    | true => exact a.sim E μ1 H1 σ ρ S1 rs1 (re.fw rs f1)
    | false => exact b.sim E μ1 H1 σ ρ S1 rs1 (re.fw rs f1)
/-! a < b < c -/
def mChain (g g' : AV → AV → M AV) (a b d : Env → M AV) : Env → M AV := fun ρ => do let x ← a ρ; let y ← b ρ; let z ← g x y; let k ← toB z; if k = true then (do let w ← d ρ; g' y w) else pure (.bl false)
def XE.chain {r r' : R2} {g g' : AV → AV → M AV} (h : Sim2 c r g) (h' : Sim2 c r' g') (a b d : XE c) : XE c where
  t := fun E => tChain r r' (a.t E) (b.t E) (d.t E)
  f := mChain g g' a.f b.f d.f
  sim := fun E μ H σ ρ S rs re => (a.sim E μ H σ ρ S rs re).bind fun μ1 H1 S1 v x f1 rs1 rv => (b.sim E μ1 H1 σ ρ S1 rs1 (re.fw rs f1)).bind fun μ2 H2 S2 w y f2 rs2 rw' =>
    (h E μ2 H2 S2 v w x y rs2 (rv.fw rs1 f2) rw').bind fun μ3 H3 S3 z u f3 rs3 rz => Runs.tob rz fun k _ => by
      cases k with
      | true => exact (d.sim E μ3 H3 σ ρ S3 rs3 (((re.fw rs f1).fw rs1 f2).fw rs2 f3)).bind fun μ4 H4 S4 w' u' f4 rs4 rw4 => h' E μ4 H4 S4 w w' y u' rs4 ((rw'.fw rs2 f3).fw rs3 f4) rw4
      | false => exact Runs.pure rs3 (.bl false)
end
end CI

set_option Elab.async false
set_option linter.all false
set_option maxRecDepth 100000
set_option maxHeartbeats 4000000
/-! equality, membership, subscripts, slices, fields, calls -/
namespace CI
open PySem PySem.Spec PyProof.Rows L2 Evl
mutual
def AV.toD : AV → Option PyData
  | .non => some .none
  | .bl b => some (.bool b)
  | .int i => some (.int i)
  | .str x => some (.str x)
  | .tup xs => (AV.toDs xs).map .tuple
  | .fl xs => (AV.toDs xs).map .list
  | _ => none
def AV.toDs : List AV → Option (List PyData)
  | [] => some []
  | x :: xs => match AV.toD x, AV.toDs xs with
    | some d, some ds => some (d :: ds)
    | _, _ => none
end
section
variable {c : Ct} {μ μ' : List Addr} {H H' : Hp} {S S' : Store}
mutual
theorem toD_dp : ∀ {v : V} {x : AV} {d : PyData}, Va c μ H v x → x.toD = some d → Dp c.K H v d
  | _, _, _, .non, e => by cases e; exact .non
  | _, _, _, .bl b, e => by cases e; exact .bl b
  | _, _, _, .int i, e => by cases e; exact .int i
  | _, _, _, .str x, e => by cases e; exact .str x
  | _, _, _, .tup (xs := xs) h1 h2, e => by
    unfold AV.toD at e
    obtain ⟨ds, e1, rfl⟩ := Option.map_eq_some_iff.mp e
    exact .tup h1 (toDs_dp h2 e1)
  | _, _, _, .fl (xs := xs) h1 h2, e => by
    unfold AV.toD at e
    obtain ⟨ds, e1, rfl⟩ := Option.map_eq_some_iff.mp e
    exact .lst h1.l (toDs_dp h2 e1)
  | _, _, _, .loc h, e => by cases e
  | _, _, _, .k v, e => by cases e
  | _, _, _, .wd h, e => by cases e
theorem toDs_dp : ∀ {vs : List V} {xs : List AV} {ds : List PyData}, VaAll c μ H vs xs → AV.toDs xs = some ds → DpAll c.K H vs ds
  | _, _, _, .nil, e => by cases e; exact .nil
  | _, _, _, .cons (x := x) (xs := xs) h1 h2, e => by
    unfold AV.toDs at e
    split at e
    · rename_i d ds e1 e2
      cases e
      exact .cons (toD_dp h1 e1) (toDs_dp h2 e2)
    · cases e
end
def dataOf (x : AV) (S : Store) : Option PyData := match x with
  | .loc n => match S[n]? with
    | some (.lst xs) => (AV.toDs xs).map .list
    | _ => none
  | x => x.toD
theorem dataOf_dp {v : V} {x : AV} {d : PyData} (rs : RS c μ H S) (r : Va c μ H v x) (e : dataOf x S = some d) : Dp c.K H v d := by
  unfold dataOf at e
  split at e
  · rename_i n
    cases r with
    | loc h =>
      split at e
      · rename_i xs q
        obtain ⟨ds, e1, rfl⟩ := Option.map_eq_some_iff.mp e
        obtain ⟨vs, h1, h2⟩ := rs.get h q
        exact .lst (sq_of h1) (toDs_dp h2 e1)
      · cases e
  · exact toD_dp r e
/-- the scalar itself -/
def AV.sc : AV → Option V
  | .non => some .non
  | .bl b => some (.bl b)
  | .int i => some (.int i)
  | .str x => some (.str x)
  | _ => none
theorem sc_eq {v w : V} {x : AV} (r : Va c μ H v x) (e : x.sc = some w) : v = w := by
  cases r <;> simp [AV.sc] at e <;> exact e
def eqM (neg : Bool) (x y : AV) : M AV := fun S => match x.sc, y.sc with
  | some v, some w => if scal v w then some (.ok (.bl (if neg then !decide (v = w) else decide (v = w))), S) else none
  | _, _ => match dataOf x S, dataOf y S with
    | some d, some e => if SeqAt.shaped d && SeqAt.shaped e then some (.ok (.bl (if neg then !PyData.eqv d e else PyData.eqv d e)), S) else none
    | _, _ => none
def gEq : AV → AV → M AV := eqM false
def gNe : AV → AV → M AV := eqM true
theorem sim_eq : Sim2 c (fun x y H Q => rEq x y H Q ∨ rEqD c.K x y H Q) gEq := fun E μ H S v w x y rs rv rw' o ho Q hQ => by
  unfold gEq eqM at ho
  try simp only at ho
  split at ho
  · rename_i v' w' e1 e2
    split at ho
    · rename_i q
      obtain rfl := (Option.some.inj ho).symm
      obtain rfl := sc_eq rv e1
      obtain rfl := sc_eq rw' e2
      exact .inl ⟨q, hQ _ μ H (.refl _ _) rs (.bl _)⟩
    · cases ho
  · split at ho
    · rename_i d e e1 e2
      split at ho
      · rename_i q
        obtain rfl := (Option.some.inj ho).symm
        obtain ⟨q1, q2⟩ := Bool.and_eq_true_iff.mp q
        exact .inr ⟨d, e, dataOf_dp rs rv e1, dataOf_dp rs rw' e2, q1, q2, hQ _ μ H (.refl _ _) rs (.bl _)⟩
      · cases ho
    · cases ho
theorem sim_ne : Sim2 c (fun x y H Q => rNe x y H Q ∨ rNeD c.K x y H Q) gNe := fun E μ H S v w x y rs rv rw' o ho Q hQ => by
  unfold gNe eqM at ho
  try simp only at ho
  split at ho
  · rename_i v' w' e1 e2
    split at ho
    · rename_i q
      obtain rfl := (Option.some.inj ho).symm
      obtain rfl := sc_eq rv e1
      obtain rfl := sc_eq rw' e2
      exact .inl ⟨q, hQ _ μ H (.refl _ _) rs (.bl _)⟩
    · cases ho
  · split at ho
    · rename_i d e e1 e2
      split at ho
      · rename_i q
        obtain rfl := (Option.some.inj ho).symm
        obtain ⟨q1, q2⟩ := Bool.and_eq_true_iff.mp q
        exact .inr ⟨d, e, dataOf_dp rs rv e1, dataOf_dp rs rw' e2, q1, q2, hQ _ μ H (.refl _ _) rs (.bl _)⟩
      · cases ho
    · cases ho
def XE.eq : XE c → XE c → XE c := .op _ gEq sim_eq
def XE.ne : XE c → XE c → XE c := .op _ gNe sim_ne
/-! is None -/
def isN (neg : Bool) (x y : AV) : M AV := match x, y with
  | .k _, _ => M.no
  | .non, .non => pure (.bl (!neg))
  | _, .non => pure (.bl neg)
  | _, _ => M.no
theorem sim_isN : Sim2 c rIsN (isN false) := fun E μ H S v w x y rs rv rw' o ho Q hQ => by
  unfold isN at ho
  cases rw' with
  | non =>
    refine ⟨rfl, ?_⟩
    cases rv <;> first | (obtain rfl := pure_some ho; exact hQ _ μ H (.refl _ _) rs (.bl _)) | cases ho
  | _ => cases rv <;> cases ho
theorem sim_notN : Sim2 c rNotN (isN true) := fun E μ H S v w x y rs rv rw' o ho Q hQ => by
  unfold isN at ho
  cases rw' with
  | non =>
    refine ⟨rfl, ?_⟩
    cases rv <;> first | (obtain rfl := pure_some ho; exact hQ _ μ H (.refl _ _) rs (.bl _)) | cases ho
  | _ => cases rv <;> cases ho
def XE.isNone (a : XE c) : XE c := .op rIsN (isN false) sim_isN a .non
def XE.notNone (a : XE c) : XE c := .op rNotN (isN true) sim_notN a .non
/-! in -/
def toKey : AV → Option Key
  | .int i => some (.inl i)
  | .str x => some (.inr x)
  | _ => none
theorem toKey_eq {v : V} {x : AV} {k : Key} (r : Va c μ H v x) (e : toKey x = some k) : v = kV k := by
  cases r <;> simp [toKey] at e <;> subst e <;> rfl
def rDIn (neg : Bool) : R2 := fun y x H Q => ∃ a o, x = .ref a ∧ DGet H a y o ∧ Q (.bl (if neg then !o.isSome else o.isSome)) H
def scs : List AV → Option (List V)
  | [] => some []
  | x :: xs => match x.sc, scs xs with
    | some v, some vs => some (v :: vs)
    | _, _ => none
theorem scs_eq : ∀ {vs ws : List V} {xs : List AV}, VaAll c μ H vs xs → scs xs = some ws → vs = ws
  | _, _, _, .nil, e => by cases e; rfl
  | _, _, _, .cons h1 h2, e => by
    unfold scs at e
    split at e
    · rename_i v vs e1 e2
      cases e
      rw [sc_eq h1 e1, scs_eq h2 e2]
    · cases e
theorem sc_flat {x : AV} {v : V} (e : x.sc = some v) : flatV v = true := by
  cases x <;> simp [AV.sc] at e <;> subst e <;> rfl
theorem scs_flat : ∀ {xs : List AV} {vs : List V}, scs xs = some vs → vs.all flatV = true
  | [], _, e => by cases e; rfl
  | x :: xs, _, e => by
    unfold scs at e
    split at e
    · rename_i v vs e1 e2
      cases e
      rw [List.all_cons, sc_flat e1, scs_flat e2]; rfl
    · cases e
def sign1 (x : AV) : Option Nat := match x with
  | .str z => match z.cps.toList with
    | [n] => some n
    | _ => none
  | _ => none
theorem sign1_eq {v : V} {x : AV} {n : Nat} (r : Va c μ H v x) (e : sign1 x = some n) : v = .str ⟨#[n]⟩ := by
  unfold sign1 at e
  cases r with
  | str z =>
    simp only at e
    split at e
    · rename_i m q
      cases e
      obtain ⟨⟨l⟩⟩ := z
      simp at q
      subst q
      rfl
    · cases e
  | _ => cases e
/-- x in y: a tuple or a list of plain things; a text; a dict -/
def inM (neg : Bool) (x y : AV) : M AV := fun S => match y with
  | .str z => match sign1 x with
    | some n => some (.ok (.bl (if neg then !decide (n ∈ z.cps.toList) else decide (n ∈ z.cps.toList))), S)
    | none => none
  | .loc n => match S[n]? with
    | some (.dct kvs _) => match toKey x with
      | some k => some (.ok (.bl (if neg then !(getK kvs k).isSome else (getK kvs k).isSome)), S)
      | none => none
    | some (.lst ys) => match x.sc, scs ys with
      | some v, some vs => some (.ok (.bl (if neg then !inV v vs else inV v vs)), S)
      | _, _ => none
    | _ => none
  | .tup ys => match x.sc, scs ys with
    | some v, some vs => some (.ok (.bl (if neg then !inV v vs else inV v vs)), S)
    | _, _ => none
  | _ => none
def rInS' (neg : Bool) : R2 := fun x y H Q => ∃ (n : Nat) (z : Str), x = .str ⟨#[n]⟩ ∧ y = .str z ∧ Q (.bl (if neg then !decide (n ∈ z.cps.toList) else decide (n ∈ z.cps.toList))) H
def rIn3 (K : PySem.W.Frag) (neg : Bool) : R2 := fun x y H Q => rIn K neg x y H Q ∨ rInS' neg x y H Q ∨ rDIn neg x y H Q
theorem RO.dget {a : Addr} {kvs : List (Key × AV)} {fz : Bool} {k : Key} (h : RO c μ H a (.dct kvs fz)) : ∃ ks, Rd H a (.dK ks) ∧ VaP c μ H ks kvs := by
  cases fz with
  | false => obtain ⟨ks, h1, h2⟩ := h; exact ⟨ks, .inl h1, h2⟩
  | true => obtain ⟨o, ks, h1, h2⟩ := h; exact ⟨ks, .inr ⟨o, h1⟩, h2⟩
theorem sim_in (neg : Bool) : Sim2 c (rIn3 c.K neg) (inM neg) := fun E μ H S v w x y rs rv rw' o ho Q hQ => by
  unfold inM at ho
  cases rw' with
  | str z =>
    simp only at ho
    split at ho
    · rename_i n q
      obtain rfl := (Option.some.inj ho).symm
      exact .inr (.inl ⟨n, z, sign1_eq rv q, rfl, hQ _ μ H (.refl _ _) rs (.bl _)⟩)
    · cases ho
  | loc e =>
    simp only at ho
    split at ho
    · rename_i kvs fz q
      split at ho
      · rename_i k q2
        obtain rfl := (Option.some.inj ho).symm
        obtain ⟨ks, h1, h2⟩ := RO.dget (k := k) (rs.get e q)
        refine .inr (.inr ⟨_, valV ks k, rfl, .inl ⟨ks, k, h1, toKey_eq rv q2, rfl⟩, ?_⟩)
        have e3 : (valV ks k).isSome = (getK kvs k).isSome := by
          rcases h2.get k with ⟨g1, g2⟩ | ⟨_, _, g1, g2, _⟩ <;> rw [g1, g2] <;> rfl
        rw [e3]
        exact hQ _ μ H (.refl _ _) rs (.bl _)
      · cases ho
    · rename_i ys q
      split at ho
      · rename_i v' vs' q1 q2
        obtain rfl := (Option.some.inj ho).symm
        obtain ⟨vs, h1, h2⟩ := rs.get e q
        obtain rfl := sc_eq rv q1
        obtain rfl := scs_eq h2 q2
        exact .inl ⟨_, vs, rfl, .inl (sq_of h1), sc_flat q1, scs_flat q2, hQ _ μ H (.refl _ _) rs (.bl _)⟩
      · cases ho
    · cases ho
  | tup h1 h2 =>
    simp only at ho
    split at ho
    · rename_i v' vs' q1 q2
      obtain rfl := (Option.some.inj ho).symm
      obtain rfl := sc_eq rv q1
      obtain rfl := scs_eq h2 q2
      exact .inl ⟨_, _, rfl, .inr h1, sc_flat q1, scs_flat q2, hQ _ μ H (.refl _ _) rs (.bl _)⟩
    · cases ho
  | _ => cases ho
def XE.in (neg : Bool) : XE c → XE c → XE c := .op (rIn3 c.K neg) (inM neg) (sim_in neg)
/-! subscripts -/
def rSub (K : PySem.W.Frag) (w : World) : R2 := fun x y H Q => rIx K x y H Q ∨ (∃ a v, x = .ref a ∧ DGet H a y (some v) ∧ Q v H) ∨ rIxD K w x y H Q
def ixM (x y : AV) : M AV := fun S => match x, y with
  | .tup xs, .int i => (atI xs i).map fun r => (.ok r, S)
  | .fl xs, .int i => (atI xs i).map fun r => (.ok r, S)
  | .str z, .int i => if z.length ≤ 16777216 then (atI z.cps.toList i).map fun n => (.ok (.str ⟨#[n]⟩), S) else none
  | .loc n, y => match S[n]? with
    | some (.lst xs) => match y with
      | .int i => (atI xs i).map fun r => (.ok r, S)
      | _ => none
    | some (.dct kvs _) => match toKey y with
      | some k => (getK kvs k).map fun r => (.ok r, S)
      | none => none
    | _ => none
  | .wd es, .str z => (es.find? fun p => p.1 = z).map fun p => (.ok (.str p.2), S)
  | _, _ => none
theorem atI_va {vs : List V} {xs : List AV} (r : VaAll c μ H vs xs) {i : Int} {x : AV} (h : atI xs i = some x) : ∃ v, atI vs i = some v ∧ Va c μ H v x := by
  unfold atI at h ⊢
  rw [r.length]
  cases hb : ixN xs.length i with
  | none => rw [hb] at h; cases h
  | some j =>
    rw [hb] at h
    exact r.at h
theorem sim_sub : Sim2 c (rSub c.K c.w) ixM := fun E μ H S v w x y rs rv rw' o ho Q hQ => by
  unfold ixM at ho
  cases rv with
  | tup h1 h2 =>
    cases rw' with
    | int i =>
      obtain ⟨r, q, rfl⟩ := Option.map_eq_some_iff.mp ho
      obtain ⟨v, g1, g2⟩ := atI_va h2 q
      exact .inl (.inr (.inl ⟨_, _, i, v, rfl, rfl, h1, g1, hQ _ μ H (.refl _ _) rs g2⟩))
    | _ => cases ho
  | fl h1 h2 =>
    cases rw' with
    | int i =>
      obtain ⟨r, q, rfl⟩ := Option.map_eq_some_iff.mp ho
      obtain ⟨v, g1, g2⟩ := atI_va h2 q
      exact .inl (.inl ⟨_, _, i, v, rfl, rfl, h1.l, g1, hQ _ μ H (.refl _ _) rs g2⟩)
    | _ => cases ho
  | str z =>
    cases rw' with
    | int i =>
      simp only at ho
      split at ho
      · rename_i hz
        obtain ⟨r, q, rfl⟩ := Option.map_eq_some_iff.mp ho
        exact .inl (.inr (.inr ⟨z, i, r, rfl, rfl, hz, q, hQ _ μ H (.refl _ _) rs (.str _)⟩))
      · cases ho
    | _ => cases ho
  | loc e =>
    simp only at ho
    split at ho
    · rename_i xs q
      obtain ⟨vs, h1, h2⟩ := rs.get e q
      cases rw' with
      | int i =>
        obtain ⟨r, q, rfl⟩ := Option.map_eq_some_iff.mp ho
        obtain ⟨v, g1, g2⟩ := atI_va h2 q
        exact .inl (.inl ⟨_, _, i, v, rfl, rfl, sq_of h1, g1, hQ _ μ H (.refl _ _) rs g2⟩)
      | _ => cases ho
    · rename_i kvs fz q
      split at ho
      · rename_i k q2
        obtain ⟨r, q3, rfl⟩ := Option.map_eq_some_iff.mp ho
        obtain ⟨ks, h1, h2⟩ := RO.dget (k := k) (rs.get e q)
        rcases h2.get k with ⟨g1, g2⟩ | ⟨x', v', g1, g2, g3⟩
        · rw [q3] at g1; cases g1
        · rw [q3] at g1; cases g1
          exact .inr (.inl ⟨_, v', rfl, .inl ⟨ks, k, h1, toKey_eq rw' q2, g2.symm⟩, hQ _ μ H (.refl _ _) rs g3⟩)
      · cases ho
    · cases ho
  | wd h =>
    cases rw' with
    | str z =>
      obtain ⟨p, q, rfl⟩ := Option.map_eq_some_iff.mp ho
      have e1 := List.find?_some q
      simp at e1
      subst e1
      exact .inr (.inr ⟨_, p.1, .str p.2, rfl, rfl, h p (List.mem_of_find?_eq_some q), hQ _ μ H (.refl _ _) rs (.str _)⟩)
    | _ => cases ho
  | _ => cases ho
def XE.ix : XE c → XE c → XE c := .op (rSub c.K c.w) ixM sim_sub
/-! slices -/
def cutA (xs : List AV) (lo hi : Option Int) : List AV := (xs.drop (HT.sIx xs.length 0 lo)).take (HT.sIx xs.length xs.length hi - HT.sIx xs.length 0 lo)
theorem VaAll.cut {vs : List V} {xs : List AV} (r : VaAll c μ H vs xs) (lo hi : Option Int) : VaAll c μ H (cutV vs lo hi) (cutA xs lo hi) := by
  unfold cutV cutA
  rw [r.length]
  exact (r.drop _).take _
theorem cutA_all (xs : List AV) (lo hi : Option Int) (h : HT.sIx xs.length 0 lo = 0 ∧ HT.sIx xs.length xs.length hi = xs.length) : cutA xs lo hi = xs := by
  unfold cutA
  rw [h.1, h.2, List.drop_zero, Nat.sub_zero, List.take_length]
def slM (x : AV) (lo hi : Option Int) : M AV := fun S => match x with
  | .tup xs => some (.ok (.tup (cutA xs lo hi)), S)
  | .str z => if z.length ≤ 16777216 then some (.ok (.str (cutS z lo hi)), S) else none
  | .fl xs => some (.ok (.loc S.length), S ++ [.lst (cutA xs lo hi)])
  | .loc n => match S[n]? with
    | some (.lst xs) => some (.ok (.loc S.length), S ++ [.lst (cutA xs lo hi)])
    | _ => none
  | _ => none
def rSl (K : PySem.W.Frag) : V → Option Int → Option Int → Hp → VK → Prop := fun x lo hi H Q => rSlA K x lo hi H Q ∨ rSlL K x lo hi H Q ∨ rSlS x lo hi H Q
theorem sim_sl (E : XK) (v : V) (x : AV) (lo hi : Option Int) (rs : RS c μ H S) (rv : Va c μ H v x) : Runs c (Va c) E μ H S (rSl c.K v lo hi H) (slM x lo hi) := fun o ho Q hQ => by
  unfold slM at ho
  cases rv with
  | tup h1 h2 =>
    rename_i a vs xs
    obtain rfl := (Option.some.inj ho).symm
    refine .inl ⟨a, vs, rfl, h1, fun e => ?_, fun e p hp => ?_⟩
    · rw [h2.length] at e
      rw [cutA_all xs lo hi e] at hQ
      exact hQ _ μ H (.refl _ _) rs (.tup h1 h2)
    · exact hQ _ μ _ (.put hp) (rs.put hp) (.tup (st_of upd_same) ((h2.cut lo hi).mono (.refl _) (.new hp)))
  | fl h1 h2 =>
    exact .inr (.inl ⟨_, _, rfl, h1.l, Runs.newLst rs (h2.cut lo hi) _ ho Q hQ⟩)
  | loc e =>
    simp only at ho
    split at ho
    · rename_i xs q
      obtain ⟨vs, h1, h2⟩ := rs.get e q
      exact .inr (.inl ⟨_, _, rfl, sq_of h1, Runs.newLst rs (h2.cut lo hi) _ ho Q hQ⟩)
    · cases ho
  | str z =>
    simp only at ho
    split at ho
    · rename_i hz
      obtain rfl := (Option.some.inj ho).symm
      exact .inr (.inr ⟨z, rfl, hz, hQ _ μ H (.refl _ _) rs (.str _)⟩)
    · cases ho
  | _ => cases ho
def mNoP : Env → M (Option Int) := fun _ => pure none
def XO.no : XO c where
  t := fun _ => tNoPart
  f := mNoP
  sim := fun E μ H σ ρ S rs re => Runs.pure rs rfl
def toI (x : AV) : M (Option Int) := match x with
  | .int i => pure (some i)
  | _ => M.no
def mPart (a : Env → M AV) : Env → M (Option Int) := fun ρ => a ρ >>= toI
def XO.of (a : XE c) : XO c where
  t := fun E => tPart (a.t E)
  f := mPart a.f
  sim := fun E μ H σ ρ S rs re => (a.sim E μ H σ ρ S rs re).bind fun μ1 H1 S1 v x f1 rs1 rv o ho Q hQ => by
    cases rv with
    | int i =>
      obtain rfl := pure_some ho
      exact ⟨i, rfl, hQ _ μ1 H1 (.refl _ _) rs1 rfl⟩
    | _ => cases ho
def mSl (a : Env → M AV) (lo hi : Env → M (Option Int)) : Env → M AV := fun ρ => do let x ← a ρ; let l ← lo ρ; let h ← hi ρ; slM x l h
def XE.sl (a : XE c) (lo hi : XO c) : XE c where
  t := fun E => tSl (rSl c.K) (a.t E) (lo.t E) (hi.t E)
  f := mSl a.f lo.f hi.f
  sim := fun E μ H σ ρ S rs re => (a.sim E μ H σ ρ S rs re).bind fun μ1 H1 S1 v x f1 rs1 rv => (lo.sim E μ1 H1 σ ρ S1 rs1 (re.fw rs f1)).bind fun μ2 H2 S2 l l' f2 rs2 rl => (hi.sim E μ2 H2 σ ρ S2 rs2 ((re.fw rs f1).fw rs1 f2)).bind fun μ3 H3 S3 h h' f3 rs3 rh => by
    cases rl
    cases rh
    exact sim_sl E v x l h rs3 ((rv.fw rs1 f2).fw rs2 f3)
/-! fields -/
def fldM (C : Nat) (f : Str) (x : AV) : M AV := fun S => match x with
  | .loc n => match S[n]? with
    | some (.ins D fs) => if D = C then (fs.lookup f).map fun r => (.ok r, S) else none
    | _ => none
  | _ => none
def mFld (C : Nat) (f : Str) (a : Env → M AV) : Env → M AV := fun ρ => a ρ >>= fldM C f
def XE.fld (C : Nat) (f : Str) (hc : Cls c.K (c.cl C)) (hn : NoAttr c.K (c.cl C) f) (a : XE c) : XE c where
  t := fun E => tFld c.K (a.t E) f
  f := mFld C f a.f
  sim := fun E μ H σ ρ S rs re => (a.sim E μ H σ ρ S rs re).bind fun μ1 H1 S1 v x f1 rs1 rv o ho Q hQ => by
    unfold fldM at ho
    cases rv with
    | loc q =>
      simp only at ho
      split at ho
      · rename_i D fs z
        split at ho
        · rename_i hD
          subst hD
          obtain ⟨r, h1, rfl⟩ := Option.map_eq_some_iff.mp ho
          obtain ⟨dx, vs, h2, h3⟩ := rs1.get q z
          obtain ⟨v, h4, h5⟩ := h3.lookup h1
          exact ⟨_, _, dx, vs, v, rfl, h2, hc, hn, h4, hQ _ μ1 H1 (.refl _ _) rs1 h5⟩
        · cases ho
      · cases ho
    | _ => cases ho
/-! calls of builtins by values -/
def SimC (c : Ct) (r : List V → Hp → VK → Prop) (g : List AV → M AV) : Prop := ∀ E μ H S vs xs, RS c μ H S → VaAll c μ H vs xs → Runs c (Va c) E μ H S (r vs H) (g xs)
def mCb (g : List AV → M AV) (a : Env → M (List AV)) : Env → M AV := fun ρ => a ρ >>= g
def XE.cb (r : List V → Hp → VK → Prop) (g : List AV → M AV) (h : SimC c r g) (a : XA c) : XE c where
  t := fun E => tCB r (a.t E)
  f := mCb g a.f
  sim := fun E μ H σ ρ S rs re => (a.sim E μ H σ ρ S rs re).bind fun μ1 H1 S1 vs xs f1 rs1 rv => h E μ1 H1 S1 vs xs rs1 rv
def rLen3 (K : PySem.W.Frag) : List V → Hp → VK → Prop := fun xs H Q => (∃ p ys, xs = [.ref p] ∧ (SqL K H p ys ∨ SqT K H p ys) ∧ Q (.int ys.length) H) ∨ (∃ z, xs = [.str z] ∧ z.length ≤ sizeLine ∧ Q (.int z.length) H) ∨ (∃ a kvs, xs = [V.ref a] ∧ H a = some (.dK kvs) ∧ Q (.int kvs.length) H)
def lenM (xs : List AV) : M AV := match xs with
  | [x] => fun S => match x with
    | .str z => if z.length ≤ 16777216 then some (.ok (.int z.length), S) else none
    | .tup xs => some (.ok (.int xs.length), S)
    | .fl xs => some (.ok (.int xs.length), S)
    | .loc n => match S[n]? with
      | some (.lst xs) => some (.ok (.int xs.length), S)
      | some (.dct kvs false) => some (.ok (.int kvs.length), S)
      | _ => none
    | _ => none
  | _ => M.no
theorem sim_len : SimC c (rLen3 c.K) lenM := fun E μ H S vs xs rs rv o ho Q hQ => by
  cases rv with
  | nil => cases ho
  | cons r1 r2 =>
    cases r2 with
    | cons _ _ => cases ho
    | nil =>
      unfold lenM at ho
      simp only at ho
      cases r1 with
      | str z =>
        simp only at ho
        split at ho
        · rename_i hz
          obtain rfl := (Option.some.inj ho).symm
          exact .inr (.inl ⟨z, rfl, hz, hQ _ μ H (.refl _ _) rs (.int _)⟩)
        · cases ho
      | tup h1 h2 =>
        obtain rfl := (Option.some.inj ho).symm
        refine .inl ⟨_, _, rfl, .inr h1, ?_⟩
        rw [h2.length]
        exact hQ _ μ H (.refl _ _) rs (.int _)
      | fl h1 h2 =>
        obtain rfl := (Option.some.inj ho).symm
        refine .inl ⟨_, _, rfl, .inl h1.l, ?_⟩
        rw [h2.length]
        exact hQ _ μ H (.refl _ _) rs (.int _)
      | loc e =>
        simp only at ho
        split at ho
        · rename_i ys q
          obtain rfl := (Option.some.inj ho).symm
          obtain ⟨ws, h1, h2⟩ := rs.get e q
          refine .inl ⟨_, _, rfl, .inl (sq_of h1), ?_⟩
          rw [h2.length]
          exact hQ _ μ H (.refl _ _) rs (.int _)
        · rename_i kvs q
          obtain rfl := (Option.some.inj ho).symm
          obtain ⟨ws, h1, h2⟩ := rs.get e q
          refine .inr (.inr ⟨_, _, rfl, h1, ?_⟩)
          rw [h2.length]
          exact hQ _ μ H (.refl _ _) rs (.int _)
        · cases ho
      | _ => cases ho
def XE.len : XA c → XE c := .cb (rLen3 c.K) lenM sim_len
/-! list(x), tuple(x) -/
def rList1 (K : PySem.W.Frag) : List V → Hp → VK → Prop := fun xs H Q => ∃ p ys, xs = [.ref p] ∧ (SqL K H p ys ∨ SqT K H p ys) ∧ ∀ l, H l = none → Q (.ref l) (upd H l (.lst ys))
def listM (xs : List AV) : M AV := match xs with
  | [x] => getS x >>= fun ys => M.new (.lst ys)
  | _ => M.no
theorem sim_list : SimC c (rList1 c.K) listM := fun E μ H S vs xs rs rv o ho Q hQ => by
  cases rv with
  | nil => cases ho
  | cons r1 r2 =>
    cases r2 with
    | cons _ _ => cases ho
    | nil =>
      unfold listM at ho
      rcases bind_some ho with ⟨ys, S1, h1, h2⟩ | ⟨x, S1, h1, h2⟩
      · obtain ⟨a, ws, zs, rfl, hs, hv, e⟩ := getS_ok rs r1 h1
        cases e
        exact ⟨a, ws, rfl, hs, Runs.newLst rs hv _ h2 Q hQ⟩
      · obtain ⟨a, ws, zs, _, _, _, e⟩ := getS_ok rs r1 h1
        cases e
def XE.list1 : XA c → XE c := .cb (rList1 c.K) listM sim_list
def rTup1 (K : PySem.W.Frag) : List V → Hp → VK → Prop := fun xs H Q => ∃ p ys, xs = [.ref p] ∧ ((SqL K H p ys ∧ ∀ l, H l = none → Q (.ref l) (upd H l (.tup ys))) ∨ (SqT K H p ys ∧ Q (.ref p) H))
def tupM (xs : List AV) : M AV := match xs with
  | [x] => getS x >>= fun ys => pure (.tup ys)
  | _ => M.no
theorem getS_tup {v : V} {x : AV} {ys : List AV} {S1 : Store} (rs : RS c μ H S) (rv : Va c μ H v x) (h : getS x S = some (.ok ys, S1)) :
    S1 = S ∧ ∃ a ws, v = .ref a ∧ VaAll c μ H ws ys ∧ (SqL c.K H a ws ∨ SqT c.K H a ws) := by
  obtain ⟨a, ws, zs, e, hs, hv, e2⟩ := getS_ok rs rv h
  cases e2
  exact ⟨rfl, a, ws, e, hv, hs⟩
theorem sim_tup1 : SimC c (rTup1 c.K) tupM := fun E μ H S vs xs rs rv o ho Q hQ => by
  cases rv with
  | nil => cases ho
  | cons r1 r2 =>
    cases r2 with
    | cons _ _ => cases ho
    | nil =>
      unfold tupM at ho
      rcases bind_some ho with ⟨ys, S1, h1, h2⟩ | ⟨x, S1, h1, h2⟩
      · obtain ⟨rfl, a, ws, rfl, hv, hs⟩ := getS_tup rs r1 h1
        refine ⟨a, ws, rfl, ?_⟩
        rcases hs with hs | hs
        · exact .inl ⟨hs, Runs.newTup rs hv _ h2 Q hQ⟩
        · obtain rfl := pure_some h2
          exact .inr ⟨hs, hQ _ μ H (.refl _ _) rs (.tup hs hv)⟩
      · obtain ⟨a, ws, zs, _, _, _, e⟩ := getS_ok rs r1 h1
        cases e
def XE.tup1 : XA c → XE c := .cb (rTup1 c.K) tupM sim_tup1
/-! int(x) -/
def rInt1 : List V → Hp → VK → Prop := fun xs H Q => (∃ i, xs = [.int i] ∧ Q (.int i) H) ∨ ∃ k, xs = [.bl k] ∧ Q (.int (if k then 1 else 0)) H
def intM (xs : List AV) : M AV := match xs with
  | [.int i] => pure (.int i)
  | [.bl k] => pure (.int (if k then 1 else 0))
  | _ => M.no
theorem sim_int : SimC c rInt1 intM := fun E μ H S vs xs rs rv o ho Q hQ => by
  cases rv with
  | nil => cases ho
  | cons r1 r2 =>
    cases r2 with
    | cons _ _ => unfold intM at ho; cases r1 <;> cases ho
    | nil =>
      unfold intM at ho
      cases r1 with
      | int i => obtain rfl := pure_some ho; exact .inl ⟨i, rfl, hQ _ μ H (.refl _ _) rs (.int _)⟩
      | bl i => obtain rfl := pure_some ho; exact .inr ⟨i, rfl, hQ _ μ H (.refl _ _) rs (.int _)⟩
      | _ => cases ho
def XE.int1 : XA c → XE c := .cb rInt1 intM sim_int
/-! all, any, sum -/
def blsOf : List AV → Option (List Bool)
  | [] => some []
  | .bl b :: xs => (blsOf xs).map (b :: ·)
  | _ :: _ => none
theorem blsOf_eq : ∀ {vs : List V} {xs : List AV} {bs : List Bool}, VaAll c μ H vs xs → blsOf xs = some bs → vs = bs.map V.bl
  | _, _, _, .nil, e => by cases e; rfl
  | _, _, _, .cons h1 h2, e => by
    cases h1 with
    | bl b =>
      unfold blsOf at e
      obtain ⟨ds, e1, rfl⟩ := Option.map_eq_some_iff.mp e
      rw [blsOf_eq h2 e1]; rfl
    | _ => cases e
def intsOf : List AV → Option (List Int)
  | [] => some []
  | .int b :: xs => (intsOf xs).map (b :: ·)
  | _ :: _ => none
theorem intsOf_eq : ∀ {vs : List V} {xs : List AV} {bs : List Int}, VaAll c μ H vs xs → intsOf xs = some bs → vs = bs.map V.int
  | _, _, _, .nil, e => by cases e; rfl
  | _, _, _, .cons h1 h2, e => by
    cases h1 with
    | int b =>
      unfold intsOf at e
      obtain ⟨ds, e1, rfl⟩ := Option.map_eq_some_iff.mp e
      rw [intsOf_eq h2 e1]; rfl
    | _ => cases e
def foldM1 (f : List AV → Option AV) (xs : List AV) : M AV := match xs with
  | [x] => getL x >>= fun ys => M.ofO (f ys)
  | _ => M.no
theorem sim_all : SimC c (rAll c.K) (foldM1 fun ys => (blsOf ys).map fun bs => .bl (bs.all id)) := fun E μ H S vs xs rs rv o ho Q hQ => by
  cases rv with
  | nil => cases ho
  | cons r1 r2 =>
    cases r2 with
    | cons _ _ => cases ho
    | nil =>
      unfold foldM1 at ho
      rcases bind_some ho with ⟨ys, S1, h1, h2⟩ | ⟨x, S1, h1, h2⟩
      · obtain ⟨a, ws, zs, rfl, hs, hv, e⟩ := getL_ok rs r1 h1
        cases e
        obtain ⟨r, e1, rfl⟩ := ofO_some h2
        obtain ⟨bs, e2, rfl⟩ := Option.map_eq_some_iff.mp e1
        refine ⟨a, bs, rfl, ?_, hQ _ μ H (.refl _ _) rs (.bl _)⟩
        rw [← blsOf_eq hv e2]
        exact hs
      · obtain ⟨a, ws, zs, _, _, _, e⟩ := getL_ok rs r1 h1
        cases e
theorem sim_any : SimC c (rAny c.K) (foldM1 fun ys => (blsOf ys).map fun bs => .bl (bs.any id)) := fun E μ H S vs xs rs rv o ho Q hQ => by
  cases rv with
  | nil => cases ho
  | cons r1 r2 =>
    cases r2 with
    | cons _ _ => cases ho
    | nil =>
      unfold foldM1 at ho
      rcases bind_some ho with ⟨ys, S1, h1, h2⟩ | ⟨x, S1, h1, h2⟩
      · obtain ⟨a, ws, zs, rfl, hs, hv, e⟩ := getL_ok rs r1 h1
        cases e
        obtain ⟨r, e1, rfl⟩ := ofO_some h2
        obtain ⟨bs, e2, rfl⟩ := Option.map_eq_some_iff.mp e1
        refine ⟨a, bs, rfl, ?_, hQ _ μ H (.refl _ _) rs (.bl _)⟩
        rw [← blsOf_eq hv e2]
        exact hs
      · obtain ⟨a, ws, zs, _, _, _, e⟩ := getL_ok rs r1 h1
        cases e
theorem sim_sum : SimC c (rSum c.K) (foldM1 fun ys => (intsOf ys).map fun bs => .int bs.sum) := fun E μ H S vs xs rs rv o ho Q hQ => by
  cases rv with
  | nil => cases ho
  | cons r1 r2 =>
    cases r2 with
    | cons _ _ => cases ho
    | nil =>
      unfold foldM1 at ho
      rcases bind_some ho with ⟨ys, S1, h1, h2⟩ | ⟨x, S1, h1, h2⟩
      · obtain ⟨a, ws, zs, rfl, hs, hv, e⟩ := getL_ok rs r1 h1
        cases e
        obtain ⟨r, e1, rfl⟩ := ofO_some h2
        obtain ⟨bs, e2, rfl⟩ := Option.map_eq_some_iff.mp e1
        refine ⟨a, bs, rfl, ?_, hQ _ μ H (.refl _ _) rs (.int _)⟩
        rw [← intsOf_eq hv e2]
        exact hs
      · obtain ⟨a, ws, zs, _, _, _, e⟩ := getL_ok rs r1 h1
        cases e
def XE.all : XA c → XE c := .cb (rAll c.K) _ sim_all
def XE.any : XA c → XE c := .cb (rAny c.K) _ sim_any
def XE.sum : XA c → XE c := .cb (rSum c.K) _ sim_sum
/-! isinstance -/
def tyA (x : AV) (S : Store) : Option String := match x with
  | .non => some "NoneType"
  | .bl _ => some "bool"
  | .int _ => some "int"
  | .str _ => some "str"
  | .tup _ => some "tuple"
  | .fl _ => some "list"
  | .loc n => match S[n]? with
    | some (.lst _) => some "list"
    | some (.dct _ _) => some "dict"
    | _ => none
  | _ => none
theorem tyA_mem {x : AV} {t : String} (h : tyA x S = some t) : t ∈ CK.tysL := by
  unfold tyA at h
  split at h <;> first | (cases h; decide) | (split at h <;> first | (cases h; decide) | cases h) | cases h
theorem tyA_ok {v : V} {x : AV} {t : String} (rs : RS c μ H S) (r : Va c μ H v x) (h : tyA x S = some t) : TyX c.K H v (.type t) := by
  unfold tyA at h
  cases r with
  | non => cases h; exact .base .non
  | bl b => cases h; exact .base (.bl b)
  | int i => cases h; exact .base (.int i)
  | str z => cases h; exact .base (.str z)
  | tup h1 h2 => cases h; exact CK.sqT_ty h1
  | fl h1 h2 => cases h; exact CK.sqL_ty h1.l
  | loc e =>
    simp only at h
    split at h
    · rename_i q
      cases h
      obtain ⟨vs, h1, _⟩ := rs.get e q
      exact .base (.lst h1)
    · rename_i kvs fz q
      cases h
      have := rs.get e q
      cases fz with
      | false => obtain ⟨vs, h1, _⟩ := this; exact .base (.dK h1)
      | true => obtain ⟨_, vs, h1, _⟩ := this; exact .fDict h1
    · cases h
  | _ => cases h
def isiM (T : String) (x : AV) : M AV := fun S => (tyA x S).map fun t => (.ok (.bl (CK.tyIs t T)), S)
def mIsi (T : String) (a : Env → M AV) : Env → M AV := fun ρ => a ρ >>= isiM T
/-- isinstance(x, T) -/
def XE.isi (T : String) (hT : T ∈ CK.tysL.tail) (a : XE c) : XE c where
  t := fun E => tCB (rIsi c.K) (tCons (a.t E) (tCons (tC (.ty T)) tNil))
  f := mIsi T a.f
  sim := fun E μ H σ ρ S rs re => (a.sim E μ H σ ρ S rs re).bind fun μ1 H1 S1 v x f1 rs1 rv o ho Q hQ => by
    obtain ⟨t, h1, rfl⟩ := Option.map_eq_some_iff.mp ho
    exact ⟨v, .ty T, _, _, _, rfl, .ty T, tyA_ok rs1 rv h1, kit_ty (CK.kit_all _ (tyA_mem h1) _ hT), hQ _ μ1 H1 (.refl _ _) rs1 (.bl _)⟩
theorem kitAny2 {K : PySem.W.Frag} {t T U : String} (ht : t ∈ CK.tysL) (hT : T ∈ CK.tysL.tail) (hU : U ∈ CK.tysL.tail) : PySem.W.kitAny K (.type t) [.type T, .type U] = some (CK.tyIs t T || CK.tyIs t U) := by
  have h1 := kit_ty (K := K) (CK.kit_all _ ht _ hT)
  have h2 := kit_ty (K := K) (CK.kit_all _ ht _ hU)
  unfold PySem.W.kitAny
  rw [h1]
  cases CK.tyIs t T with
  | true => rfl
  | false =>
    simp only [Bool.false_or]
    unfold PySem.W.kitAny
    rw [h2]
    cases CK.tyIs t U <;> rfl
def mIsi2 (T U : String) (a : Env → M AV) : Env → M AV := fun ρ => a ρ >>= fun x S => (tyA x S).map fun t => (.ok (.bl (CK.tyIs t T || CK.tyIs t U)), S)
/-- isinstance(x, (T, U)) -/
def XE.isi2 (T U : String) (hT : T ∈ CK.tysL.tail) (hU : U ∈ CK.tysL.tail) (a : XE c) : XE c where
  t := fun E => tCB (rIsiT c.K) (tCons (a.t E) (tCons (tTup (tCons (tC (.ty T)) (tCons (tC (.ty U)) tNil))) tNil))
  f := mIsi2 T U a.f
  sim := fun E μ H σ ρ S rs re => (a.sim E μ H σ ρ S rs re).bind fun μ1 H1 S1 v x f1 rs1 rv o ho Q hQ => by
    obtain ⟨t, h1, rfl⟩ := Option.map_eq_some_iff.mp ho
    exact ⟨by show 2 ≤ sizeLine; decide, fun q hq => ⟨v, q, [.ty T, .ty U], _, _, _, rfl, upd_same, .cons (.ty T) (.cons (.ty U) .nil), tyA_ok (rs1.put hq) (rv.mono (.refl _) (.new hq)) h1, kitAny2 (tyA_mem h1) hT hU, hQ _ μ1 _ (.put hq) (rs1.put hq) (.bl _)⟩⟩
/-! dict(zip(a, b, strict=True)) -/
theorem VaP.merge {kvs : List (Key × V)} {xs : List (Key × AV)} (r : VaP c μ H kvs xs) : ∀ {more : List (Key × V)} {ys : List (Key × AV)}, VaP c μ H more ys → VaP c μ H (mergeK kvs more) (ys.foldl (fun acc kv => setK acc kv.1 kv.2) xs)
  | _, _, .nil => r
  | _, _, .cons h t => VaP.merge (r.put _ h) t
def keysOf : List AV → Option (List Key)
  | [] => some []
  | x :: xs => match toKey x, keysOf xs with
    | some k, some ks => some (k :: ks)
    | _, _ => none
theorem keysOf_eq : ∀ {vs : List V} {xs : List AV} {ks : List Key}, VaAll c μ H vs xs → keysOf xs = some ks → vs = ks.map kV
  | _, _, _, .nil, e => by cases e; rfl
  | _, _, _, .cons h1 h2, e => by
    unfold keysOf at e
    split at e
    · rename_i k ks e1 e2
      cases e
      rw [toKey_eq h1 e1, keysOf_eq h2 e2]; rfl
    · cases e
theorem VaP.zip {vs : List V} {xs : List AV} (r : VaAll c μ H vs xs) : ∀ (ks : List Key), VaP c μ H (ks.zip vs) (ks.zip xs) := by
  intro ks
  induction ks generalizing vs xs with
  | nil => exact .nil
  | cons k ks ih => cases r with
    | nil => exact .nil
    | cons h t => exact .cons h (ih t)
def dzM (xs : List AV) : M AV := match xs with
  | [.tup ks, .tup zs] => match keysOf ks with
    | some kl => if kl.length = zs.length then M.new (.dct ((kl.zip zs).foldl (fun acc kv => setK acc kv.1 kv.2) []) false) else M.no
    | none => M.no
  | _ => M.no
def XE.dzip (a : XA c) : XE c where
  t := fun E => tDictZip c.K (a.t E)
  f := mCb dzM a.f
  sim := fun E μ H σ ρ S rs re => (a.sim E μ H σ ρ S rs re).bind fun μ1 H1 S1 vs xs f1 rs1 rv o ho Q hQ => by
    cases rv with
    | nil => cases ho
    | cons r1 r2 =>
      cases r2 with
      | nil => unfold dzM at ho; cases r1 <;> cases ho
      | cons r2 r3 =>
        cases r3 with
        | cons _ _ => unfold dzM at ho; cases r1 <;> first | (cases r2 <;> cases ho) | cases ho
        | nil =>
          cases r1 with
          | tup h1 h2 =>
            cases r2 with
            | tup h3 h4 =>
              unfold dzM at ho
              simp only at ho
              generalize q : keysOf _ = ok at ho
              cases ok with
              | none => cases ho
              | some kl =>
                simp only at ho
                split at ho
                · rename_i hl
                  have e1 := keysOf_eq h2 q
                  subst e1
                  refine ⟨_, _, kl, _, rfl, h1, h3, by rw [h4.length]; exact hl, Runs.new rs1 (o := .dct ((kl.zip _).foldl (fun acc kv => setK acc kv.1 kv.2) []) false) (fun p hp => ?_) _ ho Q hQ⟩
                  exact ⟨_, upd_same, VaP.mono ⟨[p], rfl⟩ (.new hp) (VaP.merge .nil (VaP.zip h4 kl))⟩
                · cases ho
            | _ => unfold dzM at ho; cases ho
          | _ => unfold dzM at ho; cases r2 <;> cases ho
/-! methods of lists and dicts -/
def SimM (c : Ct) (T : String) (r : V → List V → Hp → VK → Prop) (g : AV → List AV → M AV) (ok : AV → M Unit) : Prop :=
  (∀ μ H S v x o, RS c μ H S → Va c μ H v x → ok x S = some o → tyV c.K T v H ∧ o = (.ok (), S)) ∧ ∀ E μ H S v vs x xs, RS c μ H S → Va c μ H v x → VaAll c μ H vs xs → Runs c (Va c) E μ H S (r v vs H) (g x xs)
def mBm (g : AV → List AV → M AV) (ok : AV → M Unit) (a : Env → M AV) (b : Env → M (List AV)) : Env → M AV := fun ρ => do let x ← a ρ; ok x; let xs ← b ρ; g x xs
def XE.bm (T : String) (r : V → List V → Hp → VK → Prop) (g : AV → List AV → M AV) (ok : AV → M Unit) (h : SimM c T r g ok) (a : XE c) (b : XA c) : XE c where
  t := fun E => tBM c.K T r (a.t E) (b.t E)
  f := mBm g ok a.f b.f
  sim := fun E μ H σ ρ S rs re => (a.sim E μ H σ ρ S rs re).bind fun μ1 H1 S1 v x f1 rs1 rv o ho Q hQ => by
    rcases bind_some ho with ⟨u, S2, h1, h2⟩ | ⟨x', S2, h1, h2⟩
    · obtain ⟨ty, e1⟩ := h.1 μ1 H1 S1 v x _ rs1 rv h1
      cases e1
      refine ⟨ty, ?_⟩
      exact ((b.sim E μ1 H1 σ ρ S1 rs1 (re.fw rs f1)).bind fun μ2 H2 S2 vs xs f2 rs2 rvs => h.2 E μ2 H2 S2 v vs x xs rs2 (rv.fw rs1 f2) rvs) o h2 Q hQ
    · obtain ⟨ty, e1⟩ := h.1 μ1 H1 S1 v x _ rs1 rv h1
      cases e1
def mBm0 (g : AV → List AV → M AV) (ok : AV → M Unit) (a : Env → M AV) : Env → M AV := fun ρ => do let x ← a ρ; ok x; g x []
def XE.bm0 (T : String) (r : V → List V → Hp → VK → Prop) (g : AV → List AV → M AV) (ok : AV → M Unit) (h : SimM c T r g ok) (a : XE c) : XE c where
  t := fun E => tBM0 c.K T r (a.t E)
  f := mBm0 g ok a.f
  sim := fun E μ H σ ρ S rs re => (a.sim E μ H σ ρ S rs re).bind fun μ1 H1 S1 v x f1 rs1 rv o ho Q hQ => by
    rcases bind_some ho with ⟨u, S2, h1, h2⟩ | ⟨x', S2, h1, h2⟩
    · obtain ⟨ty, e1⟩ := h.1 μ1 H1 S1 v x _ rs1 rv h1
      cases e1
      exact ⟨ty, h.2 E μ1 H1 S1 v [] x [] rs1 rv .nil o h2 Q hQ⟩
    · obtain ⟨ty, e1⟩ := h.1 μ1 H1 S1 v x _ rs1 rv h1
      cases e1
def okL (x : AV) : M Unit := fun S => match x with
  | .loc n => match S[n]? with
    | some (.lst _) => some (.ok (), S)
    | _ => none
  | _ => none
def okD (x : AV) : M Unit := fun S => match x with
  | .loc n => match S[n]? with
    | some (.dct _ false) => some (.ok (), S)
    | _ => none
  | _ => none
theorem okL_ty {v : V} {x : AV} {o : Except XV Unit × Store} (rs : RS c μ H S) (rv : Va c μ H v x) (h : okL x S = some o) : tyV c.K "list" v H ∧ o = (.ok (), S) := by
  unfold okL at h
  cases rv with
  | loc e =>
    simp only at h
    split at h
    · rename_i q
      obtain ⟨vs, h1, _⟩ := rs.get e q
      exact ⟨.inl ⟨rfl, vs, sq_of h1⟩, (Option.some.inj h).symm⟩
    · cases h
  | _ => cases h
theorem okD_ty {v : V} {x : AV} {o : Except XV Unit × Store} (rs : RS c μ H S) (rv : Va c μ H v x) (h : okD x S = some o) : tyV c.K "dict" v H ∧ o = (.ok (), S) := by
  unfold okD at h
  cases rv with
  | loc e =>
    simp only at h
    split at h
    · rename_i q
      obtain ⟨vs, h1, _⟩ := rs.get e q
      exact ⟨.inr (.inr (.inl ⟨rfl, .inl ⟨vs, h1⟩⟩)), (Option.some.inj h).symm⟩
    · cases h
  | _ => cases h
/-- an object of the store becomes another -/
theorem Runs.upd {E : XK} {v : V} {x : AV} {n : Nat} {a : Addr} {u u1 : HO} {o : AO} {Q : VK} (rs : RS c μ H S) (e : μ[n]? = some a) (h1 : H a = some u1) (z1 : NoFz u1) (ho : RO c μ (upd H a u) a o) (rx : Va c μ H v x) (hQ : Ends1 c (Va c) μ H E Q (.ok x, S.set n o)) : Q v (upd H a u) := by
  obtain ⟨u0, e0, n0⟩ := rs.mem (List.mem_of_getElem? e)
  exact hQ _ μ _ (.upd e h1 z1) (rs.set e ho) (rx.mono (.refl _) (.upd e0 n0))
theorem RS.ps (rs : RS c μ H S) {n : Nat} {a : Addr} (u : HO) (e : μ[n]? = some a) : Ps H (L2.upd H a u) := by
  obtain ⟨u0, e0, n0⟩ := rs.mem (List.mem_of_getElem? e)
  exact .upd e0 n0
def appM (x : AV) (xs : List AV) : M AV := fun S => match x, xs with
  | .loc n, [y] => match S[n]? with
    | some (.lst ys) => if ys.length < 100000 then some (.ok .non, S.set n (.lst (ys ++ [y]))) else none
    | _ => none
  | _, _ => none
theorem sim_app : SimM c "list" rAppend appM okL := ⟨fun μ H S v x o rs rv h => okL_ty rs rv h, fun E μ H S v vs x xs rs rv rvs o ho Q hQ => by
  unfold appM at ho
  cases rv with
  | loc e =>
    cases rvs with
    | nil => cases ho
    | cons r1 r2 =>
      cases r2 with
      | cons _ _ => cases ho
      | nil =>
        simp only at ho
        split at ho
        · rename_i ys q
          split at ho
          · rename_i hl
            obtain rfl := (Option.some.inj ho).symm
            obtain ⟨ws, h1, h2⟩ := rs.get e q
            refine ⟨_, ws, _, rfl, rfl, h1, sz_lt (by rw [h2.length]; exact hl), Runs.upd rs e h1 trivial ?_ .non hQ⟩
            exact ⟨_, upd_same, (h2.append (.one r1)).mono (.refl _) (rs.ps _ e)⟩
          · cases ho
        · cases ho
  | _ => cases ho⟩
def XE.append : XE c → XA c → XE c := .bm "list" rAppend appM okL sim_app
def extM (x : AV) (xs : List AV) : M AV := fun S => match x, xs with
  | .loc n, [.loc m] => match S[n]?, S[m]? with
    | some (.lst ys), some (.lst zs) => if ys.length + zs.length ≤ 100000 then some (.ok .non, S.set n (.lst (ys ++ zs))) else none
    | _, _ => none
  | .loc n, [.tup zs] => match S[n]? with
    | some (.lst ys) => if ys.length + zs.length ≤ 100000 then some (.ok .non, S.set n (.lst (ys ++ zs))) else none
    | _ => none
  | _, _ => none
theorem sim_ext : SimM c "list" (rExt2 c.K) extM okL := ⟨fun μ H S v x o rs rv h => okL_ty rs rv h, fun E μ H S v vs x xs rs rv rvs o ho Q hQ => by
  unfold extM at ho
  cases rv with
  | loc e =>
    cases rvs with
    | nil => cases ho
    | cons r1 r2 =>
      cases r2 with
      | cons _ _ => cases r1 <;> cases ho
      | nil =>
        cases r1 with
        | loc e' =>
          simp only at ho
          split at ho
          · rename_i ys zs q q'
            split at ho
            · rename_i hl
              obtain rfl := (Option.some.inj ho).symm
              obtain ⟨ws, h1, h2⟩ := rs.get e q
              obtain ⟨us, h3, h4⟩ := rs.get e' q'
              refine .inl ⟨_, _, ws, us, rfl, rfl, h1, h3, sz_of (by rw [h2.length, h4.length]; exact hl), Runs.upd rs e h1 trivial ?_ .non hQ⟩
              exact ⟨_, upd_same, (h2.append h4).mono (.refl _) (rs.ps _ e)⟩
            · cases ho
          · cases ho
        | tup g1 g2 =>
          simp only at ho
          split at ho
          · rename_i ys q
            split at ho
            · rename_i hl
              obtain rfl := (Option.some.inj ho).symm
              obtain ⟨ws, h1, h2⟩ := rs.get e q
              refine .inr ⟨_, _, ws, _, rfl, rfl, h1, g1, sz_of (by rw [h2.length, g2.length]; exact hl), Runs.upd rs e h1 trivial ?_ .non hQ⟩
              exact ⟨_, upd_same, (h2.append g2).mono (.refl _) (rs.ps _ e)⟩
            · cases ho
          · cases ho
        | _ => cases ho
  | _ => cases ho⟩
def XE.extend : XE c → XA c → XE c := .bm "list" (rExt2 c.K) extM okL sim_ext
def popM (x : AV) (xs : List AV) : M AV := fun S => match x, xs with
  | .loc n, [] => match S[n]? with
    | some (.lst ys) => (ys[ys.length - 1]?).map fun r => (.ok r, S.set n (.lst ys.dropLast))
    | _ => none
  | _, _ => none
theorem sim_pop : SimM c "list" rPop popM okL := ⟨fun μ H S v x o rs rv h => okL_ty rs rv h, fun E μ H S v vs x xs rs rv rvs o ho Q hQ => by
  unfold popM at ho
  cases rv with
  | loc e =>
    cases rvs with
    | cons r1 r2 => cases ho
    | nil =>
      simp only at ho
      split at ho
      · rename_i ys q
        obtain ⟨r, q2, rfl⟩ := Option.map_eq_some_iff.mp ho
        obtain ⟨ws, h1, h2⟩ := rs.get e q
        obtain ⟨y, h3, h4⟩ := h2.at q2
        refine ⟨_, ws, y, rfl, rfl, h1, by rw [h2.length]; exact h3, Runs.upd rs e h1 trivial ?_ h4 hQ⟩
        exact ⟨_, upd_same, h2.dropLast.mono (.refl _) (rs.ps _ e)⟩
      · cases ho
  | _ => cases ho⟩
def XE.pop : XE c → XE c := .bm0 "list" rPop popM okL sim_pop
def updM (x : AV) (xs : List AV) : M AV := fun S => match x, xs with
  | .loc n, [.loc m] => if n = m then none else match S[n]?, S[m]? with
    | some (.dct ks false), some (.dct ls false) => if ks.length + ls.length ≤ 100000 then some (.ok .non, S.set n (.dct (ls.foldl (fun acc kv => setK acc kv.1 kv.2) ks) false)) else none
    | _, _ => none
  | _, _ => none
theorem sim_upd : SimM c "dict" rDUpd updM okD := ⟨fun μ H S v x o rs rv h => okD_ty rs rv h, fun E μ H S v vs x xs rs rv rvs o ho Q hQ => by
  unfold updM at ho
  cases rv with
  | loc e =>
    cases rvs with
    | nil => cases ho
    | cons r1 r2 =>
      cases r2 with
      | cons _ _ => cases r1 <;> cases ho
      | nil =>
        cases r1 with
        | loc e' =>
          simp only at ho
          split at ho
          · cases ho
          · rename_i hne
            split at ho
            · rename_i ks ls q q'
              split at ho
              · rename_i hl
                obtain rfl := (Option.some.inj ho).symm
                obtain ⟨ws, h1, h2⟩ := rs.get e q
                obtain ⟨us, h3, h4⟩ := rs.get e' q'
                refine ⟨_, _, ws, us, rfl, rfl, fun z => hne (rs.inj e (z ▸ e')), h1, h3, sz_of (by rw [h2.length, h4.length]; exact hl), Runs.upd rs e h1 trivial ?_ .non hQ⟩
                exact ⟨_, upd_same, (VaP.merge h2 h4).mono (.refl _) (rs.ps _ e)⟩
              · cases ho
            · cases ho
        | _ => cases ho
  | _ => cases ho⟩
def XE.dupd : XE c → XA c → XE c := .bm "dict" rDUpd updM okD sim_upd
end
end CI

set_option Elab.async false
set_option linter.all false
set_option maxRecDepth 100000
set_option maxHeartbeats 4000000
/-! what is walked, targets, comprehensions, calls -/
namespace CI
open PySem PySem.Spec PyProof.Rows L2 Evl
mutual
def AV.same : AV → AV → Bool
  | .non, .non => true
  | .bl a, .bl b => a == b
  | .int a, .int b => a == b
  | .str a, .str b => a == b
  | .tup xs, .tup ys => AV.sames xs ys
  | .fl xs, .fl ys => AV.sames xs ys
  | .loc n, .loc m => n == m
  | .k v, .k w => decide (v = w)
  | .wd es, .wd fs => es == fs
  | _, _ => false
def AV.sames : List AV → List AV → Bool
  | [], [] => true
  | x :: xs, y :: ys => AV.same x y && AV.sames xs ys
  | _, _ => false
end
mutual
theorem same_eq : ∀ {x y : AV}, AV.same x y = true → x = y
  | .non, y, h => by cases y <;> simp [AV.same] at h <;> rfl
  | .bl a, y, h => by cases y <;> simp [AV.same] at h <;> subst h <;> rfl
  | .int a, y, h => by cases y <;> simp [AV.same] at h <;> subst h <;> rfl
  | .str a, y, h => by cases y <;> simp [AV.same] at h <;> subst h <;> rfl
  | .tup xs, y, h => by
    cases y <;> simp [AV.same] at h
    rw [sames_eq h]
  | .fl xs, y, h => by
    cases y <;> simp [AV.same] at h
    rw [sames_eq h]
  | .loc a, y, h => by cases y <;> simp [AV.same] at h <;> subst h <;> rfl
  | .k a, y, h => by cases y <;> simp [AV.same] at h <;> subst h <;> rfl
  | .wd a, y, h => by cases y <;> simp [AV.same] at h <;> subst h <;> rfl
theorem sames_eq : ∀ {xs ys : List AV}, AV.sames xs ys = true → xs = ys
  | [], [], _ => rfl
  | [], _ :: _, h => by simp [AV.sames] at h
  | _ :: _, [], h => by simp [AV.sames] at h
  | x :: xs, y :: ys, h => by
    simp [AV.sames] at h
    rw [same_eq h.1, sames_eq h.2]
end
mutual
theorem same_refl : ∀ x : AV, AV.same x x = true
  | .non => rfl
  | .bl a => by simp [AV.same]
  | .int a => by simp [AV.same]
  | .str a => by simp [AV.same]
  | .tup xs => by unfold AV.same; exact sames_refl xs
  | .fl xs => by unfold AV.same; exact sames_refl xs
  | .loc a => by simp [AV.same]
  | .k a => by simp [AV.same]
  | .wd a => by simp [AV.same]
theorem sames_refl : ∀ xs : List AV, AV.sames xs xs = true
  | [] => rfl
  | x :: xs => by unfold AV.sames; rw [same_refl x, sames_refl xs]; rfl
end
/-- the items; the lists that must stay meanwhile -/
structure AI where
  xs : List AV
  ck : List (Nat × List AV)
def AI.ok (ai : AI) (S : Store) : Bool := ai.ck.all fun p => match S[p.1]? with
  | some (.lst zs) => AV.sames zs p.2
  | _ => false
/-- the heap, or a tuple more -/
def Nw (Ha Hb : Hp) : Prop := Hb = Ha ∨ ∃ p u, Ha p = none ∧ Hb = upd Ha p u
def RlI (c : Ct) : Rl It AI := fun μ H J ai => ∃ G : Hp → Prop, (∀ μ2 H2 S2, Pre μ μ2 → Ps H H2 → RS c μ2 H2 S2 → ai.ok S2 = true → G H2) ∧
  Walk J ai.xs.length G fun i Ha x Hb => Nw Ha Hb ∧ ∀ μ2 S2, Pre μ μ2 → Ps H Ha → RS c μ2 Ha S2 → ai.ok S2 = true → ∃ y, ai.xs[i]? = some y ∧ Va c μ2 Hb x y
structure XI (c : Ct) where
  t : XT1 It
  f : Env → M AI
  sim : Sim c (RlI c) t f
section
variable {c : Ct} {μ μ' : List Addr} {H H' : Hp} {S S' : Store}
theorem Nw.fw (h : Nw H H') : Fw μ H μ H' := by
  rcases h with rfl | ⟨p, u, h, rfl⟩
  · exact .refl _ _
  · exact .put h
theorem Nw.rs (h : Nw H H') (rs : RS c μ H S) : RS c μ H' S := by
  rcases h with rfl | ⟨p, u, h, rfl⟩
  · exact rs
  · exact rs.put h
def itTup (x : AV) : M AI := match x with
  | .tup xs => pure ⟨xs, []⟩
  | _ => M.no
def mIt (g : AV → M AI) (a : Env → M AV) : Env → M AI := fun ρ => a ρ >>= g
def mItA (g : List AV → M AI) (a : Env → M (List AV)) : Env → M AI := fun ρ => a ρ >>= g
def XI.tup (a : XE c) : XI c where
  t := fun E => iTup c.K (a.t E)
  f := mIt itTup a.f
  sim := fun E μ H σ ρ S rs re => (a.sim E μ H σ ρ S rs re).bind fun μ1 H1 S1 v x f1 rs1 rv o ho Q hQ => by
    cases rv with
    | tup h1 h2 =>
      rename_i a vs xs
      obtain rfl := pure_some ho
      refine ⟨a, rfl, ⟨vs, h1⟩, hQ _ μ1 H1 (.refl _ _) rs1 ⟨fun H' => SqT c.K H' a vs, fun μ2 H2 S2 _ ps _ _ => ps.sq h1, ?_⟩⟩
      have hl := h2.length
      show Walk _ xs.length _ _
      rw [← hl]
      refine walk_tup.mono (fun H' q => q) fun i Hi x H' hlt q y => ?_
      obtain ⟨rfl, y⟩ := y
      refine ⟨.inl rfl, fun μ2 S2 p ps rs2 _ => ?_⟩
      obtain ⟨d, e1, e2⟩ := h2.get y
      exact ⟨d, e1, e2.mono p ps⟩
    | _ => cases ho
/-- a list: its place, if it may change -/
def itLst (x : AV) : M AI := fun S => match x with
  | .loc n => match S[n]? with
    | some (.lst xs) => some (.ok ⟨xs, [(n, xs)]⟩, S)
    | _ => none
  | .fl xs => some (.ok ⟨xs, []⟩, S)
  | _ => none
theorem ok_one {n : Nat} {xs : List AV} {S : Store} (h : AI.ok ⟨xs, [(n, xs)]⟩ S = true) : S[n]? = some (.lst xs) := by
  simp [AI.ok] at h
  split at h
  · rename_i zs q
    rw [q, sames_eq h]
  · cases h
theorem itLst_ok {v : V} {x : AV} {o : Except XV AI × Store} (rs : RS c μ H S) (rv : Va c μ H v x) (h : itLst x S = some o) :
    ∃ a xs ck, v = .ref a ∧ o = (.ok ⟨xs, ck⟩, S) ∧ (∃ vs, SqL c.K H a vs) ∧ ∃ n, n = xs.length ∧ ∀ μ2 H2 S2, Pre μ μ2 → Ps H H2 → RS c μ2 H2 S2 → AI.ok ⟨xs, ck⟩ S2 = true → ∃ vs, SqL c.K H2 a vs ∧ VaAll c μ2 H2 vs xs := by
  unfold itLst at h
  cases rv with
  | loc e =>
    rename_i a n
    simp only at h
    split at h
    · rename_i xs q
      obtain rfl := (Option.some.inj h).symm
      obtain ⟨vs, h1, h2⟩ := rs.get e q
      refine ⟨a, xs, [(n, xs)], rfl, rfl, ⟨vs, sq_of h1⟩, _, rfl, fun μ2 H2 S2 p ps rs2 ok => ?_⟩
      obtain ⟨ws, h3, h4⟩ := rs2.get (p.at e) (ok_one ok)
      exact ⟨ws, sq_of h3, h4⟩
    · cases h
  | fl h1 h2 =>
    obtain rfl := (Option.some.inj h).symm
    exact ⟨_, _, [], rfl, rfl, ⟨_, h1.l⟩, _, rfl, fun μ2 H2 S2 p ps _ _ => ⟨_, (ps.sqF h1).l, h2.mono p ps⟩⟩
  | _ => cases h
def XI.lst (a : XE c) : XI c where
  t := fun E => iList c.K (a.t E)
  f := mIt itLst a.f
  sim := fun E μ H σ ρ S rs re => (a.sim E μ H σ ρ S rs re).bind fun μ1 H1 S1 v x f1 rs1 rv o ho Q hQ => by
    obtain ⟨a, xs, ck, rfl, rfl, hx, n, rfl, hk⟩ := itLst_ok rs1 rv ho
    refine ⟨a, rfl, hx, hQ _ μ1 H1 (.refl _ _) rs1 ⟨fun H' => ∃ vs μ2, SqL c.K H' a vs ∧ VaAll c μ2 H' vs xs, fun μ2 H2 S2 p ps rs2 ok => ?_, ?_⟩⟩
    · obtain ⟨vs, h1, h2⟩ := hk μ2 H2 S2 p ps rs2 ok
      exact ⟨vs, μ2, h1, h2⟩
    · refine ⟨fun i H' hi ⟨vs, μ2, q, r⟩ => ?_, fun H' ⟨vs, μ2, q, r⟩ => ?_, fun i Ha x Hb hi ⟨vs, μ2, q, r⟩ y => ?_⟩
      · exact (walk_list (K := c.K) (a := a) (xs := vs)).goes i H' (by rw [r.length]; exact hi) q
      · have := (walk_list (K := c.K) (a := a) (xs := vs)).stops H' q
        rw [r.length] at this
        exact this
      · obtain ⟨rfl, _⟩ := (walk_list (K := c.K) (a := a) (xs := vs)).yields i Ha x Hb (by rw [r.length]; exact hi) q y
        refine ⟨.inl rfl, fun μ3 S3 p ps rs3 ok => ?_⟩
        obtain ⟨ws, h1, h2⟩ := hk μ3 Hb S3 p ps rs3 ok
        obtain ⟨_, y'⟩ := (walk_list (K := c.K) (a := a) (xs := ws)).yields i Hb x Hb (by rw [h2.length]; exact hi) h1 y
        exact h2.get y'
def signs (z : Str) : List AV := z.cps.toList.map fun n => .str ⟨#[n]⟩
theorem signs_va (z : Str) : VaAll c μ H (z.cps.toList.map fun n => V.str ⟨#[n]⟩) (signs z) := by
  unfold signs
  generalize z.cps.toList = l
  induction l with
  | nil => exact .nil
  | cons n l ih => exact .cons (.str _) ih
def itStr (x : AV) : M AI := match x with
  | .str z => pure ⟨signs z, []⟩
  | _ => M.no
def XI.str (a : XE c) : XI c where
  t := fun E => iStr (a.t E)
  f := mIt itStr a.f
  sim := fun E μ H σ ρ S rs re => (a.sim E μ H σ ρ S rs re).bind fun μ1 H1 S1 v x f1 rs1 rv o ho Q hQ => by
    cases rv with
    | str z =>
      obtain rfl := pure_some ho
      refine ⟨z, rfl, hQ _ μ1 H1 (.refl _ _) rs1 ⟨fun _ => True, fun _ _ _ _ _ _ _ => trivial, ?_⟩⟩
      have hl : (signs z).length = z.cps.size := by simp [signs]
      show Walk _ (signs z).length _ _
      rw [hl]
      refine walk_str.mono (fun _ q => q) fun i Hi y H' hlt q u => ?_
      obtain ⟨rfl, n, hc, rfl⟩ := u
      exact ⟨.inl rfl, fun _ _ _ _ _ _ => ⟨_, by simp [signs, hc], .str _⟩⟩
    | _ => cases ho
def nats (lo : Int) (n : Nat) : List AV := (List.range n).map fun (i : Nat) => .int (lo + (i : Int))
def itRng (xs : List AV) : M AI := match xs with
  | [.int j] => if -(2 ^ 62) ≤ j ∧ j < 2 ^ 62 then pure ⟨nats 0 j.toNat, []⟩ else M.no
  | _ => M.no
theorem walk_nats {lo : Int} {n : Nat} : Walk (Itr lo n) (nats lo n).length (fun _ => True) fun i Ha x Hb => Nw Ha Hb ∧ ∀ μ2 S2, Pre μ μ2 → Ps H Ha → RS c μ2 Ha S2 → AI.ok ⟨nats lo n, []⟩ S2 = true → ∃ y, (nats lo n)[i]? = some y ∧ Va c μ2 Hb x y := by
  have hl : (nats lo n).length = n := by simp [nats]
  rw [hl]
  refine walk_range.mono (fun _ q => q) fun i Hi y H' hlt q u => ?_
  obtain ⟨rfl, rfl⟩ := u
  exact ⟨.inl rfl, fun _ _ _ _ _ _ => ⟨.int (lo + (i : Int)), by simp [nats, hlt], .int _⟩⟩
def XI.rng (a : XA c) : XI c where
  t := fun E => iRng1 (a.t E)
  f := mItA itRng a.f
  sim := fun E μ H σ ρ S rs re => (a.sim E μ H σ ρ S rs re).bind fun μ1 H1 S1 vs xs f1 rs1 rv o ho Q hQ => by
    cases rv with
    | nil => cases ho
    | cons r1 r2 =>
      cases r2 with
      | cons _ _ => unfold itRng at ho; cases r1 <;> cases ho
      | nil =>
        unfold itRng at ho
        cases r1 with
        | int j =>
          simp only at ho
          split at ho
          · rename_i h
            obtain rfl := pure_some ho
            exact ⟨j, rfl, h.1, h.2, hQ _ μ1 H1 (.refl _ _) rs1 ⟨fun _ => True, fun _ _ _ _ _ _ _ => trivial, walk_nats⟩⟩
          · cases ho
        | _ => cases ho
def itRng2 (xs : List AV) : M AI := match xs with
  | [.int i, .int j] => if (-(2 ^ 62) ≤ i ∧ i < 2 ^ 62 ∧ -(2 ^ 62) ≤ j ∧ j < 2 ^ 62) then pure ⟨nats i (j - i).toNat, []⟩ else M.no
  | _ => M.no
def XI.rng2 (a : XA c) : XI c where
  t := fun E => iRng2 (a.t E)
  f := mItA itRng2 a.f
  sim := fun E μ H σ ρ S rs re => (a.sim E μ H σ ρ S rs re).bind fun μ1 H1 S1 vs xs f1 rs1 rv o ho Q hQ => by
    unfold itRng2 at ho
    split at ho
    · rename_i i j
      cases rv with
      | cons r1 r2 =>
        cases r2 with
        | cons r2 r3 =>
          cases r3
          cases r1
          cases r2
          split at ho
          · rename_i h
            obtain rfl := pure_some ho
            exact ⟨i, j, rfl, h, hQ _ μ1 H1 (.refl _ _) rs1 ⟨fun _ => True, fun _ _ _ _ _ _ _ => trivial, walk_nats⟩⟩
          · cases ho
    · cases ho
/-! sources of enumerate, zip -/
def itAny (x : AV) : M AI := fun S => match x with
  | .tup xs => some (.ok ⟨xs, []⟩, S)
  | .str z => some (.ok ⟨signs z, []⟩, S)
  | x => itLst x S
theorem itAny_ok {v : V} {x : AV} {o : Except XV AI × Store} (rs : RS c μ H S) (rv : Va c μ H v x) (h : itAny x S = some o) :
    ∃ (src : Src) (xs : List AV) (ck : List (Nat × List AV)), v = src.v ∧ o = (.ok ⟨xs, ck⟩, S) ∧ (∃ vs, src.at c.K H vs ∧ vs.length = xs.length) ∧ ∀ μ2 H2 S2, Pre μ μ2 → Ps H H2 → RS c μ2 H2 S2 → AI.ok ⟨xs, ck⟩ S2 = true → ∃ vs, src.at c.K H2 vs ∧ VaAll c μ2 H2 vs xs := by
  unfold itAny at h
  cases rv with
  | tup h1 h2 =>
    obtain rfl := (Option.some.inj h).symm
    exact ⟨.tup _, _, [], rfl, rfl, ⟨_, h1, h2.length⟩, fun μ2 H2 S2 p ps _ _ => ⟨_, ps.sq h1, h2.mono p ps⟩⟩
  | str z =>
    obtain rfl := (Option.some.inj h).symm
    exact ⟨.str z, _, [], rfl, rfl, ⟨_, rfl, (signs_va (c := c) (μ := μ) (H := H) z).length⟩, fun μ2 H2 S2 p ps _ _ => ⟨_, rfl, signs_va z⟩⟩
  | loc e =>
    rename_i a n
    have h : itLst (.loc n) S = some o := h
    unfold itLst at h
    simp only at h
    split at h
    · rename_i xs q
      obtain rfl := (Option.some.inj h).symm
      obtain ⟨vs, h1, h2⟩ := rs.get e q
      refine ⟨.lst a, xs, [(n, xs)], rfl, rfl, ⟨vs, sq_of h1, h2.length⟩, fun μ2 H2 S2 p ps rs2 ok => ?_⟩
      obtain ⟨ws, h3, h4⟩ := rs2.get (p.at e) (ok_one ok)
      exact ⟨ws, sq_of h3, h4⟩
    · cases h
  | fl h1 h2 =>
    obtain rfl := (Option.some.inj h).symm
    exact ⟨.lst _, _, [], rfl, rfl, ⟨_, h1.l, h2.length⟩, fun μ2 H2 S2 p ps _ _ => ⟨_, (ps.sqF h1).l, h2.mono p ps⟩⟩
  | _ => cases h
def numd (xs : List AV) : List AV := xs.zipIdx.map fun p => .tup [.int (p.2 : Nat), p.1]
theorem numd_len (xs : List AV) : (numd xs).length = xs.length := by simp [numd]
theorem numd_at {xs : List AV} {i : Nat} {d : AV} (h : xs[i]? = some d) : (numd xs)[i]? = some (.tup [.int (i : Nat), d]) := by
  simp [numd, List.getElem?_zipIdx, h]
def itEnum (ys : List AV) : M AI := match ys with
  | [x] => itAny x >>= fun ai => pure ⟨numd ai.xs, ai.ck⟩
  | _ => M.no
theorem ok_ck {xs ys : List AV} {ck : List (Nat × List AV)} {S : Store} : AI.ok ⟨xs, ck⟩ S = AI.ok ⟨ys, ck⟩ S := rfl
def XI.enum (a : XA c) : XI c where
  t := fun E => iEnumS c.K (a.t E)
  f := mItA itEnum a.f
  sim := fun E μ H σ ρ S rs re => (a.sim E μ H σ ρ S rs re).bind fun μ1 H1 S1 vs xs f1 rs1 rv o ho Q hQ => by
    cases rv with
    | nil => cases ho
    | cons r1 r2 =>
      cases r2 with
      | cons _ _ => cases ho
      | nil =>
        unfold itEnum at ho
        rcases bind_some ho with ⟨ai, S2, h1, h2⟩ | ⟨x', S2, h1, h2⟩
        · obtain ⟨src, zs, ck, rfl, e, ⟨vs, hv, hl⟩, hk⟩ := itAny_ok rs1 r1 h1
          cases e
          obtain rfl := pure_some h2
          refine ⟨src, vs, rfl, hv, hQ _ μ1 H1 (.refl _ _) rs1 ⟨fun H' => ∃ vs μ2, src.at c.K H' vs ∧ VaAll c μ2 H' vs zs, fun μ2 H2 S2 p ps rs2 ok => ?_, ?_⟩⟩
          · obtain ⟨vs, g1, g2⟩ := hk μ2 H2 S2 p ps rs2 ok
            exact ⟨vs, μ2, g1, g2⟩
          · show Walk _ (numd zs).length _ _
            rw [numd_len]
            refine ⟨fun i H' hi ⟨vs, μ2, q, r⟩ => ?_, fun H' ⟨vs, μ2, q, r⟩ => ?_, fun i Ha x Hb hi ⟨vs, μ2, q, r⟩ y => ?_⟩
            · exact (walk_enumS (K := c.K) (src := src) (xs := vs)).goes i H' (by rw [r.length]; exact hi) q
            · have := (walk_enumS (K := c.K) (src := src) (xs := vs)).stops H' q
              rw [r.length] at this
              exact this
            · have y0 := (walk_enumS (K := c.K) (src := src) (xs := vs)).yields i Ha x Hb (by rw [r.length]; exact hi) q y
              obtain ⟨T0, a0, b0, _, hT0, e0, _⟩ := y0
              refine ⟨.inr ⟨_, _, hT0, e0⟩, fun μ3 S3 p ps rs3 ok => ?_⟩
              obtain ⟨ws, g1, g2⟩ := hk μ3 Ha S3 p ps rs3 ok
              obtain ⟨T, a, b, rfl, hT, rfl, e1, e2⟩ := (walk_enumS (K := c.K) (src := src) (xs := ws)).yields i Ha x Hb (by rw [g2.length]; exact hi) g1 y
              cases e1
              obtain ⟨d, g3, g4⟩ := g2.get e2
              exact ⟨_, numd_at g3, .tup (st_of upd_same) (.cons (.int _) (.cons (g4.mono (.refl _) (.new hT)) .nil))⟩
        · obtain ⟨src, zs, ck, _, e, _⟩ := itAny_ok rs1 r1 h1
          cases e
def zipd (xs ys : List AV) : List AV := (xs.zip ys).map fun p => .tup [p.1, p.2]
theorem zipd_len (xs ys : List AV) (h : xs.length = ys.length) : (zipd xs ys).length = xs.length := by simp [zipd, ← h]
theorem zipd_at {xs ys : List AV} {i : Nat} {d e : AV} (h : xs[i]? = some d) (h' : ys[i]? = some e) : (zipd xs ys)[i]? = some (.tup [d, e]) := by
  simp [zipd, List.getElem?_zip_eq_some, h, h']
def itZip (zs : List AV) : M AI := match zs with
  | [x, y] => do
    let a ← itAny x
    let b ← itAny y
    if a.xs.length = b.xs.length then pure ⟨zipd a.xs b.xs, a.ck ++ b.ck⟩ else M.no
  | _ => M.no
theorem ok_app {xs ys zs : List AV} {ck ck' : List (Nat × List AV)} {S : Store} (h : AI.ok ⟨xs, ck ++ ck'⟩ S = true) : AI.ok ⟨ys, ck⟩ S = true ∧ AI.ok ⟨zs, ck'⟩ S = true := by
  unfold AI.ok at h ⊢
  rw [List.all_append] at h
  exact Bool.and_eq_true_iff.mp h
def XI.zip (a : XA c) : XI c where
  t := fun E => iZipS c.K (a.t E)
  f := mItA itZip a.f
  sim := fun E μ H σ ρ S rs re => (a.sim E μ H σ ρ S rs re).bind fun μ1 H1 S1 vs xs f1 rs1 rv o ho Q hQ => by
    cases rv with
    | nil => cases ho
    | cons r1 r2 =>
      cases r2 with
      | nil => cases ho
      | cons r2 r3 =>
        cases r3 with
        | cons _ _ => cases ho
        | nil =>
          unfold itZip at ho
          rcases bind_some ho with ⟨a1, S2, h1, h2⟩ | ⟨x', S2, h1, h2⟩
          · obtain ⟨s1, as, ck1, rfl, e, ⟨vs1, hv1, hl1⟩, hk1⟩ := itAny_ok rs1 r1 h1
            cases e
            rcases bind_some h2 with ⟨b1, S3, h3, h4⟩ | ⟨x', S3, h3, h4⟩
            · obtain ⟨s2, bs, ck2, rfl, e, ⟨vs2, hv2, hl2⟩, hk2⟩ := itAny_ok rs1 r2 h3
              cases e
              simp only at h4
              split at h4
              · rename_i hl
                obtain rfl := pure_some h4
                refine ⟨s1, s2, vs1, vs2, rfl, hv1, hv2, hQ _ μ1 H1 (.refl _ _) rs1 ⟨fun H' => ∃ v1 v2 μ2, (s1.at c.K H' v1 ∧ s2.at c.K H' v2) ∧ VaAll c μ2 H' v1 as ∧ VaAll c μ2 H' v2 bs, fun μ2 H2 S2 p ps rs2 ok => ?_, ?_⟩⟩
                · obtain ⟨o1, o2⟩ := ok_app (ys := as) (zs := bs) ok
                  obtain ⟨v1, g1, g2⟩ := hk1 μ2 H2 S2 p ps rs2 o1
                  obtain ⟨v2, g3, g4⟩ := hk2 μ2 H2 S2 p ps rs2 o2
                  exact ⟨v1, v2, μ2, ⟨g1, g3⟩, g2, g4⟩
                · show Walk _ (zipd as bs).length _ _
                  rw [zipd_len _ _ hl]
                  refine ⟨fun i H' hi ⟨v1, v2, μ2, q, r, r'⟩ => ?_, fun H' ⟨v1, v2, μ2, q, r, r'⟩ => ?_, fun i Ha x Hb hi ⟨v1, v2, μ2, q, r, r'⟩ y => ?_⟩
                  · exact (walk_zipS (K := c.K) (s1 := s1) (s2 := s2) (xs := v1) (ys := v2) (n := as.length) r.length (r'.length.trans hl.symm)).goes i H' hi q
                  · exact (walk_zipS (K := c.K) (s1 := s1) (s2 := s2) (xs := v1) (ys := v2) (n := as.length) r.length (r'.length.trans hl.symm)).stops H' q
                  · obtain ⟨T0, a0, b0, _, hT0, e0, _⟩ := (walk_zipS (K := c.K) (s1 := s1) (s2 := s2) (xs := v1) (ys := v2) (n := as.length) r.length (r'.length.trans hl.symm)).yields i Ha x Hb hi q y
                    refine ⟨.inr ⟨_, _, hT0, e0⟩, fun μ3 S3 p ps rs3 ok => ?_⟩
                    obtain ⟨o1, o2⟩ := ok_app (ys := as) (zs := bs) ok
                    obtain ⟨w1, g1, g2⟩ := hk1 μ3 Ha S3 p ps rs3 o1
                    obtain ⟨w2, g3, g4⟩ := hk2 μ3 Ha S3 p ps rs3 o2
                    obtain ⟨T, a, b, rfl, hT, rfl, e1, e2⟩ := (walk_zipS (K := c.K) (s1 := s1) (s2 := s2) (xs := w1) (ys := w2) (n := as.length) g2.length (g4.length.trans hl.symm)).yields i Ha x Hb hi ⟨g1, g3⟩ y
                    obtain ⟨d, k1, k2⟩ := g2.get e1
                    obtain ⟨d', k3, k4⟩ := g4.get e2
                    exact ⟨_, zipd_at k1 k3, .tup (st_of upd_same) (.cons (k2.mono (.refl _) (.new hT)) (.cons (k4.mono (.refl _) (.new hT)) .nil))⟩
              · cases h4
            · obtain ⟨src, zs, ck, _, e, _⟩ := itAny_ok rs1 r2 h3
              cases e
          · obtain ⟨src, zs, ck, _, e, _⟩ := itAny_ok rs1 r1 h1
            cases e
/-! ### targets -/
theorem wipe_none (σ : L2.St) : ∀ (vs : List Nat) (i : Nat), i ∈ vs → i < σ.length → (wipe σ vs)[i]? = some none
  | v :: vs, i, h, hl => by
    show ((wipe σ vs).set v none)[i]? = some none
    by_cases e : v = i
    · subst e
      exact List.getElem?_set_self (by rw [wipe_length]; exact hl)
    · rw [List.getElem?_set_ne e]
      rcases List.mem_cons.mp h with h | h
      · exact absurd h.symm e
      · exact wipe_none σ vs i h hl
theorem wipe_ext {σ τ : L2.St} {vs : List Nat} (hl : σ.length = τ.length) (h : ∀ i, i ∉ vs → σ[i]? = τ[i]?) : wipe σ vs = wipe τ vs := by
  apply List.ext_getElem?
  intro i
  by_cases m : i ∈ vs
  · by_cases hi : i < σ.length
    · rw [wipe_none σ vs i m hi, wipe_none τ vs i m (by rw [← hl]; exact hi)]
    · rw [List.getElem?_eq_none (by rw [wipe_length]; omega), List.getElem?_eq_none (by rw [wipe_length]; omega)]
  · rw [wipe_out m, wipe_out m]
    exact h i m
theorem wipe_set {σ : L2.St} {vs : List Nat} {i : Nat} {x : Option V} (h : i ∈ vs) : wipe (σ.set i x) vs = wipe σ vs :=
  wipe_ext (by rw [List.length_set]) fun j hj => List.getElem?_set_ne (fun (e : i = j) => hj (by rw [← e]; exact h))
theorem wipe_wipe (σ : L2.St) (vs : List Nat) : wipe (wipe σ vs) vs = wipe σ vs := wipe_ext (wipe_length σ vs) fun _ h => wipe_out h
def wipeA (ρ : Env) : List Nat → Env
  | [] => ρ
  | v :: vs => (wipeA ρ vs).set v none
theorem wipeA_length (ρ : Env) : ∀ vs : List Nat, (wipeA ρ vs).length = ρ.length
  | [] => rfl
  | v :: vs => by show ((wipeA ρ vs).set v none).length = _; rw [List.length_set, wipeA_length ρ vs]
theorem wipeA_some {ρ : Env} {i : Nat} {x : AV} : ∀ {vs : List Nat}, (wipeA ρ vs)[i]? = some (some x) → ρ[i]? = some (some x) ∧ i ∉ vs
  | [], h => ⟨h, by simp⟩
  | v :: vs, h => by
    have h : ((wipeA ρ vs).set v none)[i]? = some (some x) := h
    by_cases e : v = i
    · subst e
      have hl := (List.getElem?_eq_some_iff.mp h).1
      rw [List.length_set] at hl
      rw [List.getElem?_set_self hl] at h
      cases h
    · rw [List.getElem?_set_ne e] at h
      obtain ⟨h1, h2⟩ := wipeA_some h
      exact ⟨h1, fun m => by rcases List.mem_cons.mp m with m | m; exact e m.symm; exact h2 m⟩
theorem RE.wipe {σ : L2.St} {ρ : Env} (re : RE c μ H σ ρ) (vs : List Nat) : RE c μ H (wipe σ vs) (wipeA ρ vs) :=
  ⟨by rw [wipe_length, wipeA_length, re.len], fun i x h => by
    obtain ⟨h1, h2⟩ := wipeA_some h
    obtain ⟨v, h3, h4⟩ := re.at_ i x h1
    exact ⟨v, by rw [wipe_out h2]; exact h3, h4⟩⟩
def RlG (c : Ct) (σ : L2.St) (ns : List Nat) : Rl L2.St Env := fun μ H σ' ρ' => RE c μ H σ' ρ' ∧ ∀ vs : List Nat, (∀ i ∈ ns, i ∈ vs) → wipe σ' vs = wipe σ vs
structure XG (c : Ct) where
  t : XK → TG
  f : AV → Env → M Env
  ns : List Nat
  sim : ∀ E μ H S σ ρ v x, RS c μ H S → RE c μ H σ ρ → Va c μ H v x → Runs c (RlG c σ ns) E μ H S (fun Q => t E v σ H Q) (f x ρ)
structure XGs (c : Ct) where
  t : XK → TGs
  f : List AV → Env → M Env
  ns : List Nat
  sim : ∀ E μ H S σ ρ v x, RS c μ H S → RE c μ H σ ρ → VaAll c μ H v x → Runs c (RlG c σ ns) E μ H S (fun Q => t E v σ H Q) (f x ρ)
def mgName (i : Nat) : AV → Env → M Env := fun x ρ => pure (ρ.set i (some x))
def XG.name (i : Nat) : XG c where
  t := fun _ => gName i
  f := mgName i
  ns := [i]
  sim := fun E μ H S σ ρ v x rs re rv => Runs.pure rs ⟨re.set rv i, fun vs h => wipe_set (h i (by simp))⟩
def mgNil : List AV → Env → M Env := fun xs ρ => match xs with
    | [] => pure ρ
    | _ => M.no
def XGs.nil : XGs c where
  t := fun _ => gNil
  f := mgNil
  ns := []
  sim := fun E μ H S σ ρ v x rs re rv o ho Q hQ => by
    cases rv with
    | nil => exact ⟨rfl, Runs.pure rs ⟨re, fun _ _ => rfl⟩ o ho Q hQ⟩
    | cons _ _ => cases ho
def mgCons (g : AV → Env → M Env) (r : List AV → Env → M Env) : List AV → Env → M Env := fun xs ρ => match xs with
    | x :: xs => g x ρ >>= r xs
    | [] => M.no
def XGs.cons (g : XG c) (r : XGs c) : XGs c where
  t := fun E => gCons (g.t E) (r.t E)
  f := mgCons g.f r.f
  ns := g.ns ++ r.ns
  sim := fun E μ H S σ ρ v x rs re rv o ho Q hQ => by
    cases rv with
    | nil => cases ho
    | cons h1 h2 =>
      refine ⟨_, _, rfl, ?_⟩
      refine (Runs.bind (R' := RlG c σ (g.ns ++ r.ns)) (q := fun σ' H' Q => r.t E _ σ' H' Q) (g.sim E μ H S σ ρ _ _ rs re h1) fun μ1 H1 S1 σ1 ρ1 f1 rs1 rg => ?_) o ho Q hQ
      intro o2 ho2 Q2 hQ2
      refine r.sim E μ1 H1 S1 σ1 ρ1 _ _ rs1 rg.1 (h2.fw rs f1) o2 ho2 Q2 ?_
      obtain ⟨e2, S2⟩ := o2
      cases e2 with
      | ok ρ2 => exact fun σ2 μ2 H2 f2 rs2 rg2 => hQ2 σ2 μ2 H2 f2 rs2 ⟨rg2.1, fun vs hv => (rg2.2 vs fun i hi => hv i (List.mem_append_right _ hi)).trans (rg.2 vs fun i hi => hv i (List.mem_append_left _ hi))⟩
      | error x => exact hQ2
def mgTup (n : Nat) (gs : List AV → Env → M Env) : AV → Env → M Env := fun x ρ => match x with
    | .tup xs => if xs.length = n then gs xs ρ else M.no
    | _ => M.no
def XG.tup (n : Nat) (gs : XGs c) : XG c where
  t := fun E => gTup c.K n (gs.t E)
  f := mgTup n gs.f
  ns := gs.ns
  sim := fun E μ H S σ ρ v x rs re rv o ho Q hQ => by
    cases rv with
    | tup h1 h2 =>
      unfold mgTup at ho
      simp only at ho
      split at ho
      · rename_i hl
        exact ⟨_, _, rfl, h1, h2.length.trans hl, gs.sim E μ H S σ ρ _ _ rs re h2 o ho Q hQ⟩
      · cases ho
    | _ => cases ho
/-! o[i] = x -/
def rSet2 : TSet := fun o i v H Q => rSetL o i v H Q ∨ rSetD o i v H Q
theorem set_2 {X : Cx} (hu : X.A.units + 1 < cLine) : PSet X rSet2 := by
  intro pins s σ H o i v ov iv u Q I ro ri rv h
  rcases h with h | h
  · exact set_list pins s σ H o i v ov iv u Q I ro ri rv h
  · exact set_dict hu pins s σ H o i v ov iv u Q I ro ri rv h
def putM (o i x : AV) : M Unit := fun S => match o with
  | .loc n => match S[n]? with
    | some (.lst xs) => match i with
      | .int k => (ixN xs.length k).map fun j => (.ok (), S.set n (.lst (xs.set j x)))
      | _ => none
    | some (.dct kvs false) => match toKey i with
      | some k => if kvs.length < 100000 then some (.ok (), S.set n (.dct (setK kvs k x) false)) else none
      | none => none
    | _ => none
  | _ => none
def RlU : Rl Unit Unit := fun _ _ _ _ => True
theorem sim_put (E : XK) {o i v : V} {o' i' x : AV} (rs : RS c μ H S) (ro : Va c μ H o o') (ri : Va c μ H i i') (rv : Va c μ H v x) : Runs c RlU E μ H S (fun Q => rSet2 o i v H (fun H' => Q () H')) (putM o' i' x) := fun z hz Q hQ => by
  unfold putM at hz
  cases ro with
  | loc e =>
    simp only at hz
    split at hz
    · rename_i xs q
      cases ri with
      | int k =>
        obtain ⟨j, hj, rfl⟩ := Option.map_eq_some_iff.mp hz
        obtain ⟨vs, h1, h2⟩ := rs.get e q
        refine .inl ⟨_, vs, k, j, rfl, rfl, h1, by rw [h2.length]; exact hj, hQ () μ _ (.upd e h1 trivial) (rs.set e ?_) trivial⟩
        exact ⟨_, upd_same, (h2.set rv j).mono (.refl _) (rs.ps _ e)⟩
      | _ => cases hz
    · rename_i kvs q
      split at hz
      · rename_i k hk
        split at hz
        · rename_i hl
          obtain rfl := (Option.some.inj hz).symm
          obtain ⟨vs, h1, h2⟩ := rs.get e q
          refine .inr ⟨_, _, rfl, .inl ⟨vs, k, h1, toKey_eq ri hk, sz_lt (by rw [h2.length]; exact hl), rfl⟩, hQ () μ _ (.upd e h1 trivial) (rs.set e ?_) trivial⟩
          exact ⟨_, upd_same, (h2.put k rv).mono (.refl _) (rs.ps _ e)⟩
        · cases hz
      · cases hz
    · cases hz
  | _ => cases hz
def mgSub (a b : Env → M AV) : AV → Env → M Env := fun x ρ => do let o ← a ρ; let i ← b ρ; putM o i x; pure ρ
def XG.sub (a b : XE c) : XG c where
  t := fun E => gSub (a.t E) (b.t E) rSet2
  f := mgSub a.f b.f
  ns := []
  sim := fun E μ H S σ ρ v x rs re rv => (a.sim E μ H σ ρ S rs re).bind fun μ1 H1 S1 o o' f1 rs1 ro => (b.sim E μ1 H1 σ ρ S1 rs1 (re.fw rs f1)).bind fun μ2 H2 S2 i i' f2 rs2 ri =>
    Runs.bind (q := fun _ H' Q => Q σ H') (sim_put E rs2 (ro.fw rs1 f2) ri ((rv.fw rs f1).fw rs1 f2)) fun μ3 H3 S3 _ _ f3 rs3 _ => Runs.pure rs3 ⟨((re.fw rs f1).fw rs1 f2).fw rs2 f3, fun _ _ => rfl⟩
end
end CI

set_option Elab.async false
set_option linter.all false
set_option maxRecDepth 100000
set_option maxHeartbeats 4000000
/-! comprehensions, calls -/
namespace CI
open PySem PySem.Spec PyProof.Rows L2 Evl
section
variable {c : Ct} {μ μ' : List Addr} {H H' : Hp} {S S' : Store}
theorem assoc {A B C : Type} (m : M A) (f : A → M B) (g : B → M C) : (m >>= f) >>= g = m >>= fun x => f x >>= g := by
  funext S
  show M.bind (M.bind m f) g S = M.bind m (fun x => M.bind (f x) g) S
  unfold M.bind
  cases m S with
  | none => rfl
  | some r =>
    obtain ⟨r1, r2⟩ := r
    cases r1 <;> rfl
/-- an object that stands there already -/
theorem RS.adopt (r : RS c μ H S) {p : Addr} {o : AO} (hp : p ∉ μ) (ho : RO c (μ ++ [p]) H p o) : RS c (μ ++ [p]) H (S ++ [o]) := by
  refine ⟨?_, by rw [List.length_append, List.length_append, r.len]; rfl, fun n a q e z => ?_⟩
  · rw [List.nodup_append]
    refine ⟨r.nd, by simp, fun a ha b hb => ?_⟩
    rw [List.mem_singleton] at hb
    subst hb
    exact fun z => hp (z ▸ ha)
  · by_cases hn : n < μ.length
    · rw [List.getElem?_append_left hn] at e
      rw [List.getElem?_append_left (by rw [← r.len]; exact hn)] at z
      exact (r.at_ n a q e z).mono ⟨[p], rfl⟩ (.refl H) rfl
    · have hn' := (List.getElem?_eq_some_iff.mp e).1
      rw [List.length_append, List.length_singleton] at hn'
      have : n = μ.length := by omega
      subst this
      rw [List.getElem?_append_right (Nat.le_refl _), Nat.sub_self] at e
      rw [r.len, List.getElem?_append_right (Nat.le_refl _), Nat.sub_self] at z
      obtain rfl := Option.some.inj e
      obtain rfl := Option.some.inj z
      exact ho
/-- something that is no object of the store changes -/
theorem RS.other (r : RS c μ H S) {p : Addr} {o u : HO} (hp : p ∉ μ) (h : H p = some o) (n : ¬ Perm o) : RS c μ (upd H p u) S :=
  ⟨r.nd, r.len, fun m a q e z => (r.at_ m a q e z).mono (.refl μ) (.upd h n) (upd_ne fun y => hp (y ▸ List.mem_of_getElem? e))⟩
def AI.chk (ai : AI) : M Unit := fun S => if ai.ok S = true then some (.ok (), S) else none
theorem chk_some {ai : AI} {o : Except XV Unit × Store} (h : ai.chk S = some o) : ai.ok S = true ∧ o = (.ok (), S) := by
  unfold AI.chk at h
  split at h
  · rename_i q; exact ⟨q, (Option.some.inj h).symm⟩
  · cases h
def RlOp (c : Ct) : Rl (Option V) (Option AV) := fun μ H v x => match v, x with
  | some v, some x => Va c μ H v x
  | none, none => True
  | _, _ => False
def lcGo (ai : AI) (turn : AV → M (Option AV)) : List AV → List AV → M (List AV)
  | [], acc => ai.chk >>= fun _ => pure acc
  | x :: xs, acc => ai.chk >>= fun _ => turn x >>= fun r => match r with
    | some y => if acc.length < 100000 then lcGo ai turn xs (acc ++ [y]) else M.no
    | none => lcGo ai turn xs acc
def lcTurn (g : AV → Env → M Env) (t : Env → M Bool) (e : Env → M AV) (ρ : Env) (x : AV) : M (Option AV) :=
  g x ρ >>= fun ρ2 => t ρ2 >>= fun b => if b = true then e ρ2 >>= fun y => pure (some y) else pure none
theorem turn_runs {E : XK} {g : XG c} {t : XT c} {e : XE c} {vs : List Nat} {σ : L2.St} {ρ : Env} {v : V} {x : AV} (hv : ∀ i ∈ g.ns, i ∈ vs) (rs : RS c μ H S) (re : RE c μ H σ ρ) (rv : Va c μ H v x) :
    Runs c (RlOp c) E μ H S (fun Q => g.t E v (wipe σ vs) H fun σ2 H2 => wipe σ2 vs = wipe σ vs ∧ t.t E σ2 H2 fun b H3 => if b = true then e.t E σ2 H3 fun y H4 => Q (some y) H4 else Q none H3)
      (lcTurn g.f t.f e.f (wipeA ρ vs) x) :=
  Runs.bind (q := fun σ2 H2 Q => wipe σ2 vs = wipe σ vs ∧ t.t E σ2 H2 fun b H3 => if b = true then e.t E σ2 H3 fun y H4 => Q (some y) H4 else Q none H3)
    (g.sim E μ H S (wipe σ vs) (wipeA ρ vs) v x rs (re.wipe vs) rv) fun μ1 H1 S1 σ1 ρ1 f1 rs1 rg o ho Q hQ =>
      ⟨(rg.2 vs hv).trans (wipe_wipe σ vs), Runs.bind (R' := RlOp c) (q := fun b H3 Q => if b = true then e.t E σ1 H3 fun y H4 => Q (some y) H4 else Q none H3) (t.sim E μ1 H1 σ1 ρ1 S1 rs1 rg.1) (fun μ2 H2 S2 b b' f2 rs2 rb => by
        cases rb
        cases b with
        | true => exact Runs.bind (R' := RlOp c) (q := fun y H4 Q => Q (some y) H4) (e.sim E μ2 H2 σ1 ρ1 S2 rs2 (rg.1.fw rs1 f2)) fun μ3 H3 S3 y y' f3 rs3 ry => Runs.pure rs3 ry
        | false => exact Runs.pure (R := RlOp c) rs2 trivial) o ho Q hQ⟩
theorem Fw.grow {c : Ct} {μ1 μ2 : List Addr} {H1 H2 : Hp} {p : Addr} (f : Fw μ1 H1 μ2 H2) (hp : H1 p = none) : Fw μ1 H1 (μ2 ++ [p]) H2 := by
  obtain ⟨t, e, h⟩ := f.ex
  exact ⟨⟨t ++ [p], by rw [e, List.append_assoc], fun a ha => by
    rcases List.mem_append.mp ha with ha | ha
    · exact h a ha
    · rw [List.mem_singleton] at ha; rw [ha]; exact hp⟩, f.fr, f.fz⟩
theorem Fw.nin {p : Addr} {o : HO} (f : Fw μ H μ' H') (hp : p ∉ μ) (h : H p = some o) : p ∉ μ' ∧ H' p = some o := by
  obtain ⟨t, e, ht⟩ := f.ex
  refine ⟨fun m => ?_, f.fr p o h hp⟩
  rw [e] at m
  rcases List.mem_append.mp m with m | m
  · exact hp m
  · rw [ht p m] at h; cases h
theorem Fw.other {p : Addr} {o u : HO} (h : H p = some o) {μ1 : List Addr} {H1 : Hp} (f : Fw μ1 H1 μ H) (hp : H1 p = none) : Fw μ1 H1 μ (L2.upd H p u) :=
  ⟨f.ex, fun a o e m => by rw [upd_ne (ne_of_none e hp)]; exact f.fr a o e m, fun a o v e => by rw [upd_ne (ne_of_none e hp)]; exact f.fz a o v e⟩
def M.lcEnd (acc : List AV) : M AV := M.new (.lst acc)
def mYes : Env → M Bool := fun _ => pure true
def XT.yes : XT c where
  t := fun _ => tYes
  f := mYes
  sim := fun E μ H σ ρ S rs re => Runs.pure rs rfl
def LcP (c : Ct) (ai : AI) (turn : AV → M (Option AV)) (D : Addr) (μ1 : List Addr) (H1 : Hp) (o : Except XV AV × Store) (i : Nat) (H' : Hp) : Prop :=
  ∃ μ' S' vacc acc, RS c μ' H' S' ∧ Fw μ1 H1 μ' H' ∧ D ∉ μ' ∧ H' D = some (.lst vacc) ∧ VaAll c μ' H' vacc acc ∧ (lcGo ai turn (ai.xs.drop i) acc >>= M.lcEnd) S' = some o
def mLc (w : Env → M AI) (g : AV → Env → M Env) (t : Env → M Bool) (e : Env → M AV) (vs : List Nat) : Env → M AV := fun ρ => w ρ >>= fun ai => lcGo ai (lcTurn g t e (wipeA ρ vs)) ai.xs [] >>= M.lcEnd
def XE.lc (w : XI c) (g : XG c) (t : XT c) (e : XE c) (vs : List Nat) (hv : ∀ i ∈ g.ns, i ∈ vs) : XE c where
  t := fun E => tLc (w.t E) (g.t E) (t.t E) (e.t E) vs
  f := mLc w.f g.f t.f e.f vs
  sim := fun E μ H σ ρ S rs re => (w.sim E μ H σ ρ S rs re).bind fun μ1 H1 S1 J ai f1 rs1 rJ o ho Q hQ => by
    obtain ⟨G, hG, wk⟩ := rJ
    intro D hD
    have re1 := re.fw rs f1
    have rsD : RS c μ1 (upd H1 D (.lst [])) S1 := rs1.put hD
    have nD : D ∉ μ1 := rs1.nin hD
    refine lc_it wk (LcP c ai (lcTurn g.f t.f e.f (wipeA ρ vs)) D μ1 H1 o)
      ⟨μ1, S1, [], [], rsD, .put hD, nD, upd_same, .nil, ho⟩ ?_ ?_ ?_
    · rintro i H' hi ⟨μ', S', vacc, acc, rs', fw, nd, hd, ra, hm⟩
      have ok : ai.ok S' = true := by
        cases q : ai.xs.drop i with
        | nil =>
          rw [q] at hm
          unfold lcGo at hm
          rcases bind_some hm with ⟨r, S2, h1, h2⟩ | ⟨x, S2, h1, h2⟩
          · rcases bind_some h1 with ⟨u, S3, h3, h4⟩ | ⟨x, S3, h3, h4⟩
            · exact (chk_some h3).1
            · exact (chk_some h3).1
          · rcases bind_some h1 with ⟨u, S3, h3, h4⟩ | ⟨x, S3, h3, h4⟩
            · exact (chk_some h3).1
            · exact (chk_some h3).1
        | cons y ys =>
          rw [q] at hm
          unfold lcGo at hm
          rcases bind_some hm with ⟨r, S2, h1, h2⟩ | ⟨x, S2, h1, h2⟩
          · rcases bind_some h1 with ⟨u, S3, h3, h4⟩ | ⟨x, S3, h3, h4⟩
            · exact (chk_some h3).1
            · exact (chk_some h3).1
          · rcases bind_some h1 with ⟨u, S3, h3, h4⟩ | ⟨x, S3, h3, h4⟩
            · exact (chk_some h3).1
            · exact (chk_some h3).1
      exact hG μ' H' S' fw.pre (rs1.psF fw) rs' ok
    · rintro i v Ha Hb hi ⟨μ', S', vacc, acc, rs', fw, nd, hd, ra, hm⟩ ⟨nw, hy⟩
      have hx : ai.xs.drop i = ai.xs[i] :: ai.xs.drop (i + 1) := List.drop_eq_getElem_cons hi
      rw [hx] at hm
      unfold lcGo at hm
      rw [assoc] at hm
      rcases bind_some hm with ⟨u, S2, h1, h2⟩ | ⟨x, S2, h1, h2⟩
      · obtain ⟨ok, e1⟩ := chk_some h1
        cases e1
        obtain ⟨y, hy1, hy2⟩ := hy μ' S' fw.pre (rs1.psF fw) rs' ok
        rw [List.getElem?_eq_getElem hi] at hy1
        obtain rfl := Option.some.inj hy1
        have rsb : RS c μ' Hb S' := nw.rs rs'
        have fwb : Fw μ1 H1 μ' Hb := fw.trans rs' nw.fw
        have hdb := (nw.fw (μ := μ')).nin nd hd
        have tr := turn_runs (E := E) (t := t) (e := e) hv rsb (re1.fw rs1 fwb) hy2
        rw [assoc] at h2
        rcases bind_some h2 with ⟨r, S3, h3, h4⟩ | ⟨x, S3, h3, h4⟩
        · refine tr _ h3 (fun r H4 => match r with
            | some y => ∃ acc, H4 D = some (.lst acc) ∧ acc.length < sizeLine ∧ LcP c ai (lcTurn g.f t.f e.f (wipeA ρ vs)) D μ1 H1 o (i + 1) (L2.upd H4 D (.lst (acc ++ [y])))
            | none => LcP c ai (lcTurn g.f t.f e.f (wipeA ρ vs)) D μ1 H1 o (i + 1) H4) ?_
          rintro w μ3 H3 f3 rs3 rw3
          obtain ⟨nd3, hd3⟩ := f3.nin hdb.1 hdb.2
          cases r with
          | none =>
            cases w with
            | some _ => exact rw3.elim
            | none => exact ⟨μ3, S3, vacc, acc, rs3, fwb.trans rsb f3, nd3, hd3, (ra.fw rs' nw.fw).fw rsb f3, h4⟩
          | some y =>
            cases w with
            | none => exact rw3.elim
            | some w =>
              simp only at h4
              split at h4
              · rename_i hlen
                have ra3 := (ra.fw rs' nw.fw).fw rsb f3
                refine ⟨vacc, hd3, sz_lt (by rw [ra.length]; exact hlen), μ3, S3, vacc ++ [w], acc ++ [y], rs3.other nd3 hd3 (fun z => z), Fw.other hd3 (fwb.trans rsb f3) hD, nd3, upd_same, ?_, h4⟩
                exact (ra3.append (.one rw3)).mono (.refl _) (.upd hd3 fun z => z)
              · cases h4
        · subst h4
          refine tr _ h3 (fun r H4 => match r with
            | some y => ∃ acc, H4 D = some (.lst acc) ∧ acc.length < sizeLine ∧ LcP c ai (lcTurn g.f t.f e.f (wipeA ρ vs)) D μ1 H1 (.error x, S3) (i + 1) (L2.upd H4 D (.lst (acc ++ [y])))
            | none => LcP c ai (lcTurn g.f t.f e.f (wipeA ρ vs)) D μ1 H1 (.error x, S3) (i + 1) H4) ?_
          intro cls d μ3 H3 f3 rs3 rx
          exact hQ cls d μ3 H3 (fwb.trans rsb f3) rs3 rx
      · obtain ⟨ok, e1⟩ := chk_some h1
        cases e1
    · rintro H' ⟨μ', S', vacc, acc, rs', fw, nd, hd, ra, hm⟩
      rw [List.drop_length] at hm
      unfold lcGo at hm
      rcases bind_some hm with ⟨r, S2, h1, h2⟩ | ⟨x, S2, h1, h2⟩
      · rcases bind_some h1 with ⟨u, S3, h3, h4⟩ | ⟨x, S3, h3, h4⟩
        · obtain ⟨_, e1⟩ := chk_some h3
          cases e1
          cases pure_some h4
          unfold M.lcEnd M.new at h2
          obtain rfl := (Option.some.inj h2).symm
          refine hQ _ (μ' ++ [D]) H' (fw.grow (c := c) hD) (rs'.adopt nd ⟨vacc, hd, ra.mono ⟨[D], rfl⟩ (.refl _)⟩) (.loc ?_)
          rw [← rs'.len, List.getElem?_append_right (Nat.le_refl _), Nat.sub_self]; rfl
        · obtain ⟨_, e1⟩ := chk_some h3
          cases e1
      · rcases bind_some h1 with ⟨u, S3, h3, h4⟩ | ⟨x, S3, h3, h4⟩
        · cases pure_some h4
        · obtain ⟨_, e1⟩ := chk_some h3
          cases e1
/-! dict comprehensions -/
theorem dc_it {J : It} {n : Nat} {G : Hp → Prop} {Y : Nat → Hp → V → Hp → Prop} (w : Walk J n G Y) {g : TG} {tt : TT} {tk te : TE} {vs : List Nat} {σ : L2.St} {H1 : Hp} {D : Addr} {Qd : Hp → Prop} (Pv : Nat → Hp → Prop) (h0 : Pv 0 (upd H1 D (.dK []))) (hG : ∀ i H, i ≤ n → Pv i H → G H)
    (hs : ∀ i x H H', i < n → Pv i H → Y i H x H' → g x (wipe σ vs) H' fun σ2 H2 => wipe σ2 vs = wipe σ vs ∧ tt σ2 H2 fun b H3 =>
      if b = true then tk σ2 H3 fun y H4 => te σ2 H4 fun z H5 => ∃ kvs k, y = kV k ∧ H5 D = some (.dK kvs) ∧ kvs.length < sizeLine ∧ Pv (i + 1) (upd H5 D (.dK (putK kvs k z))) else Pv (i + 1) H3) (hd : ∀ H, Pv n H → Qd H) :
    ∃ W : Nat → Nat → Hp → Prop, (∃ m, W 0 m (upd H1 D (.dK []))) ∧ ∀ i m H, W i m H →
      (J.stop i H ∧ Qd H) ∨ (J.go i H ∧ ∃ Nx : Hp → Prop, (∀ H', Nx H' → ∃ m', m' < m ∧ W (i + 1) m' H') ∧ ∀ x H', J.yld i H x H' → g x (wipe σ vs) H' fun σ2 H2 => wipe σ2 vs = wipe σ vs ∧ tt σ2 H2 fun b H3 =>
        if b = true then tk σ2 H3 fun y H4 => te σ2 H4 fun z H5 => ∃ kvs k, y = kV k ∧ H5 D = some (.dK kvs) ∧ kvs.length < sizeLine ∧ Nx (upd H5 D (.dK (putK kvs k z))) else Nx H3) := by
  refine ⟨fun i m H => m = n - i ∧ i ≤ n ∧ Pv i H, ⟨n, by simp, Nat.zero_le _, h0⟩, ?_⟩
  rintro i m H ⟨rfl, hi, p⟩
  have q := hG i H hi p
  by_cases hlt : i < n
  · exact .inr ⟨w.goes i H hlt q, Pv (i + 1), fun H' p' => ⟨n - (i + 1), by omega, rfl, hlt, p'⟩, fun x H' y => hs i x H H' hlt p (w.yields i H x H' hlt q y)⟩
  · have e : i = n := by omega
    subst e
    exact .inl ⟨w.stops H q, hd H p⟩
def RlOp2 (c : Ct) : Rl (Option (V × V)) (Option (AV × AV)) := fun μ H v x => match v, x with
  | some v, some x => Va c μ H v.1 x.1 ∧ Va c μ H v.2 x.2
  | none, none => True
  | _, _ => False
def dcGo (ai : AI) (turn : AV → M (Option (AV × AV))) : List AV → List (Key × AV) → M (List (Key × AV))
  | [], acc => ai.chk >>= fun _ => pure acc
  | x :: xs, acc => ai.chk >>= fun _ => turn x >>= fun r => match r with
    | some y => match toKey y.1 with
      | some k => if acc.length < 100000 then dcGo ai turn xs (setK acc k y.2) else M.no
      | none => M.no
    | none => dcGo ai turn xs acc
def dcTurn (g : AV → Env → M Env) (t : Env → M Bool) (k e : Env → M AV) (ρ : Env) (x : AV) : M (Option (AV × AV)) :=
  g x ρ >>= fun ρ2 => t ρ2 >>= fun b => if b = true then k ρ2 >>= fun y => e ρ2 >>= fun z => pure (some (y, z)) else pure none
theorem turn_runs2 {E : XK} {g : XG c} {t : XT c} {k e : XE c} {vs : List Nat} {σ : L2.St} {ρ : Env} {v : V} {x : AV} (hv : ∀ i ∈ g.ns, i ∈ vs) (rs : RS c μ H S) (re : RE c μ H σ ρ) (rv : Va c μ H v x) :
    Runs c (RlOp2 c) E μ H S (fun Q => g.t E v (wipe σ vs) H fun σ2 H2 => wipe σ2 vs = wipe σ vs ∧ t.t E σ2 H2 fun b H3 => if b = true then k.t E σ2 H3 fun y H4 => e.t E σ2 H4 fun z H5 => Q (some (y, z)) H5 else Q none H3)
      (dcTurn g.f t.f k.f e.f (wipeA ρ vs) x) :=
  Runs.bind (q := fun σ2 H2 Q => wipe σ2 vs = wipe σ vs ∧ t.t E σ2 H2 fun b H3 => if b = true then k.t E σ2 H3 fun y H4 => e.t E σ2 H4 fun z H5 => Q (some (y, z)) H5 else Q none H3)
    (g.sim E μ H S (wipe σ vs) (wipeA ρ vs) v x rs (re.wipe vs) rv) fun μ1 H1 S1 σ1 ρ1 f1 rs1 rg o ho Q hQ =>
      ⟨(rg.2 vs hv).trans (wipe_wipe σ vs), Runs.bind (R' := RlOp2 c) (q := fun b H3 Q => if b = true then k.t E σ1 H3 fun y H4 => e.t E σ1 H4 fun z H5 => Q (some (y, z)) H5 else Q none H3) (t.sim E μ1 H1 σ1 ρ1 S1 rs1 rg.1) (fun μ2 H2 S2 b b' f2 rs2 rb => by
        cases rb
        cases b with
        | true => exact Runs.bind (R' := RlOp2 c) (q := fun y H4 Q => e.t E σ1 H4 fun z H5 => Q (some (y, z)) H5) (k.sim E μ2 H2 σ1 ρ1 S2 rs2 (rg.1.fw rs1 f2)) fun μ3 H3 S3 y y' f3 rs3 ry =>
            Runs.bind (R' := RlOp2 c) (q := fun z H4 Q => Q (some (y, z)) H4) (e.sim E μ3 H3 σ1 ρ1 S3 rs3 ((rg.1.fw rs1 f2).fw rs2 f3)) fun μ4 H4 S4 z z' f4 rs4 rz => Runs.pure (R := RlOp2 c) rs4 ⟨ry.fw rs3 f4, rz⟩
        | false => exact Runs.pure (R := RlOp2 c) rs2 trivial) o ho Q hQ⟩
def M.dcEnd (acc : List (Key × AV)) : M AV := M.new (.dct acc false)
def DcP (c : Ct) (ai : AI) (turn : AV → M (Option (AV × AV))) (D : Addr) (μ1 : List Addr) (H1 : Hp) (o : Except XV AV × Store) (i : Nat) (H' : Hp) : Prop :=
  ∃ μ' S' vacc acc, RS c μ' H' S' ∧ Fw μ1 H1 μ' H' ∧ D ∉ μ' ∧ H' D = some (.dK vacc) ∧ VaP c μ' H' vacc acc ∧ (dcGo ai turn (ai.xs.drop i) acc >>= M.dcEnd) S' = some o
theorem VaP.fw (rs : RS c μ H S) (f : Fw μ H μ' H') {κ : Type} {v : List (κ × V)} {x : List (κ × AV)} (r : VaP c μ H v x) : VaP c μ' H' v x := r.mono f.pre (rs.psF f)
def mDc (w : Env → M AI) (g : AV → Env → M Env) (t : Env → M Bool) (k e : Env → M AV) (vs : List Nat) : Env → M AV := fun ρ => w ρ >>= fun ai => dcGo ai (dcTurn g t k e (wipeA ρ vs)) ai.xs [] >>= M.dcEnd
def XE.dc (w : XI c) (g : XG c) (t : XT c) (k e : XE c) (vs : List Nat) (hv : ∀ i ∈ g.ns, i ∈ vs) : XE c where
  t := fun E => tDc (w.t E) (g.t E) (t.t E) (k.t E) (e.t E) vs
  f := mDc w.f g.f t.f k.f e.f vs
  sim := fun E μ H σ ρ S rs re => (w.sim E μ H σ ρ S rs re).bind fun μ1 H1 S1 J ai f1 rs1 rJ o ho Q hQ => by
    obtain ⟨G, hG, wk⟩ := rJ
    intro D hD
    have re1 := re.fw rs f1
    have rsD : RS c μ1 (upd H1 D (.dK [])) S1 := rs1.put hD
    have nD : D ∉ μ1 := rs1.nin hD
    refine dc_it wk (DcP c ai (dcTurn g.f t.f k.f e.f (wipeA ρ vs)) D μ1 H1 o)
      ⟨μ1, S1, [], [], rsD, .put hD, nD, upd_same, .nil, ho⟩ ?_ ?_ ?_
    · rintro i H' hi ⟨μ', S', vacc, acc, rs', fw, nd, hd, ra, hm⟩
      have ok : ai.ok S' = true := by
        cases q : ai.xs.drop i with
        | nil =>
          rw [q] at hm
          unfold dcGo at hm
          rw [assoc] at hm
          rcases bind_some hm with ⟨r, S2, h1, h2⟩ | ⟨x, S2, h1, h2⟩ <;> exact (chk_some h1).1
        | cons y ys =>
          rw [q] at hm
          unfold dcGo at hm
          rw [assoc] at hm
          rcases bind_some hm with ⟨r, S2, h1, h2⟩ | ⟨x, S2, h1, h2⟩ <;> exact (chk_some h1).1
      exact hG μ' H' S' fw.pre (rs1.psF fw) rs' ok
    · rintro i v Ha Hb hi ⟨μ', S', vacc, acc, rs', fw, nd, hd, ra, hm⟩ ⟨nw, hy⟩
      have hx : ai.xs.drop i = ai.xs[i] :: ai.xs.drop (i + 1) := List.drop_eq_getElem_cons hi
      rw [hx] at hm
      unfold dcGo at hm
      rw [assoc] at hm
      rcases bind_some hm with ⟨u, S2, h1, h2⟩ | ⟨x, S2, h1, h2⟩
      · obtain ⟨ok, e1⟩ := chk_some h1
        cases e1
        obtain ⟨y, hy1, hy2⟩ := hy μ' S' fw.pre (rs1.psF fw) rs' ok
        rw [List.getElem?_eq_getElem hi] at hy1
        obtain rfl := Option.some.inj hy1
        have rsb : RS c μ' Hb S' := nw.rs rs'
        have fwb : Fw μ1 H1 μ' Hb := fw.trans rs' nw.fw
        have hdb := (nw.fw (μ := μ')).nin nd hd
        have tr := turn_runs2 (E := E) (t := t) (k := k) (e := e) hv rsb (re1.fw rs1 fwb) hy2
        rw [assoc] at h2
        rcases bind_some h2 with ⟨r, S3, h3, h4⟩ | ⟨x, S3, h3, h4⟩
        · refine tr _ h3 (fun r H5 => match r with
            | some (y, z) => ∃ kvs k', y = kV k' ∧ H5 D = some (.dK kvs) ∧ kvs.length < sizeLine ∧ DcP c ai (dcTurn g.f t.f k.f e.f (wipeA ρ vs)) D μ1 H1 o (i + 1) (L2.upd H5 D (.dK (putK kvs k' z)))
            | none => DcP c ai (dcTurn g.f t.f k.f e.f (wipeA ρ vs)) D μ1 H1 o (i + 1) H5) ?_
          rintro w μ3 H3 f3 rs3 rw3
          obtain ⟨nd3, hd3⟩ := f3.nin hdb.1 hdb.2
          cases r with
          | none =>
            cases w with
            | some _ => exact rw3.elim
            | none => exact ⟨μ3, S3, vacc, acc, rs3, fwb.trans rsb f3, nd3, hd3, (ra.fw rs' nw.fw).fw rsb f3, h4⟩
          | some y =>
            cases w with
            | none => exact rw3.elim
            | some w =>
              simp only at h4
              cases hk : toKey y.1 with
              | none => rw [hk] at h4; cases h4
              | some k' =>
                rw [hk] at h4
                simp only at h4
                split at h4
                · rename_i hlen
                  have ra3 := (ra.fw rs' nw.fw).fw rsb f3
                  refine ⟨vacc, k', toKey_eq rw3.1 hk, hd3, sz_lt (by rw [ra.length]; exact hlen), μ3, S3, putK vacc k' w.2, setK acc k' y.2, rs3.other nd3 hd3 (fun z => z), Fw.other hd3 (fwb.trans rsb f3) hD, nd3, upd_same, ?_, h4⟩
                  exact (ra3.put k' rw3.2).mono (.refl _) (.upd hd3 fun z => z)
                · cases h4
        · subst h4
          refine tr _ h3 (fun r H5 => match r with
            | some (y, z) => ∃ kvs k', y = kV k' ∧ H5 D = some (.dK kvs) ∧ kvs.length < sizeLine ∧ DcP c ai (dcTurn g.f t.f k.f e.f (wipeA ρ vs)) D μ1 H1 (.error x, S3) (i + 1) (L2.upd H5 D (.dK (putK kvs k' z)))
            | none => DcP c ai (dcTurn g.f t.f k.f e.f (wipeA ρ vs)) D μ1 H1 (.error x, S3) (i + 1) H5) ?_
          intro cls d μ3 H3 f3 rs3 rx
          exact hQ cls d μ3 H3 (fwb.trans rsb f3) rs3 rx
      · obtain ⟨ok, e1⟩ := chk_some h1
        cases e1
    · rintro H' ⟨μ', S', vacc, acc, rs', fw, nd, hd, ra, hm⟩
      rw [List.drop_length] at hm
      unfold dcGo at hm
      rw [assoc] at hm
      rcases bind_some hm with ⟨r, S2, h1, h2⟩ | ⟨x, S2, h1, h2⟩
      · obtain ⟨_, e1⟩ := chk_some h1
        cases e1
        have h2 : M.dcEnd acc S' = some o := h2
        unfold M.dcEnd M.new at h2
        obtain rfl := (Option.some.inj h2).symm
        refine hQ _ (μ' ++ [D]) H' (fw.grow (c := c) hD) (rs'.adopt nd ⟨vacc, hd, ra.mono ⟨[D], rfl⟩ (.refl _)⟩) (.loc ?_)
        rw [← rs'.len, List.getElem?_append_right (Nat.le_refl _), Nat.sub_self]; rfl
      · obtain ⟨_, e1⟩ := chk_some h1
        cases e1
/-! ### calls of defs -/
/-- the promise of a def that computes g -/
def spI (c : Ct) (g : List AV → M AV) : Sp := fun vs H Q E => ∃ μ S xs o, RS c μ H S ∧ VaAll c μ H vs xs ∧ g xs S = some o ∧ Ends1 c (Va c) μ H E Q o
def XE.call (g : List AV → M AV) (a : XA c) : XE c where
  t := fun E => tCall (spI c g) [] E (a.t E)
  f := mCb g a.f
  sim := fun E μ H σ ρ S rs re => (a.sim E μ H σ ρ S rs re).bind fun μ1 H1 S1 vs xs f1 rs1 rv o ho Q hQ => by
    show spI c g (vs ++ []) H1 Q E
    rw [List.append_nil]
    exact ⟨μ1, S1, xs, o, rs1, rv, ho, hQ⟩
def insM (C : Nat) (m : Str) (x : AV) : M Unit := fun S => match x with
  | .loc n => match S[n]? with
    | some (.ins D fs) => if D = C ∧ fs.lookup m = none then some (.ok (), S) else none
    | _ => none
  | _ => none
def mMeth (C : Nat) (m : Str) (g : List AV → M AV) (o : Env → M AV) (a : Env → M (List AV)) : Env → M AV := fun ρ => do let x ← o ρ; insM C m x; let xs ← a ρ; g (x :: xs)
def XE.meth (C : Nat) (m : Str) (g : List AV → M AV) (o : XE c) (a : XA c) : XE c where
  t := fun E => tMeth (c.cl C) m (spI c g) [] E (o.t E) (a.t E)
  f := mMeth C m g o.f a.f
  sim := fun E μ H σ ρ S rs re => (o.sim E μ H σ ρ S rs re).bind fun μ1 H1 S1 v x f1 rs1 rv z hz Q hQ => by
    rcases bind_some hz with ⟨u, S2, h1, h2⟩ | ⟨x', S2, h1, h2⟩
    · unfold insM at h1
      cases rv with
      | loc e =>
        simp only at h1
        split at h1
        · rename_i D fs q
          split at h1
          · rename_i hD
            obtain ⟨rfl, hl⟩ := hD
            cases h1
            obtain ⟨dx, vs, h3, h4⟩ := rs1.get e q
            refine ⟨_, dx, vs, rfl, h3, h4.lookup0 hl, ?_⟩
            refine (Runs.bind (R' := Va c) (q := fun vs H2 Q => spI c g (V.ref _ :: (vs ++ [])) H2 Q E) (a.sim E μ1 H1 σ ρ S1 rs1 (re.fw rs f1)) fun μ2 H2 S2 ws xs f2 rs2 rws => ?_) z h2 Q hQ
            intro o' ho' Q' hQ'
            show spI c g (_ :: (ws ++ [])) H2 Q' E
            rw [List.append_nil]
            exact ⟨μ2, S2, _, o', rs2, .cons ((Va.loc e).fw rs1 f2) rws, ho', hQ'⟩
          · cases h1
        · cases h1
      | _ => cases h1
    · unfold insM at h1
      cases rv with
      | loc e =>
        simp only at h1
        split at h1
        · split at h1 <;> cases h1
        · cases h1
      | _ => cases h1
def nonM (p r : AV) : M AV := match r with
  | .non => pure p
  | _ => M.no
def mMake (C : Nat) (g : List AV → M AV) (a : Env → M (List AV)) : Env → M AV := fun ρ => do let xs ← a ρ; let p ← M.new (.ins C []); let r ← g (p :: xs); nonM p r
def XE.make (C : Nat) (g : List AV → M AV) (a : XA c) : XE c where
  t := fun E => tMake (c.cl C) (spI c g) [] E (a.t E)
  f := mMake C g a.f
  sim := fun E μ H σ ρ S rs re => (a.sim E μ H σ ρ S rs re).bind fun μ1 H1 S1 vs xs f1 rs1 rv z hz Q hQ => by
    intro x dx hx hdx hne
    rw [List.append_nil]
    have hx1 : (L2.upd H1 dx (.own x)) x = none := by rw [upd_ne (fun e => hne e.symm)]; exact hx
    have rs2 : RS c μ1 (L2.upd H1 dx (.own x)) S1 := rs1.put hdx
    have rs3 : RS c (μ1 ++ [x]) (L2.upd (L2.upd H1 dx (.own x)) x (.ins (c.cl C) dx [])) (S1 ++ [.ins C []]) := rs2.new hx1 ⟨dx, [], upd_same, .nil⟩
    have fA : Fw μ1 H1 μ1 (L2.upd H1 dx (.own x)) := .put hdx
    have fB : Fw μ1 (L2.upd H1 dx (.own x)) (μ1 ++ [x]) (L2.upd (L2.upd H1 dx (.own x)) x (.ins (c.cl C) dx [])) := .new hx1
    have fC := fA.trans rs2 fB
    have va : Va c (μ1 ++ [x]) (L2.upd (L2.upd H1 dx (.own x)) x (.ins (c.cl C) dx [])) (.ref x) (.loc S1.length) := .loc (by rw [← rs1.len, List.getElem?_append_right (Nat.le_refl _), Nat.sub_self]; rfl)
    have hz : (g (.loc S1.length :: xs) >>= fun r => nonM (.loc S1.length) r) (S1 ++ [.ins C []]) = some z := hz
    rcases bind_some hz with ⟨r, S2, h1, h2⟩ | ⟨x', S2, h1, h2⟩
    · refine ⟨_, _, _, _, rs3, .cons va (rv.fw rs1 fC), h1, ?_⟩
      intro v μ4 H4 f4 rs4 rv4
      unfold nonM at h2
      cases rv4 with
      | non =>
        obtain rfl := pure_some h2
        exact ⟨rfl, hQ _ μ4 H4 (fC.trans rs3 f4) rs4 (va.fw rs3 f4)⟩
      | _ => cases h2
    · subst h2
      refine ⟨_, _, _, _, rs3, .cons va (rv.fw rs1 fC), h1, ?_⟩
      intro cls d μ4 H4 f4 rs4 rx
      exact hQ cls d μ4 H4 (fC.trans rs3 f4) rs4 rx
end
end CI

set_option Elab.async false
set_option linter.all false
set_option maxRecDepth 100000
set_option maxHeartbeats 4000000
/-! statements, defs -/
namespace CI
open PySem PySem.Spec PyProof.Rows L2 Evl
inductive Fl where
  | nx (ρ : Env) | rt (x : AV) | bk (ρ : Env) | ct (ρ : Env)
def EndsS (c : Ct) (μ : List Addr) (H : Hp) (E : XK) (D : Ends) : Except XV Fl × Store → Prop
  | (.ok (.nx ρ'), S') => ∀ σ' μ' H', Fw μ H μ' H' → RS c μ' H' S' → RE c μ' H' σ' ρ' → D.nx σ' H'
  | (.ok (.bk ρ'), S') => ∀ σ' μ' H', Fw μ H μ' H' → RS c μ' H' S' → RE c μ' H' σ' ρ' → D.bk σ' H'
  | (.ok (.ct ρ'), S') => ∀ σ' μ' H', Fw μ H μ' H' → RS c μ' H' S' → RE c μ' H' σ' ρ' → D.ct σ' H'
  | (.ok (.rt x), S') => ∀ v μ' H', Fw μ H μ' H' → RS c μ' H' S' → Va c μ' H' v x → D.rt v H'
  | (.error x, S') => ∀ cls d μ' H', Fw μ H μ' H' → RS c μ' H' S' → XR c μ' H' cls d x → E cls d H'
structure XS (c : Ct) where
  t : XK → TS
  f : Env → M Fl
  sim : ∀ E μ H σ ρ S, RS c μ H S → RE c μ H σ ρ → ∀ o, f ρ S = some o → ∀ D, EndsS c μ H E D o → t E D σ H
section
variable {c : Ct} {μ μ' : List Addr} {H H' : Hp} {S S' : Store} {E : XK} {D : Ends}
theorem EndsS.later (f : Fw μ H μ' H') (rs : RS c μ' H' S') : ∀ {o : Except XV Fl × Store}, EndsS c μ H E D o → EndsS c μ' H' E D o
  | (.ok (.nx ρ'), _), h => fun σ2 μ2 H2 f2 => h σ2 μ2 H2 (f.trans rs f2)
  | (.ok (.bk ρ'), _), h => fun σ2 μ2 H2 f2 => h σ2 μ2 H2 (f.trans rs f2)
  | (.ok (.ct ρ'), _), h => fun σ2 μ2 H2 f2 => h σ2 μ2 H2 (f.trans rs f2)
  | (.ok (.rt x), _), h => fun v μ2 H2 f2 => h v μ2 H2 (f.trans rs f2)
  | (.error x, _), h => fun v d μ2 H2 f2 => h v d μ2 H2 (f.trans rs f2)
/-- first an expression or the like, then a statement -/
theorem thenS {A B : Type} {R : Rl B A} {p : (B → Hp → Prop) → Prop} {m : M A} {k : A → M Fl} {o : Except XV Fl × Store} (h : Runs c R E μ H S p m) (ho : (m >>= k) S = some o) (hD : EndsS c μ H E D o) {q : B → Hp → Prop}
    (hk : ∀ μ' H' S' v x, Fw μ H μ' H' → RS c μ' H' S' → R μ' H' v x → k x S' = some o → EndsS c μ' H' E D o → q v H') : p q := by
  rcases bind_some ho with ⟨a, S1, h1, h2⟩ | ⟨x, S1, h1, h2⟩
  · exact h _ h1 _ fun v μ' H' f rs rv => hk μ' H' S1 v a f rs rv h2 (hD.later f rs)
  · subst h2
    exact h _ h1 _ hD
def msNext : Env → M Fl := fun ρ => pure (.nx ρ)
def XS.next : XS c where
  t := fun _ => tNext
  f := msNext
  sim := fun E μ H σ ρ S rs re o ho D hD => by
    obtain rfl := pure_some ho
    exact hD σ μ H (.refl _ _) rs re
def msBrk : Env → M Fl := fun ρ => pure (.bk ρ)
def XS.brk : XS c where
  t := fun _ => tBreak
  f := msBrk
  sim := fun E μ H σ ρ S rs re o ho D hD => by
    obtain rfl := pure_some ho
    exact hD σ μ H (.refl _ _) rs re
def msCont : Env → M Fl := fun ρ => pure (.ct ρ)
def XS.cont : XS c where
  t := fun _ => tCont
  f := msCont
  sim := fun E μ H σ ρ S rs re o ho D hD => by
    obtain rfl := pure_some ho
    exact hD σ μ H (.refl _ _) rs re
def msNever : Env → M Fl := fun _ => M.no
/-- never reached -/
def XS.never : XS c where
  t := fun _ => tNever
  f := msNever
  sim := fun E μ H σ ρ S rs re o ho D hD => by cases ho
def seqK (k : Env → M Fl) (fl : Fl) : M Fl := match fl with
  | .nx ρ => k ρ
  | fl => pure fl
def msSeq (a b : Env → M Fl) : Env → M Fl := fun ρ => a ρ >>= seqK b
def XS.seq (a b : XS c) : XS c where
  t := fun E => tSeq (a.t E) (b.t E)
  f := msSeq a.f b.f
  sim := fun E μ H σ ρ S rs re o ho D hD => by
    rcases bind_some ho with ⟨fl, S1, h1, h2⟩ | ⟨x, S1, h1, h2⟩
    · refine a.sim E μ H σ ρ S rs re _ h1 { D with nx := b.t E D } ?_
      cases fl with
      | nx ρ' => exact fun σ' μ' H' f rs' re' => b.sim E μ' H' σ' ρ' S1 rs' re' o h2 D (hD.later f rs')
      | rt x => obtain rfl := pure_some h2; exact hD
      | bk x => obtain rfl := pure_some h2; exact hD
      | ct x => obtain rfl := pure_some h2; exact hD
    · subst h2
      exact a.sim E μ H σ ρ S rs re _ h1 { D with nx := b.t E D } hD
def msAsg (e : Env → M AV) (g : AV → Env → M Env) : Env → M Fl := fun ρ => e ρ >>= fun x => g x ρ >>= fun ρ' => pure (.nx ρ')
def XS.asg (e : XE c) (g : XG c) : XS c where
  t := fun E => tAsg (e.t E) (g.t E)
  f := msAsg e.f g.f
  sim := fun E μ H σ ρ S rs re o ho D hD => thenS (e.sim E μ H σ ρ S rs re) ho hD fun μ1 H1 S1 v x f1 rs1 rv h1 hD1 =>
    thenS (g.sim E μ1 H1 S1 σ ρ v x rs1 (re.fw rs f1) rv) h1 hD1 fun μ2 H2 S2 σ' ρ' f2 rs2 rg h2 hD2 => by
      obtain rfl := pure_some h2
      exact hD2 σ' μ2 H2 (.refl _ _) rs2 rg.1
def msDrop (e : Env → M AV) : Env → M Fl := fun ρ => e ρ >>= fun _ => pure (.nx ρ)
def XS.drop (e : XE c) : XS c where
  t := fun E => tDrop (e.t E)
  f := msDrop e.f
  sim := fun E μ H σ ρ S rs re o ho D hD => thenS (e.sim E μ H σ ρ S rs re) ho hD fun μ1 H1 S1 v x f1 rs1 rv h1 hD1 => by
    obtain rfl := pure_some h1
    exact hD1 σ μ1 H1 (.refl _ _) rs1 (re.fw rs f1)
def msRet (e : Env → M AV) : Env → M Fl := fun ρ => e ρ >>= fun x => pure (.rt x)
def XS.ret (e : XE c) : XS c where
  t := fun E => tRet (e.t E)
  f := msRet e.f
  sim := fun E μ H σ ρ S rs re o ho D hD => thenS (e.sim E μ H σ ρ S rs re) ho hD fun μ1 H1 S1 v x f1 rs1 rv h1 hD1 => by
    obtain rfl := pure_some h1
    exact hD1 v μ1 H1 (.refl _ _) rs1 rv
def msRetN : Env → M Fl := fun ρ => pure (.rt .non)
def XS.retN : XS c where
  t := fun _ => tRetN
  f := msRetN
  sim := fun E μ H σ ρ S rs re o ho D hD => by
    obtain rfl := pure_some ho
    exact hD .non μ H (.refl _ _) rs .non
def msIte (t : Env → M Bool) (a b : Env → M Fl) : Env → M Fl := fun ρ => t ρ >>= fun b' => if b' = true then a ρ else b ρ
def XS.ite (t : XT c) (a b : XS c) : XS c where
  t := fun E => tIfS (t.t E) (a.t E) (b.t E)
  f := msIte t.f a.f b.f
  sim := fun E μ H σ ρ S rs re o ho D hD => thenS (t.sim E μ H σ ρ S rs re) ho hD fun μ1 H1 S1 v x f1 rs1 rv h1 hD1 => by
    cases rv
    cases v with
    | true => exact a.sim E μ1 H1 σ ρ S1 rs1 (re.fw rs f1) o h1 D hD1
    | false => exact b.sim E μ1 H1 σ ρ S1 rs1 (re.fw rs f1) o h1 D hD1
def msPar (i j : Nat) (a : Env → M (List AV)) : Env → M Fl := fun ρ => a ρ >>= fun xs => match xs with
    | [x, y] => pure (.nx ((ρ.set i (some x)).set j (some y)))
    | _ => M.no
def XS.par (i j : Nat) (a : XA c) : XS c where
  t := fun E => tPar i j (a.t E)
  f := msPar i j a.f
  sim := fun E μ H σ ρ S rs re o ho D hD => thenS (a.sim E μ H σ ρ S rs re) ho hD fun μ1 H1 S1 vs xs f1 rs1 rv h1 hD1 => by
    cases rv with
    | nil => cases h1
    | cons r1 r2 =>
      cases r2 with
      | nil => cases h1
      | cons r2 r3 =>
        cases r3 with
        | cons _ _ => cases h1
        | nil =>
          obtain rfl := pure_some h1
          exact ⟨_, _, rfl, hD1 _ μ1 H1 (.refl _ _) rs1 (((re.fw rs f1).set r1 i).set r2 j)⟩
/-! o.f = e -/
def putF (f : Str) (x : AV) : List (Str × AV) → List (Str × AV)
  | [] => [(f, x)]
  | (g, y) :: r => if g = f then (g, x) :: r else (g, y) :: putF f x r
theorem VaP.putF {vs : List (Str × V)} {xs : List (Str × AV)} (h : VaP c μ H vs xs) (f : Str) {v : V} {x : AV} (r : Va c μ H v x) : VaP c μ H (L2.putF f v vs) (CI.putF f x xs) := by
  induction h with
  | nil => exact .cons r .nil
  | @cons k w ws y ys a t ih =>
    unfold L2.putF CI.putF
    by_cases q : k = f
    · rw [if_pos q, if_pos q]; exact .cons r t
    · rw [if_neg q, if_neg q]; exact .cons a ih
def setF (C : Nat) (f : Str) (o x : AV) : M Unit := fun S => match o with
  | .loc n => match S[n]? with
    | some (.ins D fs) => if D = C ∧ fs.length < 1000 then some (.ok (), S.set n (.ins D (putF f x fs))) else none
    | _ => none
  | _ => none
def msSetf (C : Nat) (f : Str) (a e : Env → M AV) : Env → M Fl := fun ρ => e ρ >>= fun x => a ρ >>= fun o => setF C f o x >>= fun _ => pure (.nx ρ)
def XS.setf (C : Nat) (f : Str) (hc : Cls c.K (c.cl C)) (hn : NoAttr c.K (c.cl C) f) (a e : XE c) : XS c where
  t := fun E => sFld c.K (a.t E) (e.t E) f
  f := msSetf C f a.f e.f
  sim := fun E μ H σ ρ S rs re o ho D hD => thenS (e.sim E μ H σ ρ S rs re) ho hD fun μ1 H1 S1 v x f1 rs1 rv h1 hD1 =>
    thenS (a.sim E μ1 H1 σ ρ S1 rs1 (re.fw rs f1)) h1 hD1 fun μ2 H2 S2 w y f2 rs2 rw' h2 hD2 => by
      rcases bind_some h2 with ⟨u, S3, h3, h4⟩ | ⟨x', S3, h3, h4⟩
      · unfold setF at h3
        cases rw' with
        | loc e =>
          simp only at h3
          split at h3
          · rename_i C' fs q
            split at h3
            · rename_i hC
              obtain ⟨rfl, hl⟩ := hC
              cases h3
              obtain rfl := pure_some h4
              obtain ⟨dx, vs, g1, g2⟩ := rs2.get e q
              refine ⟨_, _, dx, vs, rfl, g1, hc, hn, by rw [g2.length]; exact hl, hD2 σ μ2 _ (.upd e g1 trivial) (rs2.set e ?_) (((re.fw rs f1).fw rs1 f2).mono (.refl _) (rs2.ps _ e))⟩
              exact ⟨dx, _, upd_same, (g2.putF f (rv.fw rs1 f2)).mono (.refl _) (rs2.ps _ e)⟩
            · cases h3
          · cases h3
        | _ => cases h3
      · unfold setF at h3
        cases rw' with
        | loc e =>
          simp only at h3
          split at h3
          · split at h3 <;> cases h3
          · cases h3
        | _ => cases h3
/-! loops -/
def forK (next : Env → M Fl) (fl : Fl) : M Fl := match fl with
  | .nx ρ => next ρ
  | .ct ρ => next ρ
  | .bk ρ => pure (.nx ρ)
  | .rt x => pure (.rt x)
def forGo (ai : AI) (step : AV → Env → M Fl) : List AV → Env → M Fl
  | [], ρ => ai.chk >>= fun _ => pure (.nx ρ)
  | x :: xs, ρ => ai.chk >>= fun _ => step x ρ >>= forK (forGo ai step xs)
def forStep (g : AV → Env → M Env) (b : Env → M Fl) (x : AV) (ρ : Env) : M Fl := g x ρ >>= b
def ForP (c : Ct) (ai : AI) (step : AV → Env → M Fl) (μ1 : List Addr) (H1 : Hp) (o : Except XV Fl × Store) (i : Nat) (σ : L2.St) (H' : Hp) : Prop :=
  ∃ μ' S' ρ', RS c μ' H' S' ∧ RE c μ' H' σ ρ' ∧ Fw μ1 H1 μ' H' ∧ forGo ai step (ai.xs.drop i) ρ' S' = some o
def msLoop (w : Env → M AI) (g : AV → Env → M Env) (b : Env → M Fl) : Env → M Fl := fun ρ => w ρ >>= fun ai => forGo ai (forStep g b) ai.xs ρ
def XS.loop (w : XI c) (g : XG c) (b : XS c) : XS c where
  t := fun E => tFor (w.t E) (g.t E) (b.t E)
  f := msLoop w.f g.f b.f
  sim := fun E μ H σ ρ S rs re o ho D hD => thenS (w.sim E μ H σ ρ S rs re) ho hD fun μ1 H1 S1 J ai f1 rs1 rJ h1 hD1 => by
    obtain ⟨G, hG, wk⟩ := rJ
    refine for_it wk (ForP c ai (forStep g.f b.f) μ1 H1 o) ⟨μ1, S1, ρ, rs1, re.fw rs f1, .refl _ _, h1⟩ ?_ ?_ ?_
    · rintro i σ' H' hi ⟨μ', S', ρ', rs', re', fw, hm⟩
      have ok : ai.ok S' = true := by
        cases q : ai.xs.drop i with
        | nil =>
          rw [q] at hm
          unfold forGo at hm
          rcases bind_some hm with ⟨r, S2, h1, h2⟩ | ⟨x, S2, h1, h2⟩ <;> exact (chk_some h1).1
        | cons y ys =>
          rw [q] at hm
          unfold forGo at hm
          rcases bind_some hm with ⟨r, S2, h1, h2⟩ | ⟨x, S2, h1, h2⟩ <;> exact (chk_some h1).1
      exact hG μ' H' S' fw.pre (rs1.psF fw) rs' ok
    · rintro i v σ' Ha Hb hi ⟨μ', S', ρ', rs', re', fw, hm⟩ ⟨nw, hy⟩
      have hx : ai.xs.drop i = ai.xs[i] :: ai.xs.drop (i + 1) := List.drop_eq_getElem_cons hi
      rw [hx] at hm
      unfold forGo at hm
      rcases bind_some hm with ⟨u, S2, h2, h3⟩ | ⟨x, S2, h2, h3⟩
      · obtain ⟨ok, e1⟩ := chk_some h2
        cases e1
        obtain ⟨y, hy1, hy2⟩ := hy μ' S' fw.pre (rs1.psF fw) rs' ok
        rw [List.getElem?_eq_getElem hi] at hy1
        obtain rfl := Option.some.inj hy1
        have rsb : RS c μ' Hb S' := nw.rs rs'
        have fwb : Fw μ1 H1 μ' Hb := fw.trans rs' nw.fw
        unfold forStep at h3
        rw [assoc] at h3
        have hDb : EndsS c μ' Hb E D o := hD1.later fwb rsb
        refine thenS (D := D) (g.sim E μ' Hb S' σ' ρ' v _ rsb (re'.fw rs' nw.fw) hy2) h3 hDb fun μ2 H2 S2 σ2 ρ2 f2 rs2 rg h4 hD2 => ?_
        rcases bind_some h4 with ⟨fl, S3, h5, h6⟩ | ⟨x, S3, h5, h6⟩
        · refine b.sim E μ2 H2 σ2 ρ2 S2 rs2 rg.1 _ h5 _ ?_
          cases fl with
          | nx ρ3 => exact fun σ3 μ3 H3 f3 rs3 re3 => ⟨μ3, S3, ρ3, rs3, re3, (fwb.trans rsb f2).trans rs2 f3, h6⟩
          | ct ρ3 => exact fun σ3 μ3 H3 f3 rs3 re3 => ⟨μ3, S3, ρ3, rs3, re3, (fwb.trans rsb f2).trans rs2 f3, h6⟩
          | bk ρ3 => obtain rfl := pure_some h6; exact hD2
          | rt x => obtain rfl := pure_some h6; exact hD2
        · subst h6
          exact b.sim E μ2 H2 σ2 ρ2 S2 rs2 rg.1 _ h5 _ hD2
      · obtain ⟨_, e1⟩ := chk_some h2
        cases e1
    · rintro σ' H' ⟨μ', S', ρ', rs', re', fw, hm⟩
      rw [List.drop_length] at hm
      unfold forGo at hm
      rcases bind_some hm with ⟨u, S2, h2, h3⟩ | ⟨x, S2, h2, h3⟩
      · obtain ⟨_, e1⟩ := chk_some h2
        cases e1
        obtain rfl := pure_some h3
        exact hD1 σ' μ' H' fw rs' re'
      · obtain ⟨_, e1⟩ := chk_some h2
        cases e1
/-- the most turns of a while -/
@[irreducible] def FU : Nat := 100000
def whGo (t : Env → M Bool) (b : Env → M Fl) : Nat → Env → M Fl
  | 0, _ => M.no
  | n + 1, ρ => t ρ >>= fun k => if k = true then b ρ >>= forK (whGo t b n) else pure (.nx ρ)
def msWhil (t : Env → M Bool) (b : Env → M Fl) : Env → M Fl := fun ρ => whGo t b FU ρ
def XS.whil (t : XT c) (b : XS c) : XS c where
  t := fun E => tWhile (t.t E) (b.t E)
  f := msWhil t.f b.f
  sim := fun E μ H σ ρ S rs re o ho D hD => by
    refine ⟨fun m σ' H' => ∃ μ' S' ρ', RS c μ' H' S' ∧ RE c μ' H' σ' ρ' ∧ Fw μ H μ' H' ∧ whGo t.f b.f m ρ' S' = some o, ⟨FU, μ, S, ρ, rs, re, .refl _ _, ho⟩, ?_⟩
    rintro m σ' H' ⟨μ', S', ρ', rs', re', fw, hm⟩
    cases m with
    | zero => cases hm
    | succ m =>
      unfold whGo at hm
      refine thenS (D := D) (t.sim E μ' H' σ' ρ' S' rs' re') hm (hD.later fw rs') fun μ2 H2 S2 k k' f2 rs2 rk h2 hD2 => ?_
      cases rk
      cases k with
      | false =>
        have h2 : (pure (.nx ρ') : M Fl) S2 = some o := h2
        obtain rfl := pure_some h2
        exact hD2 σ' μ2 H2 (.refl _ _) rs2 (re'.fw rs' f2)
      | true =>
        have h2 : (b.f ρ' >>= forK (whGo t.f b.f m)) S2 = some o := h2
        refine ⟨fun σ3 H3 => ∃ μ' S' ρ', RS c μ' H3 S' ∧ RE c μ' H3 σ3 ρ' ∧ Fw μ H μ' H3 ∧ whGo t.f b.f m ρ' S' = some o, fun σ3 H3 h3 => ⟨m, Nat.lt_succ_self m, h3⟩, ?_⟩
        rcases bind_some h2 with ⟨fl, S3, h5, h6⟩ | ⟨x, S3, h5, h6⟩
        · refine b.sim E μ2 H2 σ' ρ' S2 rs2 (re'.fw rs' f2) _ h5 _ ?_
          cases fl with
          | nx ρ3 => exact fun σ3 μ3 H3 f3 rs3 re3 => ⟨μ3, S3, ρ3, rs3, re3, (fw.trans rs' f2).trans rs2 f3, h6⟩
          | ct ρ3 => exact fun σ3 μ3 H3 f3 rs3 re3 => ⟨μ3, S3, ρ3, rs3, re3, (fw.trans rs' f2).trans rs2 f3, h6⟩
          | bk ρ3 => obtain rfl := pure_some h6; exact hD2
          | rt x => obtain rfl := pure_some h6; exact hD2
        · subst h6
          exact b.sim E μ2 H2 σ' ρ' S2 rs2 (re'.fw rs' f2) _ h5 _ hD2
/-! a loop over a dict's keys: the dict stands in a slot -/
def M.lock (x : AV) : M (Nat × List (Key × AV)) := fun S => match x with
  | .loc n => match S[n]? with
    | some (.dct kvs false) => some (.ok (n, kvs), S.set n (.dct kvs true))
    | _ => none
  | _ => none
def unlK (n : Nat) (kvs : List (Key × AV)) (fl : Fl) : M Fl := fun S => match fl with
  | .nx ρ => some (.ok (.nx ρ), S.set n (.dct kvs false))
  | .rt x => some (.ok (.rt x), S.set n (.dct kvs false))
  | _ => none
def keyA : Key → AV
  | .inl i => .int i
  | .inr x => .str x
theorem key_va (k : Key) : Va c μ H (kV k) (keyA k) := by
  cases k with
  | inl i => exact .int i
  | inr x => exact .str x
def M.strict {A : Type} (m : M A) : M A := fun S => match m S with
  | some (.ok a, S') => some (.ok a, S')
  | _ => none
def msKeys (j : Nat) (g : AV → Env → M Env) (b : Env → M Fl) : Env → M Fl := fun ρ => mVar j ρ >>= fun x => M.lock x >>= fun p => M.strict (forGo ⟨p.2.map fun kv => keyA kv.1, []⟩ (forStep g b) (p.2.map fun kv => keyA kv.1) ρ) >>= unlK p.1 p.2
/-- for k in d, d the dict in slot j -/
def XS.keys (j : Nat) (g : XG c) (b : XS c) : XS c where
  t := fun E => tLock (tFor (iKeys (tVar j)) (g.t E) (b.t E))
  f := msKeys j g.f b.f
  sim := fun E μ H σ ρ S rs re o ho D hD => by
    rcases bind_some ho with ⟨x, S1, h1, h2⟩ | ⟨x, S1, h1, h2⟩
    · obtain ⟨y, hy, e1⟩ := ofO_some h1
      cases e1
      obtain ⟨v, hv1, hv2⟩ := re.at_ j x (by
        cases q : ρ[j]? with
        | none => rw [q] at hy; cases hy
        | some z => rw [q] at hy; exact congrArg some hy)
      rcases bind_some h2 with ⟨p, S2, h3, h4⟩ | ⟨x, S2, h3, h4⟩
      · unfold M.lock at h3
        cases hv2 with
        | loc e =>
          rename_i d n
          simp only at h3
          split at h3
          · rename_i kvs q
            cases h3
            obtain ⟨ks, k1, k2⟩ := rs.get e q
            refine ⟨d, .dK ks, k1, trivial, fun od => ?_⟩
            have rsL : RS c μ (L2.upd H d (.frz od (.dK ks))) (S.set n (.dct kvs true)) := rs.set e ⟨od, ks, upd_same, k2.mono (.refl _) (rs.ps _ e)⟩
            have reL : RE c μ (L2.upd H d (.frz od (.dK ks))) σ ρ := re.mono (.refl _) (rs.ps _ e)
            refine ⟨.ref d, hv1, d, od, rfl, .inl ⟨ks, upd_same, ?_⟩⟩
            rcases bind_some h4 with ⟨fl, S3, h5, h6⟩ | ⟨x, S3, h5, h6⟩
            · unfold M.strict at h5
              split at h5
              · rename_i fl' S3' h7
                cases h5
                have hlen : (kvs.map fun kv => keyA kv.1).length = ks.length := by rw [List.length_map, k2.length]
                -- behind the loop
                have back : ∀ μ' H' S', RS c μ' H' S' → Fw μ (L2.upd H d (.frz od (.dK ks))) μ' H' → H' d = some (.frz od (.dK ks)) ∧ Fw μ H μ' (L2.upd H' d (.dK ks)) ∧ RS c μ' (L2.upd H' d (.dK ks)) (S'.set n (.dct kvs false)) ∧ Ps H' (L2.upd H' d (.dK ks)) := fun μ' H' S' rs' fw => by
                  have hz := fw.fz d od (.dK ks) upd_same
                  have e' := fw.pre.at e
                  refine ⟨hz, ⟨?_, fun a o h m => ?_, fun a o v h => ?_⟩, rs'.set e' ⟨ks, upd_same, k2.mono fw.pre ((rs.ps _ e).trans ((rsL.psF fw).trans (rs'.ps _ e')))⟩, rs'.ps _ e'⟩
                  · obtain ⟨t, e2, ht⟩ := fw.ex
                    refine ⟨t, e2, fun a ha => ?_⟩
                    have := ht a ha
                    by_cases z : a = d
                    · subst z; rw [upd_same] at this; cases this
                    · rw [upd_ne z] at this; exact this
                  · have nd : a ≠ d := fun z => m (by rw [z]; exact List.mem_of_getElem? e)
                    rw [upd_ne nd]
                    exact fw.fr a o (by rw [upd_ne nd]; exact h) m
                  · have nd : a ≠ d := fun z => by subst z; rw [k1] at h; cases h
                    rw [upd_ne nd]
                    exact fw.fz a o v (by rw [upd_ne nd]; exact h)
                refine for_it (walk_keys (d := d) (o := od) (kvs := ks)) (ForP c ⟨kvs.map fun kv => keyA kv.1, []⟩ (forStep g.f b.f) μ (L2.upd H d (.frz od (.dK ks))) (.ok fl, S3)) ⟨μ, _, ρ, rsL, reL, .refl _ _, h7⟩ ?_ ?_ ?_
                · rintro i σ' H' hi ⟨μ', S', ρ', rs', re', fw, hm⟩
                  exact fw.fz d od (.dK ks) upd_same
                · rintro i v σ' Ha Hb hi ⟨μ', S', ρ', rs', re', fw, hm⟩ ⟨rfl, k, v', hk, rfl⟩
                  have hi' : i < (kvs.map fun kv => keyA kv.1).length := by rw [hlen]; exact hi
                  have hkk : (kvs.map fun kv => keyA kv.1)[i] = keyA k := by
                    have e1 := k2.keys
                    have e2 : (ks.map (·.1))[i]? = some k := by rw [List.getElem?_map, hk]; rfl
                    rw [e1, List.getElem?_map] at e2
                    obtain ⟨kv, e3, e4⟩ := Option.map_eq_some_iff.mp e2
                    have e5 : (kvs.map fun kv => keyA kv.1)[i]? = some (keyA k) := by rw [List.getElem?_map, e3]; show some (keyA kv.1) = _; rw [e4]
                    rw [List.getElem?_eq_getElem hi'] at e5
                    exact Option.some.inj e5
                  have hx : (kvs.map fun kv => keyA kv.1).drop i = keyA k :: (kvs.map fun kv => keyA kv.1).drop (i + 1) := by rw [List.drop_eq_getElem_cons hi', hkk]
                  rw [hx] at hm
                  unfold forGo at hm
                  rcases bind_some hm with ⟨u, S2, h2, h3⟩ | ⟨x, S2, h2, h3⟩
                  · obtain ⟨ok, e1⟩ := chk_some h2
                    cases e1
                    unfold forStep at h3
                    rw [assoc] at h3
                    rcases bind_some h3 with ⟨ρ2, S4, h8, h9⟩ | ⟨x, S4, h8, h9⟩
                    · refine g.sim E μ' _ S' σ' ρ' _ _ rs' re' (key_va k) _ h8 _ fun σ2 μ2 H2 f2 rs2 rg => ?_
                      rcases bind_some h9 with ⟨fl', S5, h10, h11⟩ | ⟨x, S5, h10, h11⟩
                      · refine b.sim E μ2 H2 σ2 ρ2 S4 rs2 rg.1 _ h10 _ ?_
                        cases fl' with
                        | nx ρ3 => exact fun σ3 μ3 H3 f3 rs3 re3 => ⟨μ3, S5, ρ3, rs3, re3, (fw.trans rs' f2).trans rs2 f3, h11⟩
                        | ct ρ3 => exact fun σ3 μ3 H3 f3 rs3 re3 => ⟨μ3, S5, ρ3, rs3, re3, (fw.trans rs' f2).trans rs2 f3, h11⟩
                        | bk ρ3 =>
                          cases pure_some h11
                          intro σ3 μ3 H3 f3 rs3 re3
                          obtain ⟨b1, b2, b3, b4⟩ := back μ3 H3 _ rs3 ((fw.trans rs' f2).trans rs2 f3)
                          cases h6
                          exact ⟨b1, hD σ3 μ3 _ b2 b3 (re3.mono (.refl _) b4)⟩
                        | rt x =>
                          cases pure_some h11
                          intro w μ3 H3 f3 rs3 rw3
                          obtain ⟨b1, b2, b3, b4⟩ := back μ3 H3 _ rs3 ((fw.trans rs' f2).trans rs2 f3)
                          cases h6
                          exact ⟨b1, hD w μ3 _ b2 b3 (rw3.mono (.refl _) b4)⟩
                      · cases h11
                    · cases h9
                  · obtain ⟨_, e1⟩ := chk_some h2
                    cases e1
                · rintro σ' H' ⟨μ', S', ρ', rs', re', fw, hm⟩
                  rw [← hlen, List.drop_length] at hm
                  unfold forGo at hm
                  rcases bind_some hm with ⟨u, S2, h2, h3⟩ | ⟨x, S2, h2, h3⟩
                  · obtain ⟨_, e1⟩ := chk_some h2
                    cases e1
                    cases pure_some h3
                    obtain ⟨b1, b2, b3, b4⟩ := back μ' H' _ rs' fw
                    cases h6
                    exact ⟨b1, hD σ' μ' _ b2 b3 (re'.mono (.refl _) b4)⟩
                  · obtain ⟨_, e1⟩ := chk_some h2
                    cases e1
              · cases h5
            · unfold M.strict at h5
              split at h5 <;> cases h5
          · cases h3
        | _ => cases h3
      · unfold M.lock at h3
        split at h3
        · split at h3 <;> cases h3
        · cases h3
    · obtain ⟨y, hy, e1⟩ := ofO_some h1
      cases e1
/-! defs -/
def startA (n : Nat) (xs : List AV) : Env := xs.map some ++ List.replicate (n - xs.length) none
def fnK (fl : Fl) : M AV := match fl with
  | .rt x => pure x
  | .nx _ => pure .non
  | _ => M.no
/-- n slots, k parameters -/
def fnM (n k : Nat) (b : Env → M Fl) (xs : List AV) : M AV := if xs.length = k then b (startA n xs) >>= fnK else M.no
theorem RE.begin {N : List Str} {vs : List V} {xs : List AV} (r : VaAll c μ H vs xs) : RE c μ H (L2.start N vs) (startA N.length xs) := by
  have hl := r.length
  refine ⟨by simp [L2.start, startA, hl], fun i x h => ?_⟩
  unfold startA at h
  unfold L2.start
  by_cases hi : i < xs.length
  · rw [List.getElem?_append_left (by rw [List.length_map]; exact hi), List.getElem?_map] at h
    rw [List.getElem?_append_left (by rw [List.length_map, hl]; exact hi), List.getElem?_map]
    obtain ⟨y, e, h2⟩ := Option.map_eq_some_iff.mp h
    cases h2
    obtain ⟨v, e2, h3⟩ := r.at e
    exact ⟨v, by rw [e2]; rfl, h3⟩
  · rw [List.getElem?_append_right (by rw [List.length_map]; omega)] at h
    rw [List.getElem?_replicate] at h
    split at h <;> cases h
theorem fn_pure {b : XS c} {N : List Str} {k : Nat} {vs : List V} {Q : VK} (h : spI c (fnM N.length k b.f) vs H Q E) : b.t E { nx := fun _ H' => Q .non H', rt := Q } (L2.start N vs) H := by
  obtain ⟨μ, S, xs, o, rs, rv, ho, hQ⟩ := h
  unfold fnM at ho
  split at ho
  · rcases bind_some ho with ⟨fl, S1, h1, h2⟩ | ⟨x, S1, h1, h2⟩
    · refine b.sim E μ H _ _ S rs (RE.begin rv) _ h1 _ ?_
      cases fl with
      | nx ρ => obtain rfl := pure_some h2; exact fun σ' μ' H' f rs' _ => hQ _ μ' H' f rs' .non
      | rt x => obtain rfl := pure_some h2; exact hQ
      | bk ρ => cases h2
      | ct ρ => cases h2
    · subst h2
      exact b.sim E μ H _ _ S rs (RE.begin rv) _ h1 _ hQ
  · cases ho
theorem fn_len {n k : Nat} {b : Env → M Fl} {vs : List V} {Q : VK} (h : spI c (fnM n k b) vs H Q E) : vs.length = k := by
  obtain ⟨μ, S, xs, o, rs, rv, ho, hQ⟩ := h
  unfold fnM at ho
  split at ho
  · rename_i q; rw [rv.length]; exact q
  · cases ho
end
end CI

set_option Elab.async false
set_option linter.all false
set_option maxRecDepth 100000
set_option maxHeartbeats 4000000
/-! rules for the combined readings -/
namespace CI
open PySem PySem.Spec PyProof.Rows L2 Evl
section
variable {X : Cx}
theorem op_add4 : OpR X (binaryOp .Add) (rAdd4 X.K) := OpR.or op_add (OpR.or op_catA op_cat)
theorem op_eq2 (hu : X.A.units + 64 < cLine) : OpR X (compareOp .Eq) (fun x y H Q => rEq x y H Q ∨ rEqD X.K x y H Q) := OpR.or op_eq (op_eqD hu)
theorem op_ne2 (hu : X.A.units + 64 < cLine) : OpR X (compareOp .NotEq) (fun x y H Q => rNe x y H Q ∨ rNeD X.K x y H Q) := OpR.or op_ne (op_neD hu)
theorem op_dIn (hu : X.A.units + 1 < cLine) : OpR X (compareOp .In) (rDIn false) := by
  intro pins s σ H y x v u Q I ry rx h
  obtain ⟨a, o, rfl, g, q⟩ := h
  cases (show u = Value.ref a from rx)
  exact d_in hu I g ry fun s3 I3 => ⟨.bl o.isSome, H, I3, rfl, q⟩
theorem op_dNotIn (hu : X.A.units + 1 < cLine) : OpR X (compareOp .NotIn) (rDIn true) := by
  intro pins s σ H y x v u Q I ry rx h
  obtain ⟨a, o, rfl, g, q⟩ := h
  cases (show u = Value.ref a from rx)
  exact d_notIn hu I g ry fun s3 I3 => ⟨.bl (!o.isSome), H, I3, rfl, q⟩
theorem op_sIn : OpR X (compareOp .In) (rInS' false) := op_inS
theorem op_sNotIn : OpR X (compareOp .NotIn) (rInS' true) := op_notInS
theorem op_in3 (hu : X.A.units + 1 < cLine) : OpR X (compareOp .In) (rIn3 X.K false) := OpR.or op_in_seq (OpR.or op_sIn (op_dIn hu))
theorem op_notIn3 (hu : X.A.units + 1 < cLine) : OpR X (compareOp .NotIn) (rIn3 X.K true) := OpR.or op_notIn_seq (OpR.or op_sNotIn (op_dNotIn hu))
theorem ix_dK (hu : X.A.units + 1 < cLine) : IxR X (fun x y H Q => ∃ a v, x = .ref a ∧ DGet H a y (some v) ∧ Q v H) := by
  intro value slice pins s σ H x y v u Q I rx ry h hs
  obtain ⟨a, r, rfl, g, q⟩ := h
  cases (show v = Value.ref a from rx)
  exact tail_any (dict_typeIs I g) PySem.F.slot_dict_getitem.lookup (d_getItem hu I g ry fun w' s3 I3 rw' => ⟨r, H, I3, rw', q⟩) hs
theorem ix_all (hu : X.A.units + 1 < cLine) : IxR X (rSub X.K X.w) := IxR.or ix_seq (IxR.or (ix_dK hu) ix_kdict)
theorem sl_all : SlR X (rSl X.K) := SlR.or sl_tupA (SlR.or sl_list sl_str)
theorem call_len3 : CallR X (.builtin "len") (rLen3 X.K) := CallR.or call_len_seq (CallR.or call_len_str call_lenD)
theorem call_list1 : CallR X (.type "list") (rList1 X.K) := call_list_of
theorem call_tup1 : CallR X (.type "tuple") (rTup1 X.K) := call_tuple_of
theorem call_int' : CallR X (.type "int") rInt1 := call_int1
end
/-- name = {..} on one line, the name a local -/
theorem ps_setDc {X : Cx} {i : Nat} {y : Str} {py : Pos} {kx vx tg iter : Expr} {ifs : List Expr} {scope : Scope} {own : List (Str × Nat)} {pos spos : Pos} {wi : TI} {g : TG} {tt : TT} {tk tv : TE} (hc : X.calm = true) (hN : X.N.Nodup) (hy : X.N[i]? = some y) (hyl : X.env.scope.names.lookup y = some .local)
    (hsw : swapsWith (.DictComp kx vx [⟨tg, iter, ifs, 0⟩] scope pos) (some (.Name y py)) spos.line X.env = pure true) (hi : PI X tg iter wi) (ok : BlkOk X.N X.env.scope scope own)
    (hg : ∀ (s : Shared) (H : Hp) (C : Addr) (cl : List (Str × Addr)) (fp : List Addr), PG (X.blk s H scope (compEnvC scope cl C X.env) fp) tg g) (ht : ∀ (s : Shared) (H : Hp) (C : Addr) (cl : List (Str × Addr)) (fp : List Addr), PTs (X.blk s H scope (compEnvC scope cl C X.env) fp) ifs tt)
    (hk : ∀ (s : Shared) (H : Hp) (C : Addr) (cl : List (Str × Addr)) (fp : List Addr), PE (X.blk s H scope (compEnvC scope cl C X.env) fp) kx tk)
    (he : ∀ (s : Shared) (H : Hp) (C : Addr) (cl : List (Str × Addr)) (fp : List Addr), PE (X.blk s H scope (compEnvC scope cl C X.env) fp) vx tv) (hs : ∀ x, foldedSetIterable iter X.env x = pure x := by intro _; rfl) :
    PS X (.Assign [.Name y py] (.DictComp kx vx [⟨tg, iter, ifs, 0⟩] scope pos) spos) (tAsg (tDc wi g tt tk tv (own.map (·.2))) (gName i)) := by
  refine ⟨fun pins s σ H D I h => ?_⟩
  rw [exec_Assign_Name_used _ _ _ _ hsw]
  refine wpAny_bind (wpAny_standAt (wpAny_bind ?_))
  show wpAny _ X.A (do let _ ← comprehension (.DictComp kx vx [⟨tg, iter, ifs, 0⟩] scope pos) scope X.env (firstIterPos [⟨tg, iter, ifs, 0⟩] pos) newDict false (eval iter X.env) (some (assign (.Name y py) X.env))) _ _ s
  have h : tDc wi g tt tk tv (own.map (·.2)) σ H (fun x H1 => gName i x σ H1 D.nx) := h
  refine wpAny_bind (thn (dc_core (Qf := fun _ s' => SP X pins D .next s') hc hN I hi ok hg ht hk he hs h fun L C s' m H' I' q hn f => ?_) fun _ s' hq => wpAny_pure (wpAny_pure hq))
  show wpAny _ _ (assign (.Name y py) X.env (.ref L)) _ _ _
  refine wpAny_assign_Name (store_ok2 (v := V.ref L) I' hN hy (.inl hyl) rfl (fun s2 I2 ⟨a, sb, ha⟩ => ?_) (.inr hyl))
  obtain ⟨f0, f1, f2, f3, f4, f5⟩ := f
  have haC : C ≠ a := by
    rcases ha with z | z
    · rw [z]; exact f1
    · exact fun e => f4 y a z e.symm
  refine ⟨m, hn.sameBut sb haC, fun h3 sb3 => ?_⟩
  exact ⟨_, H', I2.turned (t' := s2.toks) (fun b o hb e => (sb3.2 b hb).trans e) f0 f1 f3 f4 f5, q⟩
theorem sw_trueD {kx vx : Expr} {gs : List Comprehension} {scope : Scope} {pos py : Pos} {y : Str} {l : Nat} {env : PySem.Env} (hk : env.scope.kind = .function) (hy : env.scope.names.lookup y = some .local) (hl : (py.line == pos.line) = true)
    (ha : (scope.names.any fun (n, k) => n == y && (k == .local || k == .cell)) = false) : swapsWith (.DictComp kx vx gs scope pos) (some (.Name y py)) l env = pure true := by
  have ky : env.kindOf y = some .local := hy
  have hb : env.blockKind = .function := by unfold Env.blockKind; rw [hk]; rfl
  unfold swapsWith
  simp only [hb, ky, ha, Expr.pos, hl]
  rfl
/-! calls, whatever the wish for exceptions -/
section
variable {X : Cx} {k : Nat} {x m : Str} {ps : List Str} {sp : Sp} {C : Addr} {p pos apos : Pos} {e o : Expr} {es : List Expr} {t : TA} {ta : TE} {E : XK}
theorem pe_callF (O : CK.Ok X.prog X.w X.K X.mg X.base k x ps sp) (hr : Room k X.A) (hg : Gl X x) (ha : PA X (e :: es) t) (hdb : (x == ("__debug__" : Str)) = false := by decide)
    (he : starEach (e :: es) X.env = (false, eval e X.env) :: starEach es X.env := by rfl) (hpl : (backTo pos (starEach es X.env)).any (·.1) = false := by rfl) : PE X (.Call (.Name x p) (e :: es) [] pos) (tCall sp [] E t) := by
  obtain ⟨f, fd, h1, h2, h3, h4⟩ := O.ex
  exact pe_call h4 hr hg h1 h2 h3 .nil (fun _ _ _ _ _ _ _ h => h.elim) ha hdb he hpl
theorem pe_callF0 (O : CK.Ok X.prog X.w X.K X.mg X.base k x ps sp) (hr : Room k X.A) (hg : Gl X x) (hdb : (x == ("__debug__" : Str)) = false := by decide) : PE X (.Call (.Name x p) [] [] pos) (tCall sp [] E tNil) := by
  obtain ⟨f, fd, h1, h2, h3, h4⟩ := O.ex
  exact pe_call0 h4 hr hg h1 h2 h3 .nil (fun _ _ _ _ _ _ _ h => h.elim) hdb
theorem pe_methF {pl : Sem Bool} (O : CK.OkM X.prog X.w X.K X.mg X.base C k m ps sp) (he : PE X o ta) (c : Cls X.K C) (hr : Room k X.A) (ha : PA X (e :: es) t)
    (hst : starEach (e :: es) X.env = (false, eval e X.env) :: starEach es X.env := by rfl) (hpl : (backTo pos (starEach es X.env)).any (·.1) = false := by rfl)
    (ht : eval (.Call (.Attribute o m apos) (e :: es) [] pos) X.env = (do
      let ov ← eval o X.env
      standAt apos.atName
      let (f, first) ← holding [ov] (getMethod ov m pl)
      callWith pos f first (backTo pos (starEach (e :: es) X.env)) (backToKw pos (keywordEach [] X.env))) := by rfl) : PE X (.Call (.Attribute o m apos) (e :: es) [] pos) (tMeth C m sp [] E ta t) := by
  obtain ⟨f, fd, h1, h2, h3⟩ := O.ex
  exact pe_meth he c h1 h3 hr h2 .nil (fun _ _ _ _ _ _ _ h => h.elim) ha hst hpl ht
theorem pe_methF0 {pl : Sem Bool} (O : CK.OkM X.prog X.w X.K X.mg X.base C k m ps sp) (he : PE X o ta) (c : Cls X.K C) (hr : Room k X.A)
    (ht : eval (.Call (.Attribute o m apos) [] [] pos) X.env = (do
      let ov ← eval o X.env
      standAt apos.atName
      let (f, first) ← holding [ov] (getMethod ov m pl)
      callWith pos f first (backTo pos (starEach [] X.env)) (backToKw pos (keywordEach [] X.env))) := by rfl) : PE X (.Call (.Attribute o m apos) [] [] pos) (tMeth C m sp [] E ta tNil) := by
  obtain ⟨f, fd, h1, h2, h3⟩ := O.ex
  exact pe_meth0 he c h1 h3 hr h2 .nil (fun _ _ _ _ _ _ _ h => h.elim) ht
theorem pe_makeF (O : CK.OkI X.prog X.w X.K X.mg X.base C k x ps sp) (hr : Room (k + 1) X.A) (hg : Gl X x) (ha : PA X (e :: es) t) (hdb : (x == ("__debug__" : Str)) = false := by decide)
    (he : starEach (e :: es) X.env = (false, eval e X.env) :: starEach es X.env := by rfl) (hpl : (backTo pos (starEach es X.env)).any (·.1) = false := by rfl) : PE X (.Call (.Name x p) (e :: es) [] pos) (tMake C sp [] E t) := by
  obtain ⟨f, fd, h1, h2, h3, h4⟩ := O.ex
  exact pe_make h2 h4 hr hg h1 h3 .nil (fun _ _ _ _ _ _ _ h => h.elim) ha hdb he hpl
end
end CI

set_option Elab.async false
set_option linter.all false
set_option maxRecDepth 100000
set_option maxHeartbeats 4000000
/-! tuple(d), d a written dict of texts -/
namespace CITup
open PySem PySem.Spec PyProof.Rows L2
section
variable {prog : Program} {w : World} {A : Around} {E : Value → Shared → Prop} {s : Shared} {r d : Addr} {n : Nat} {P : Nat → Value → Prop} {OK : Heap → Prop}
open PySem.W in
theorem code_tuple_new_src {Q₁ : Value → Shared → Prop} (K : KdlSrc prog w "dict" r d n P OK) (hh : A.handled = none) (hok : OK s.heap) (hn : n ≤ sizeLine)
    (h : ∀ (h' : Heap) (tk : Nat) (acc : Array Value), (∀ b o, s.heap.get? b = some o → h'.get? b = some o) → ItemsOf P acc n →
      Q₁ (.ref h'.objs.size) { s with heap := h'.push { cls := .type "tuple", data := .seq acc }, toks := tk }) :
    codeAny (model prog w) A (.call (.builtin "tuple.__new__") ⟨[.type "tuple", .ref r], []⟩) (wants Q₁ E) s := by
  refine codeAny_of_tree ?_
  show wpAny _ A.in1 (do checkBuiltinCall "tuple.__new__" ⟨[.type "tuple", .ref r], []⟩; again (.builtin "tuple.__new__" ⟨[.type "tuple", .ref r], []⟩)) _ _ s
  refine wpAny_bind (wpAny_of_eq (PySem.F.newCall_tuple_1 _) (wpAny_pure ⟨plainId_quiet PySem.F.plain_tuple_new _, codeAny_builtin PySem.F.entry_tuple_new ?_⟩))
  rw [Around.under_plainId PySem.F.plain_tuple_new _]
  have hsub := sub_tuple_self
  have hinit := init_tuple_lookup
  have hmh := madeHere_tuple
  have hTI : s.TypeIs (.ref r) "dict" := K.type s hok
  have hh1 : A.in1.handled = none := hh
  wp_walk using wpAny_typeOf hTI, kdu_collect (A := A.in1) K hh1 hok hn
  intro h' tk acc hk hacc
  show wpAny _ _ (Builtin.Tuple.tupleExact acc.toList.toArray >>= fun v => ret v) _ _ _
  unfold Builtin.Tuple.tupleExact
  refine wpAny_bind (wpAny_newObj_type ?_ (by show acc.toList.toArray.size ≤ sizeLine; simp only [Array.toArray_toList]; rw [hacc.1]; exact hn))
  refine wpAny_pure ?_
  have e : acc.toList.toArray = acc := by simp
  rw [e]
  exact h h' tk acc hk hacc
open PySem.W in
theorem call_tuple_src {Q : Value → Shared → Prop} (K : KdlSrc prog w "dict" r d n P OK) (hh : A.handled = none) (hok : OK s.heap) (hn : n ≤ sizeLine)
    (hQ : ∀ (h' : Heap) (tk : Nat) (acc : Array Value), (∀ b o, s.heap.get? b = some o → h'.get? b = some o) → ItemsOf P acc n →
      Q (.ref h'.objs.size) { s with heap := h'.push { cls := .type "tuple", data := .seq acc }, toks := tk }) :
    wpAny (model prog w) A (call (.type "tuple") [.ref r]) Q E s := by
  refine callType_codes (Q₁ := fun obj s₁ => s₁.TypeIs obj "tuple" ∧ Q obj s₁) PySem.F.called_tuple (PySem.F.typeCall_tuple_1 _) PySem.F.entry_object_init
    (code_tuple_new_src (A := A.in1) K hh hok hn fun h' tk acc hk hacc => ⟨⟨_, Heap.get?_push_size _ rfl, rfl⟩, hQ h' tk acc hk hacc⟩) fun obj s₁ h₁ => ?_
  exact ⟨h₁.1, PySem.F.args_object_init_2 obj _, object_init_meets PySem.F.called_tuple.init.lookup PySem.F.called_tuple.made (by decide) prog w A.in1 _ s₁ ⟨h₁.1, rfl, h₁.2⟩⟩
end
/-- the written dict at a has the keys ks, in this order -/
def WK (K : PySem.W.Frag) (w : World) (a : Addr) (ks : List Str) : Prop := He.dicW K a = some (He.keysIn w.params ks) ∧ ks.Nodup ∧ ks.length ≤ 1000
theorem dicW_more {K : PySem.W.Frag} {w : World} {a : Addr} {ks : List Str} (h : He.dicW K a = some (He.keysIn w.params ks)) : ∃ es n, KDict K w a es n ∧ es.toList.map He.keyOf = He.keysIn w.params ks := by
  obtain ⟨es, n, D⟩ := He.dicW_ok h
  refine ⟨es, n, D, ?_⟩
  unfold He.dicW at h
  rw [D.at_] at h
  simp only at h
  split at h
  · exact Option.some.inj h
  · cases h
theorem pairs_of {prog : Program} {w : World} : ∀ {l : List DictEntry} {ks : List Str}, l.map He.keyOf = He.keysIn w.params ks →
    Pairs (strKind prog w) l (ks.zip (l.map (·.val))) ∧ (ks.zip (l.map (·.val))).map (·.1) = ks ∧ ∀ e ∈ l, ∃ x, (strKind prog w).is x e.key = true ∧ e.hash = hashStr w x
  | [], [], _ => ⟨.nil, rfl, by simp⟩
  | [], k :: ks, h => by cases h
  | e :: r, [], h => by cases h
  | e :: r, k :: ks, h => by
    have h1 : He.keyOf e :: r.map He.keyOf = some (k, PyData.keyHash w.params k) :: He.keysIn w.params ks := h
    injection h1 with h2 h3
    obtain ⟨p1, p2, p3⟩ := pairs_of (prog := prog) h3
    unfold He.keyOf at h2
    split at h2
    · rename_i x t q
      have h4 := Option.some.inj h2
      obtain ⟨h5, h6⟩ := Prod.mk.inj h4
      subst h5
      have hk : (strKind prog w).is x e.key = true := by rw [q]; exact strKind_is prog w x t
      refine ⟨.cons hk rfl p1, by simpa using p2, fun e' he' => ?_⟩
      rcases List.mem_cons.mp he' with rfl | he'
      · exact ⟨x, hk, h6⟩
      · exact p3 e' he'
    · cases h2
theorem vals_of : ∀ {xs : List V} {us : List Value}, xs.length = us.length → (∀ (j : Nat) v u, xs[j]? = some v → us[j]? = some u → RelV v u) → Vals xs us
  | [], [], _, _ => .nil
  | [], _ :: _, h, _ => by cases h
  | _ :: _, [], h, _ => by cases h
  | x :: xs, u :: us, h, k => .cons (k 0 x u rfl rfl) (vals_of (by simpa using h) fun j v u' e1 e2 => k (j + 1) v u' (by simpa using e1) (by simpa using e2))
theorem call_tupW {X : Cx} (hc : X.calm = true) : CallR X (.type "tuple") (fun xs H Q => ∃ (a : Addr) (ks : List Str), xs = [.ref a] ∧ WK X.K X.w a ks ∧ ∀ p, H p = none → Q (.ref p) (upd H p (.tup (ks.map V.str)))) := by
  intro pins s σ H xs us Q I r q
  obtain ⟨a, ks, ex, ⟨hw, nd, hl⟩, q⟩ := q
  subst ex
  obtain ⟨u, eu, rx⟩ := vals1 r
  subst eu
  cases rx
  obtain ⟨es, n, D, hk⟩ := dicW_more hw
  obtain ⟨p1, p2, p3⟩ := pairs_of (prog := X.prog) hk
  have hlen : ks.length = es.toList.length := by
    have := congrArg List.length hk
    simp [He.keysIn] at this
    simp [this]
  have hat : s.heap.DictAt (strKind X.prog X.w) a (ks.zip (es.toList.map (·.val))) n := by
    refine ⟨_, es, I.kIn _ _ D.at_, ⟨rfl, rfl, rfl⟩, rfl, ?_, p1, ?_⟩
    · intro e he
      exact p3 e (Array.mem_toList_iff.mpr he)
    · rw [p2]; exact nd
  have hz : (ks.zip (es.toList.map (·.val))).length = ks.length := by
    rw [List.length_zip, List.length_map, ← hlen, Nat.min_self]
  refine call_tuple_src (PySem.W.kdl_dict (knd := strKind X.prog X.w) (kvs := ks.zip (es.toList.map (·.val))) (ep := n) D.low) (I.ok.hd hc) hat (by rw [hz]; exact Nat.le_trans hl (by decide)) fun h' tk acc hkp hacc => ?_
  have hv : Vals (ks.map V.str) acc.toList := by
    refine vals_of ((List.length_map ..).trans (hz.symm.trans (hacc.1.symm.trans (by simp)))) fun j v u e1 e2 => ?_
    obtain ⟨k, x, h1, h2⟩ := hacc.2 j u (by rw [← Array.getElem?_toList]; exact e2)
    have e3 : ks[j]? = some k := by
      have e4 : ((ks.zip (es.toList.map (·.val))).map (·.1))[j]? = some k := by rw [List.getElem?_map, h1]; rfl
      rw [p2] at e4
      exact e4
    rw [List.getElem?_map, e3] at e1
    obtain rfl := (Option.some.inj e1).symm
    obtain ⟨t, rfl⟩ := Value.isStrOf_shape h2
    exact ⟨t, rfl⟩
  have I1 : Inv X pins σ H { s with heap := h', toks := tk } := I.kept (t' := tk) hkp
  have I2 : Inv X pins σ (upd H h'.objs.size (.tup (ks.map V.str))) { s with heap := h'.push { cls := .type "tuple", data := .seq acc }, toks := tk } :=
    I1.laid (t' := tk) (fun b o e => Heap.get?_push_of_some _ e) (Nat.le_refl _) (show ObjOk X.prog X.w _ _ _ (.tup (ks.map V.str)) from ⟨by rw [List.length_map]; exact Nat.le_trans hl (by decide), acc.toList, hv, IsTup.new _ _⟩)
  exact ⟨.ref h'.objs.size, _, I2, rfl, q _ (I1.hok.fresh (Nat.le_refl _))⟩
end CITup
namespace CI
open PySem PySem.Spec PyProof.Rows L2 Evl
theorem strs_va {c : Ct} {μ : List Addr} {H : Hp} : ∀ ks : List Str, VaAll c μ H (ks.map V.str) (ks.map AV.str)
  | [] => .nil
  | k :: ks => .cons (.str k) (strs_va ks)
/-- tuple(d), d the written dict at a with these keys -/
def XE.tupW {c : Ct} (a : Addr) (ks : List Str) (h : CITup.WK c.K c.w a ks) : XE c where
  t := fun _ => tCB (fun xs H Q => ∃ (a : Addr) (ks : List Str), xs = [.ref a] ∧ CITup.WK c.K c.w a ks ∧ ∀ p, H p = none → Q (.ref p) (upd H p (.tup (ks.map V.str)))) (tCons (tC (.ref a)) tNil)
  f := mC (.tup (ks.map .str))
  sim := fun E μ H σ ρ S rs re o ho Q hQ => by
    exact ⟨a, ks, rfl, h, Runs.newTup rs (strs_va ks) o ho Q hQ⟩
end CI

set_option Elab.async false
set_option linter.all false
set_option maxRecDepth 100000
set_option maxHeartbeats 4000000
/-! what the printed texts lean on -/
namespace CI
open PySem PySem.Spec PyProof.Rows L2 Evl
abbrev gSub : AV → AV → M AV := gI0 fun i j => .int (i - j)
abbrev gMul : AV → AV → M AV := gI bMul fun i j => .int (i * j)
abbrev gFdiv : AV → AV → M AV := gI bDiv fun i j => .int (i / j)
abbrev gMod : AV → AV → M AV := gI (fun _ j => decide (0 < j)) fun i j => .int (i % j)
abbrev gPow : AV → AV → M AV := gI bPow fun i j => .int (i ^ j.toNat)
abbrev gLt : AV → AV → M AV := gI0 fun i j => .bl (decide (i < j))
abbrev gLe : AV → AV → M AV := gI0 fun i j => .bl (decide (i ≤ j))
abbrev gGt : AV → AV → M AV := gI0 fun i j => .bl (decide (j < i))
abbrev gGe : AV → AV → M AV := gI0 fun i j => .bl (decide (j ≤ i))
abbrev allM : List AV → M AV := foldM1 fun ys => (blsOf ys).map fun bs => .bl (bs.all id)
abbrev anyM : List AV → M AV := foldM1 fun ys => (blsOf ys).map fun bs => .bl (bs.any id)
abbrev sumM : List AV → M AV := foldM1 fun ys => (intsOf ys).map fun bs => .int bs.sum
section
variable {c : Ct}
theorem s2_lt : Sim2 c (rI0 fun i j => .bl (decide (i < j))) gLt := sim_I0 fun _ _ _ _ => .bl _
theorem s2_le : Sim2 c (rI0 fun i j => .bl (decide (i ≤ j))) gLe := sim_I0 fun _ _ _ _ => .bl _
theorem s2_gt : Sim2 c (rI0 fun i j => .bl (decide (j < i))) gGt := sim_I0 fun _ _ _ _ => .bl _
theorem s2_ge : Sim2 c (rI0 fun i j => .bl (decide (j ≤ i))) gGe := sim_I0 fun _ _ _ _ => .bl _
def negM (x : AV) : M AV := match x with
  | .int i => pure (.int (-i))
  | _ => M.no
def mNeg (a : Env → M AV) : Env → M AV := fun ρ => a ρ >>= negM
def XE.neg (a : XE c) : XE c where
  t := fun E => tUn (rU fun i => .int (-i)) (a.t E)
  f := mNeg a.f
  sim := fun E μ H σ ρ S rs re => (a.sim E μ H σ ρ S rs re).bind fun μ1 H1 S1 v x f1 rs1 rv o ho Q hQ => by
    cases rv with
    | int i =>
      obtain rfl := pure_some ho
      exact ⟨i, rfl, hQ _ μ1 H1 (.refl _ _) rs1 (.int _)⟩
    | _ => cases ho
/-- a call that leaves the last parameters to their defaults -/
def mCallD (g : List AV → M AV) (ds : List AV) (a : Env → M (List AV)) : Env → M AV := fun ρ => a ρ >>= fun xs => g (xs ++ ds)
def XE.callD (g : List AV → M AV) (dvs : List V) (ds : List AV) (h : ∀ μ H, VaAll c μ H dvs ds) (a : XA c) : XE c where
  t := fun E => tCall (spI c g) dvs E (a.t E)
  f := mCallD g ds a.f
  sim := fun E μ H σ ρ S rs re => (a.sim E μ H σ ρ S rs re).bind fun μ1 H1 S1 vs xs f1 rs1 rv o ho Q hQ =>
    ⟨μ1, S1, xs ++ ds, o, rs1, rv.append (h μ1 H1), ho, hQ⟩
end
/-- a def with defaults -/
structure OkD (P : Program) (w : World) (K : PySem.W.Frag) (mg : Str → Option Value) (base : Heap) (k : Nat) (x : Str) (ps : List Str) (dvs : List V) (sp : Sp) : Prop where
  ex : ∃ f fd ds, mg x = some (.ref f) ∧ PySem.W.keepIn K (.ref f) = true ∧ Vals dvs ds ∧ Binds K fd ps ds ∧ FnOk P w K mg base CX0 k f fd ps sp
theorem pe_callFD {X : Cx} {k : Nat} {x : Str} {ps : List Str} {dvs : List V} {sp : Sp} {p pos : Pos} {e : Expr} {es : List Expr} {t : TA} {E : XK} (O : OkD X.prog X.w X.K X.mg X.base k x ps dvs sp) (hr : Room k X.A) (hg : Gl X x) (ha : PA X (e :: es) t) (hdb : (x == ("__debug__" : Str)) = false := by decide)
    (he : starEach (e :: es) X.env = (false, eval e X.env) :: starEach es X.env := by rfl) (hpl : (backTo pos (starEach es X.env)).any (·.1) = false := by rfl) : PE X (.Call (.Name x p) (e :: es) [] pos) (tCall sp dvs E t) := by
  obtain ⟨f, fd, ds, h1, h2, h3, h4, h5⟩ := O.ex
  exact pe_call h5 hr hg h1 h2 h4 h3 (fun _ _ _ _ _ _ _ h => h.elim) ha hdb he hpl
/-! facts as the head gives them -/
theorem wd_of {K : PySem.W.Frag} {w : World} {cl : Nat → Addr} {a : Addr} {es : List (Str × Str)} {ks : List Str} (h : He.dicW K a = some (He.keysIn w.params ks)) (hv : He.valsB K a (es.map fun p => (p.1, .str p.2)) = true) : WD ⟨K, w, cl⟩ a es := fun p hp => by
  obtain ⟨es', n, D⟩ := He.dicW_ok h
  obtain ⟨u, h1, h2⟩ := He.valsB_ok hv (q := (p.1, .str p.2)) (List.mem_map.mpr ⟨p, hp, rfl⟩)
  exact ⟨es', n, u, D.at_, D.lit, h1, h2⟩
theorem tab_of {fa : List He.Fa} {fn : List He.DefD} {ts : List He.Tab} {w : World} {K : PySem.W.Frag} (c : He.SaysT fa fn ts w K) (i : Nat) {t : He.Tab} (h : ts[i]? = some t) : He.dicW K (t.1 K) = some (He.keysIn w.params t.2) := by
  have e : ts.map (fun t => He.dicW K (t.1 K)) = ts.map fun t => some (He.keysIn w.params t.2) := congrArg (fun z : He.AlT => z.2) c
  have e2 : (ts.map fun t => He.dicW K (t.1 K))[i]? = (ts.map fun t => some (He.keysIn w.params t.2))[i]? := by rw [e]
  rw [List.getElem?_map, List.getElem?_map, h] at e2
  exact Option.some.inj e2
end CI

set_option Elab.async false
set_option linter.all false
set_option maxRecDepth 100000
set_option maxHeartbeats 4000000
/-! the rules, said of bundles -/
namespace CI
open PySem PySem.Spec PyProof.Rows L2 Evl
section
variable {X : Cx} {E : XK} {c : Ct} {cl : Nat → Addr} {e o i : Expr} {es : List Expr} {pos p apos : Pos}
abbrev cX (X : Cx) (cl : Nat → Addr) : Ct := ⟨X.K, X.w, cl⟩
/-! leaves -/
theorem b_var (i : Nat) {x : Str} (hN : X.N[i]? = some x := by rfl) (hv : Vis X.env.scope x := by first | exact Or.inl rfl | exact Or.inr (Or.inl rfl) | exact Or.inr (Or.inr rfl)) (hd : (x == ("__debug__" : Str)) = false := by decide)
    (hcd : (x == ("__classdict__" : Str)) = false := by decide) : PE X (.Name x pos) ((XE.var i : XE c).t E) := pe_var hN hv hd hcd
theorem b_int {z : Int} {j : Nat} : PE X (.Constant (.int z) j pos) ((XE.int z : XE c).t E) := pe_int
theorem b_str {z : Str} {j : Nat} : PE X (.Constant (.str z) j pos) ((XE.str z : XE c).t E) := pe_str
theorem b_bl {z : Bool} {j : Nat} : PE X (.Constant (.bool z) j pos) ((XE.bl z : XE c).t E) := pe_bl
theorem b_non {j : Nat} : PE X (.Constant .none j pos) ((XE.non : XE c).t E) := pe_non
theorem b_gint {x : Str} {z : Int} (hg : Gl X x) (h : ∃ t, X.mg x = some (.int z t)) (hd : (x == ("__debug__" : Str)) = false := by decide) : PE X (.Name x pos) ((XE.int z : XE c).t E) := CK.pe_gint hg h hd
theorem b_gstr {x z : Str} (hg : Gl X x) (h : ∃ t, X.mg x = some (.str z t)) (hd : (x == ("__debug__" : Str)) = false := by decide) : PE X (.Name x pos) ((XE.str z : XE c).t E) := CK.pe_gstr hg h hd
theorem b_gref {x : Str} {a : Addr} {y : AV} {hy : ∀ μ H, Va c μ H (.ref a) y} (hg : Gl X x) (h : X.mg x = some (.ref a)) (hd : (x == ("__debug__" : Str)) = false := by decide) : PE X (.Name x pos) ((XE.cst (.ref a) y hy : XE c).t E) := CK.pe_gref hg h hd
theorem b_nil : PA X [] ((XA.nil : XA c).t E) := pa_nil
theorem b_cons {a : XE c} {r : XA c} (ha : PE X e (a.t E)) (hr : PA X es (r.t E)) (hs : starEach (e :: es) X.env = (false, eval e X.env) :: starEach es X.env := by rfl) : PA X (e :: es) ((XA.cons a r).t E) := pa_cons ha hr hs
/-! operators -/
variable {a b d : XE c}
variable {e2 e3 : Expr}
theorem b_sub (ha : PE X e (a.t E)) (hb : PE X e2 (b.t E)) : PE X (.BinOp e .Sub e2 pos) ((XE.sub a b).t E) := pe_op op_sub ha hb
theorem b_mul (ha : PE X e (a.t E)) (hb : PE X e2 (b.t E)) : PE X (.BinOp e .Mult e2 pos) ((XE.mul a b).t E) := pe_op op_mul ha hb
theorem b_fdiv (ha : PE X e (a.t E)) (hb : PE X e2 (b.t E)) : PE X (.BinOp e .FloorDiv e2 pos) ((XE.fdiv a b).t E) := pe_op op_fdiv ha hb
theorem b_mod (ha : PE X e (a.t E)) (hb : PE X e2 (b.t E)) : PE X (.BinOp e .Mod e2 pos) ((XE.mod a b).t E) := pe_op op_mod ha hb
theorem b_pow (ha : PE X e (a.t E)) (hb : PE X e2 (b.t E)) : PE X (.BinOp e .Pow e2 pos) ((XE.pow a b).t E) := pe_op op_pow ha hb
theorem b_neg (ha : PE X e (a.t E)) : PE X (.UnaryOp .USub e pos) ((XE.neg a).t E) := show PE X _ (tUn (rU fun i => .int (-i)) (a.t E)) from pe_un un_neg ha
theorem b_add {a b : XE (cX X cl)} (ha : PE X e (a.t E)) (hb : PE X e2 (b.t E)) : PE X (.BinOp e .Add e2 pos) ((XE.add a b).t E) := pe_op op_add4 ha hb
theorem b_lt (ha : PE X e (a.t E)) (hb : PE X e2 (b.t E)) : PE X (.Compare e [.Lt] [e2] pos) ((XE.lt a b).t E) := pe_cmpR op_lt ha hb (nomark _)
theorem b_le (ha : PE X e (a.t E)) (hb : PE X e2 (b.t E)) : PE X (.Compare e [.LtE] [e2] pos) ((XE.le a b).t E) := pe_cmpR op_le ha hb (nomark _)
theorem b_gt (ha : PE X e (a.t E)) (hb : PE X e2 (b.t E)) : PE X (.Compare e [.Gt] [e2] pos) ((XE.gt a b).t E) := pe_cmpR op_gt ha hb (nomark _)
theorem b_ge (ha : PE X e (a.t E)) (hb : PE X e2 (b.t E)) : PE X (.Compare e [.GtE] [e2] pos) ((XE.ge a b).t E) := pe_cmpR op_ge ha hb (nomark _)
theorem b_eq {a b : XE (cX X cl)} (hu : X.A.units + 64 < cLine) (ha : PE X e (a.t E)) (hb : PE X e2 (b.t E)) : PE X (.Compare e [.Eq] [e2] pos) ((XE.eq a b).t E) := pe_cmpR (op_eq2 hu) ha hb (nomark _)
theorem b_ne {a b : XE (cX X cl)} (hu : X.A.units + 64 < cLine) (ha : PE X e (a.t E)) (hb : PE X e2 (b.t E)) : PE X (.Compare e [.NotEq] [e2] pos) ((XE.ne a b).t E) := pe_cmpR (op_ne2 hu) ha hb (nomark _)
theorem b_in {a b : XE (cX X cl)} (hu : X.A.units + 1 < cLine) (ha : PE X e (a.t E)) (hb : PE X e2 (b.t E)) (hm : behindInMarks .In e2 = false := by rfl) : PE X (.Compare e [.In] [e2] pos) ((XE.in false a b).t E) := pe_cmpR (op_in3 hu) ha hb hm
theorem b_nin {a b : XE (cX X cl)} (hu : X.A.units + 1 < cLine) (ha : PE X e (a.t E)) (hb : PE X e2 (b.t E)) (hm : behindInMarks .NotIn e2 = false := by rfl) : PE X (.Compare e [.NotIn] [e2] pos) ((XE.in true a b).t E) := pe_cmpR (op_notIn3 hu) ha hb hm
theorem b_isN {j : Nat} {p : Pos} (ha : PE X e (a.t E)) : PE X (.Compare e [.Is] [.Constant .none j p] pos) ((XE.isNone a).t E) := pe_cmpR op_isN1 ha pe_non (nomark _)
theorem b_notN {j : Nat} {p : Pos} (ha : PE X e (a.t E)) : PE X (.Compare e [.IsNot] [.Constant .none j p] pos) ((XE.notNone a).t E) := pe_cmpR op_notN1 ha pe_non (nomark _)
theorem b_chain {op op' : CmpOp} {r r' : R2} {g g' : AV → AV → M AV} {h : Sim2 c r g} {h' : Sim2 c r' g'} (ho : OpR X (compareOp op) r) (ho' : OpR X (compareOp op') r') (ha : PE X e (a.t E)) (hb : PE X e2 (b.t E)) (hd : PE X e3 (d.t E))
    (hm : lastMarks [op, op'] [e2, e3] = false := by with_unfolding_all rfl) : PE X (.Compare e [op, op'] [e2, e3] pos) ((XE.chain h h' a b d).t E) := pe_chain ho ho' ha hb hd hm
theorem b_and {rest : List Expr} (ha : PE X e (a.t E)) (hb : PE X (.BoolOp .And (e2 :: rest) pos) (b.t E)) : PE X (.BoolOp .And (e :: e2 :: rest) pos) ((XE.and a b).t E) := pe_and ha hb
theorem b_or {rest : List Expr} (ha : PE X e (a.t E)) (hb : PE X (.BoolOp .Or (e2 :: rest) pos) (b.t E)) : PE X (.BoolOp .Or (e :: e2 :: rest) pos) ((XE.or a b).t E) := pe_or ha hb
theorem b_one {op : BoolOp} (ha : PE X e (a.t E)) : PE X (.BoolOp op [e] pos) (a.t E) := pe_one ha
theorem b_not (ha : PE X e (a.t E)) : PE X (.UnaryOp .Not e pos) ((XE.not a).t E) := pe_not ha
theorem b_ife {t : XT c} (ht : PT X e3 (t.t E)) (ha : PE X e (a.t E)) (hb : PE X e2 (b.t E)) : PE X (.IfExp e3 e e2 pos) ((XE.ife t a b).t E) := pe_ifExp ht ha hb
theorem b_tup {r : XA c} {j : Nat} (h : PA X es (r.t E)) : PE X (.Tuple es j pos) ((XE.tup r).t E) := pe_tup h
theorem b_lst {r : XA c} (h : PA X es (r.t E)) : PE X (.List es pos) ((XE.lst r).t E) := pe_lst h
theorem b_dict0 : PE X (.Dict [] [] pos) ((XE.dict0 : XE c).t E) := pe_dnewK
theorem b_ix {a b : XE (cX X cl)} (hu : X.A.units + 1 < cLine) (ha : PE X e (a.t E)) (hb : PE X e2 (b.t E)) (hs : PlainIx e2 := by exact fun _ _ => rfl) : PE X (.Subscript e e2 pos) ((XE.ix a b).t E) := pe_ix (ix_all hu) ha hb hs
theorem b_pno : PO X none ((XO.no : XO c).t E) := po_none
theorem b_pof (h : PE X e (a.t E)) : PO X (some e) ((XO.of a).t E) := po_some h
theorem b_sl {a : XE (cX X cl)} {l h : XO (cX X cl)} {lo hi : Option Expr} {p2 : Pos} (he : PE X e (a.t E)) (hl : PO X lo (l.t E)) (hu : PO X hi (h.t E)) : PE X (.Subscript e (.Slice lo hi none p2) pos) ((XE.sl a l h).t E) := pe_slice sl_all he hl hu
theorem b_fld {C : Nat} {f : Str} {a : XE (cX X cl)} {hc : Cls X.K (cl C)} {hn : NoAttr X.K (cl C) f} (he : PE X e (a.t E)) (hb : attributeBase e f X.env (eval e X.env) = eval e X.env := by rfl) : PE X (.Attribute e f pos) ((XE.fld (c := cX X cl) C f hc hn a).t E) := pe_fld he hb
/-! builtins -/
theorem b_len {x : Str} {r : XA (cX X cl)} (hg : Gl X x) (hm : X.mg x = none) (hv : bootBuiltins x = some (.builtin "len")) (ha : PA X (e :: es) (r.t E)) (hn : x ≠ "__name__" := by decide) (hdb : (x == ("__debug__" : Str)) = false := by decide)
    (he : starEach (e :: es) X.env = (false, eval e X.env) :: starEach es X.env := by rfl) (hpl : (backTo pos (starEach es X.env)).any (·.1) = false := by rfl) : PE X (.Call (.Name x p) (e :: es) [] pos) ((XE.len r).t E) := pe_callB call_len3 hg hm hv ha hn hdb he hpl
theorem b_all {x : Str} {r : XA (cX X cl)} (hc : X.calm = true) (hg : Gl X x) (hm : X.mg x = none) (hv : bootBuiltins x = some (.builtin "all")) (ha : PA X (e :: es) (r.t E)) (hn : x ≠ "__name__" := by decide) (hdb : (x == ("__debug__" : Str)) = false := by decide)
    (he : starEach (e :: es) X.env = (false, eval e X.env) :: starEach es X.env := by rfl) (hpl : (backTo pos (starEach es X.env)).any (·.1) = false := by rfl) : PE X (.Call (.Name x p) (e :: es) [] pos) ((XE.all r).t E) := pe_callB (cr_all hc) hg hm hv ha hn hdb he hpl
theorem b_any {x : Str} {r : XA (cX X cl)} (hc : X.calm = true) (hg : Gl X x) (hm : X.mg x = none) (hv : bootBuiltins x = some (.builtin "any")) (ha : PA X (e :: es) (r.t E)) (hn : x ≠ "__name__" := by decide) (hdb : (x == ("__debug__" : Str)) = false := by decide)
    (he : starEach (e :: es) X.env = (false, eval e X.env) :: starEach es X.env := by rfl) (hpl : (backTo pos (starEach es X.env)).any (·.1) = false := by rfl) : PE X (.Call (.Name x p) (e :: es) [] pos) ((XE.any r).t E) := pe_callB (cr_any hc) hg hm hv ha hn hdb he hpl
theorem b_sum {x : Str} {r : XA (cX X cl)} (hc : X.calm = true) (hg : Gl X x) (hm : X.mg x = none) (hv : bootBuiltins x = some (.builtin "sum")) (ha : PA X (e :: es) (r.t E)) (hn : x ≠ "__name__" := by decide) (hdb : (x == ("__debug__" : Str)) = false := by decide)
    (he : starEach (e :: es) X.env = (false, eval e X.env) :: starEach es X.env := by rfl) (hpl : (backTo pos (starEach es X.env)).any (·.1) = false := by rfl) : PE X (.Call (.Name x p) (e :: es) [] pos) ((XE.sum r).t E) := pe_callB (cr_sum hc) hg hm hv ha hn hdb he hpl
theorem b_int1 {x : Str} {r : XA c} (hg : Gl X x) (hm : X.mg x = none) (hv : bootBuiltins x = some (.type "int")) (ha : PA X (e :: es) (r.t E)) (hn : x ≠ "__name__" := by decide) (hdb : (x == ("__debug__" : Str)) = false := by decide)
    (he : starEach (e :: es) X.env = (false, eval e X.env) :: starEach es X.env := by rfl) (hpl : (backTo pos (starEach es X.env)).any (·.1) = false := by rfl) : PE X (.Call (.Name x p) (e :: es) [] pos) ((XE.int1 r).t E) := pe_callTy call_int' hg hm hv ha hn hdb he hpl
theorem b_list1 {x : Str} {r : XA (cX X cl)} (hg : Gl X x) (hm : X.mg x = none) (hv : bootBuiltins x = some (.type "list")) (ha : PA X (e :: es) (r.t E)) (hn : x ≠ "__name__" := by decide) (hdb : (x == ("__debug__" : Str)) = false := by decide)
    (he : starEach (e :: es) X.env = (false, eval e X.env) :: starEach es X.env := by rfl) (hpl : (backTo pos (starEach es X.env)).any (·.1) = false := by rfl) : PE X (.Call (.Name x p) (e :: es) [] pos) ((XE.list1 r).t E) := pe_callTy call_list1 hg hm hv ha hn hdb he hpl
theorem b_tup1 {x : Str} {r : XA (cX X cl)} (hg : Gl X x) (hm : X.mg x = none) (hv : bootBuiltins x = some (.type "tuple")) (ha : PA X (e :: es) (r.t E)) (hn : x ≠ "__name__" := by decide) (hdb : (x == ("__debug__" : Str)) = false := by decide)
    (he : starEach (e :: es) X.env = (false, eval e X.env) :: starEach es X.env := by rfl) (hpl : (backTo pos (starEach es X.env)).any (·.1) = false := by rfl) : PE X (.Call (.Name x p) (e :: es) [] pos) ((XE.tup1 r).t E) := pe_callTy call_tup1 hg hm hv ha hn hdb he hpl
theorem b_tupW {x y : Str} {q : Pos} {a : Addr} {ks : List Str} {h : CITup.WK X.K X.w a ks} (hc : X.calm = true) (hg : Gl X x) (hm : X.mg x = none) (hv : bootBuiltins x = some (.type "tuple")) (hgy : Gl X y) (hy : X.mg y = some (.ref a)) (hn : x ≠ "__name__" := by decide) (hdb : (x == ("__debug__" : Str)) = false := by decide) (hdy : (y == ("__debug__" : Str)) = false := by decide)
    (he : starEach [.Name y q] X.env = (false, eval (.Name y q) X.env) :: starEach [] X.env := by rfl) (hpl : (backTo pos (starEach [] X.env)).any (·.1) = false := by rfl) : PE X (.Call (.Name x p) [.Name y q] [] pos) ((XE.tupW (c := cX X cl) a ks h).t E) :=
  pe_callTy (CITup.call_tupW hc) hg hm hv (pa_cons (CK.pe_gref hgy hy hdy) pa_nil he) hn hdb he hpl
theorem b_isi {x y : Str} {q : Pos} {T : String} {hT : T ∈ CK.tysL.tail} {a : XE (cX X cl)} (hg : Gl X x) (hm : X.mg x = none) (hv : bootBuiltins x = some (.builtin "isinstance")) (ha : PE X e (a.t E)) (hgy : Gl X y) (hmy : X.mg y = none) (hvy : bootBuiltins y = some (.type T)) (hn : x ≠ "__name__" := by decide) (hdb : (x == ("__debug__" : Str)) = false := by decide) (hny : y ≠ "__name__" := by decide) (hdy : (y == ("__debug__" : Str)) = false := by decide)
    (he : starEach [e, .Name y q] X.env = (false, eval e X.env) :: starEach [.Name y q] X.env := by rfl) (he2 : starEach [.Name y q] X.env = (false, eval (.Name y q) X.env) :: starEach [] X.env := by rfl) (hpl : (backTo pos (starEach [.Name y q] X.env)).any (·.1) = false := by rfl) : PE X (.Call (.Name x p) [e, .Name y q] [] pos) ((XE.isi (c := cX X cl) T hT a).t E) :=
  pe_callB call_isi hg hm hv (pa_cons ha (pa_cons (CK.pe_ty hgy hmy hvy hny hdy) pa_nil he2) he) hn hdb he hpl
theorem b_isi2 {x y z : Str} {q q2 q3 : Pos} {j : Nat} {T U : String} {hT : T ∈ CK.tysL.tail} {hU : U ∈ CK.tysL.tail} {a : XE (cX X cl)} (hg : Gl X x) (hm : X.mg x = none) (hv : bootBuiltins x = some (.builtin "isinstance")) (ha : PE X e (a.t E)) (hgy : Gl X y) (hmy : X.mg y = none) (hvy : bootBuiltins y = some (.type T)) (hgz : Gl X z) (hmz : X.mg z = none) (hvz : bootBuiltins z = some (.type U))
    (hn : x ≠ "__name__" := by decide) (hdb : (x == ("__debug__" : Str)) = false := by decide) (hny : y ≠ "__name__" := by decide) (hdy : (y == ("__debug__" : Str)) = false := by decide) (hnz : z ≠ "__name__" := by decide) (hdz : (z == ("__debug__" : Str)) = false := by decide)
    (he : starEach [e, .Tuple [.Name y q, .Name z q2] j q3] X.env = (false, eval e X.env) :: starEach [.Tuple [.Name y q, .Name z q2] j q3] X.env := by rfl) (he2 : starEach [.Tuple [.Name y q, .Name z q2] j q3] X.env = (false, eval (.Tuple [.Name y q, .Name z q2] j q3) X.env) :: starEach [] X.env := by rfl)
    (he3 : starEach [.Name y q, .Name z q2] X.env = (false, eval (.Name y q) X.env) :: starEach [.Name z q2] X.env := by rfl) (he4 : starEach [.Name z q2] X.env = (false, eval (.Name z q2) X.env) :: starEach [] X.env := by rfl)
    (hpl : (backTo pos (starEach [.Tuple [.Name y q, .Name z q2] j q3] X.env)).any (·.1) = false := by rfl) : PE X (.Call (.Name x p) [e, .Tuple [.Name y q, .Name z q2] j q3] [] pos) ((XE.isi2 (c := cX X cl) T U hT hU a).t E) :=
  pe_callB call_isiT hg hm hv (pa_cons ha (pa_cons (pe_tup (pa_cons (CK.pe_ty hgy hmy hvy hny hdy) (pa_cons (CK.pe_ty hgz hmz hvz hnz hdz) pa_nil he4) he3)) pa_nil he2) he) hn hdb he hpl
theorem b_dzip {p2 pos2 kp cp : Pos} {j : Nat} {r : XA (cX X cl)} (hc : X.calm = true) (hg2 : Gl X "dict") (hm2 : X.mg "dict" = none) (hg : Gl X "zip") (hm : X.mg "zip" = none) (ha : PA X [e, e2] (r.t E))
    (he : backTo pos (starEach [e, e2] X.env) = (false, eval e X.env) :: backTo pos (starEach [e2] X.env) := by rfl)
    (hpl : (backTo pos (starEach [e, e2] X.env)).any (·.1) = false := by rfl)
    (na : starEach [.Call (.Name "zip" p) [e, e2] [⟨some "strict", .Constant (.bool true) j cp, kp⟩] pos] X.env = (false, eval (.Call (.Name "zip" p) [e, e2] [⟨some "strict", .Constant (.bool true) j cp, kp⟩] pos) X.env) :: starEach [] X.env := by rfl) :
    PE X (.Call (.Name "dict" p2) [.Call (.Name "zip" p) [e, e2] [⟨some "strict", .Constant (.bool true) j cp, kp⟩] pos] [] pos2) ((XE.dzip r).t E) := pe_dictZip hc hg2 hm2 hg hm ha he hpl na
/-! methods of lists, dicts -/
theorem b_append {a : XE (cX X cl)} {r : XA (cX X cl)} {cpos : Pos} (ho : PE X o (a.t E)) (ha : PA X (e :: es) (r.t E))
    (hbase : attributeBase o "append" X.env (eval o X.env) = eval o X.env := by rfl)
    (hfew : ((backTo cpos (starEach (e :: es) X.env)).all (fun x => !x.1) && (backToKw cpos (keywordEach [] X.env)).all (fun x => x.1.isSome)
      && decide ((e :: es).length + ([] : List Keyword).length + (if ([] : List Keyword).isEmpty then 0 else 1) < 30)) = true := by rfl)
    (hline : (apos.endLine == cpos.line) = true := by rfl) (hs : starEach (e :: es) X.env = (false, eval e X.env) :: starEach es X.env := by rfl) (hplain : (backTo cpos (starEach es X.env)).any (·.1) = false := by rfl) :
    PE X (.Call (.Attribute o "append" apos) (e :: es) [] cpos) ((XE.append a r).t E) := pe_bm PySem.F.plainAttrs_list PySem.F.slot_list_append PySem.F.type_list_append mt_append ho ha hbase hfew hline hs hplain
theorem b_extend {a : XE (cX X cl)} {r : XA (cX X cl)} {cpos : Pos} (ho : PE X o (a.t E)) (ha : PA X (e :: es) (r.t E))
    (hbase : attributeBase o "extend" X.env (eval o X.env) = eval o X.env := by rfl)
    (hfew : ((backTo cpos (starEach (e :: es) X.env)).all (fun x => !x.1) && (backToKw cpos (keywordEach [] X.env)).all (fun x => x.1.isSome)
      && decide ((e :: es).length + ([] : List Keyword).length + (if ([] : List Keyword).isEmpty then 0 else 1) < 30)) = true := by rfl)
    (hline : (apos.endLine == cpos.line) = true := by rfl) (hs : starEach (e :: es) X.env = (false, eval e X.env) :: starEach es X.env := by rfl) (hplain : (backTo cpos (starEach es X.env)).any (·.1) = false := by rfl) :
    PE X (.Call (.Attribute o "extend" apos) (e :: es) [] cpos) ((XE.extend a r).t E) := pe_bm PySem.F.plainAttrs_list PySem.F.slot_list_extend PySem.F.type_list_extend mt_ext2 ho ha hbase hfew hline hs hplain
theorem b_dupd {a : XE (cX X cl)} {r : XA (cX X cl)} {cpos : Pos} (ho : PE X o (a.t E)) (ha : PA X (e :: es) (r.t E))
    (hbase : attributeBase o "update" X.env (eval o X.env) = eval o X.env := by rfl)
    (hfew : ((backTo cpos (starEach (e :: es) X.env)).all (fun x => !x.1) && (backToKw cpos (keywordEach [] X.env)).all (fun x => x.1.isSome)
      && decide ((e :: es).length + ([] : List Keyword).length + (if ([] : List Keyword).isEmpty then 0 else 1) < 30)) = true := by rfl)
    (hline : (apos.endLine == cpos.line) = true := by rfl) (hs : starEach (e :: es) X.env = (false, eval e X.env) :: starEach es X.env := by rfl) (hplain : (backTo cpos (starEach es X.env)).any (·.1) = false := by rfl) :
    PE X (.Call (.Attribute o "update" apos) (e :: es) [] cpos) ((XE.dupd a r).t E) := pe_bm PySem.F.plainAttrs_dict PySem.F.slot_dict_update PySem.F.type_dict_update mt_dupd ho ha hbase hfew hline hs hplain
theorem b_pop {a : XE (cX X cl)} {cpos : Pos} (ho : PE X o (a.t E)) (hbase : attributeBase o "pop" X.env (eval o X.env) = eval o X.env := by rfl) (hline : (apos.endLine == cpos.line) = true := by rfl) :
    PE X (.Call (.Attribute o "pop" apos) [] [] cpos) ((XE.pop a).t E) := pe_bm0 PySem.F.plainAttrs_list PySem.F.slot_list_pop PySem.F.type_list_pop mt_pop ho hbase hline
/-! calls -/
variable {k : Nat} {x m : Str} {ps : List Str} {g : List AV → M AV}
theorem b_call {r : XA (cX X cl)} (O : CK.Ok X.prog X.w X.K X.mg X.base k x ps (spI (cX X cl) g)) (hr : Room k X.A) (hg : Gl X x) (ha : PA X (e :: es) (r.t E)) (hdb : (x == ("__debug__" : Str)) = false := by decide)
    (he : starEach (e :: es) X.env = (false, eval e X.env) :: starEach es X.env := by rfl) (hpl : (backTo pos (starEach es X.env)).any (·.1) = false := by rfl) : PE X (.Call (.Name x p) (e :: es) [] pos) ((XE.call g r).t E) := pe_callF O hr hg ha hdb he hpl
theorem b_call0 (O : CK.Ok X.prog X.w X.K X.mg X.base k x ps (spI (cX X cl) g)) (hr : Room k X.A) (hg : Gl X x) (hdb : (x == ("__debug__" : Str)) = false := by decide) : PE X (.Call (.Name x p) [] [] pos) ((XE.call g (XA.nil : XA (cX X cl))).t E) := pe_callF0 O hr hg hdb
theorem b_callD {r : XA (cX X cl)} {dvs : List V} {ds : List AV} {h : ∀ μ H, VaAll (cX X cl) μ H dvs ds} (O : OkD X.prog X.w X.K X.mg X.base k x ps dvs (spI (cX X cl) g)) (hr : Room k X.A) (hg : Gl X x) (ha : PA X (e :: es) (r.t E)) (hdb : (x == ("__debug__" : Str)) = false := by decide)
    (he : starEach (e :: es) X.env = (false, eval e X.env) :: starEach es X.env := by rfl) (hpl : (backTo pos (starEach es X.env)).any (·.1) = false := by rfl) : PE X (.Call (.Name x p) (e :: es) [] pos) ((XE.callD g dvs ds h r).t E) := pe_callFD O hr hg ha hdb he hpl
theorem b_meth {pl : Sem Bool} {C : Nat} {a : XE (cX X cl)} {r : XA (cX X cl)} (O : CK.OkM X.prog X.w X.K X.mg X.base (cl C) k m ps (spI (cX X cl) g)) (he : PE X o (a.t E)) (c : Cls X.K (cl C)) (hr : Room k X.A) (ha : PA X (e :: es) (r.t E))
    (hst : starEach (e :: es) X.env = (false, eval e X.env) :: starEach es X.env := by rfl) (hpl : (backTo pos (starEach es X.env)).any (·.1) = false := by rfl)
    (ht : eval (.Call (.Attribute o m apos) (e :: es) [] pos) X.env = (do
      let ov ← eval o X.env
      standAt apos.atName
      let (f, first) ← holding [ov] (getMethod ov m pl)
      callWith pos f first (backTo pos (starEach (e :: es) X.env)) (backToKw pos (keywordEach [] X.env))) := by rfl) : PE X (.Call (.Attribute o m apos) (e :: es) [] pos) ((XE.meth C m g a r).t E) := pe_methF O he c hr ha hst hpl ht
theorem b_meth0 {pl : Sem Bool} {C : Nat} {a : XE (cX X cl)} (O : CK.OkM X.prog X.w X.K X.mg X.base (cl C) k m ps (spI (cX X cl) g)) (he : PE X o (a.t E)) (c : Cls X.K (cl C)) (hr : Room k X.A)
    (ht : eval (.Call (.Attribute o m apos) [] [] pos) X.env = (do
      let ov ← eval o X.env
      standAt apos.atName
      let (f, first) ← holding [ov] (getMethod ov m pl)
      callWith pos f first (backTo pos (starEach [] X.env)) (backToKw pos (keywordEach [] X.env))) := by rfl) : PE X (.Call (.Attribute o m apos) [] [] pos) ((XE.meth C m g a XA.nil).t E) := pe_methF0 O he c hr ht
theorem b_make {C : Nat} {r : XA (cX X cl)} (O : CK.OkI X.prog X.w X.K X.mg X.base (cl C) k x ps (spI (cX X cl) g)) (hr : Room (k + 1) X.A) (hg : Gl X x) (ha : PA X (e :: es) (r.t E)) (hdb : (x == ("__debug__" : Str)) = false := by decide)
    (he : starEach (e :: es) X.env = (false, eval e X.env) :: starEach es X.env := by rfl) (hpl : (backTo pos (starEach es X.env)).any (·.1) = false := by rfl) : PE X (.Call (.Name x p) (e :: es) [] pos) ((XE.make C g r).t E) := pe_makeF O hr hg ha hdb he hpl
/-! tests -/
variable {t u : XT c}
theorem b_test (h : PE X e (a.t E)) (he : ∀ whole, isTrue e X.env whole = (do let v ← whole; standAt e.pos; holding [v] (truthy v)) := by intro _; rfl) : PT X e ((XT.ofE a).t E) := pt_val h he
theorem b_tlt (ha : PE X e (a.t E)) (hb : PE X e2 (b.t E)) : PT X (.Compare e [.Lt] [e2] pos) ((XT.ofE (XE.lt a b)).t E) := pt_cmpR op_lt ha hb (nomark _)
theorem b_tle (ha : PE X e (a.t E)) (hb : PE X e2 (b.t E)) : PT X (.Compare e [.LtE] [e2] pos) ((XT.ofE (XE.le a b)).t E) := pt_cmpR op_le ha hb (nomark _)
theorem b_tgt (ha : PE X e (a.t E)) (hb : PE X e2 (b.t E)) : PT X (.Compare e [.Gt] [e2] pos) ((XT.ofE (XE.gt a b)).t E) := pt_cmpR op_gt ha hb (nomark _)
theorem b_tge (ha : PE X e (a.t E)) (hb : PE X e2 (b.t E)) : PT X (.Compare e [.GtE] [e2] pos) ((XT.ofE (XE.ge a b)).t E) := pt_cmpR op_ge ha hb (nomark _)
theorem b_teq {a b : XE (cX X cl)} (hu : X.A.units + 64 < cLine) (ha : PE X e (a.t E)) (hb : PE X e2 (b.t E)) : PT X (.Compare e [.Eq] [e2] pos) ((XT.ofE (XE.eq a b)).t E) := pt_cmpR (op_eq2 hu) ha hb (nomark _)
theorem b_tne {a b : XE (cX X cl)} (hu : X.A.units + 64 < cLine) (ha : PE X e (a.t E)) (hb : PE X e2 (b.t E)) : PT X (.Compare e [.NotEq] [e2] pos) ((XT.ofE (XE.ne a b)).t E) := pt_cmpR (op_ne2 hu) ha hb (nomark _)
theorem b_tin {a b : XE (cX X cl)} (hu : X.A.units + 1 < cLine) (ha : PE X e (a.t E)) (hb : PE X e2 (b.t E)) (hm : behindInMarks .In e2 = false := by rfl) : PT X (.Compare e [.In] [e2] pos) ((XT.ofE (XE.in false a b)).t E) := pt_cmpR (op_in3 hu) ha hb hm
theorem b_tnin {a b : XE (cX X cl)} (hu : X.A.units + 1 < cLine) (ha : PE X e (a.t E)) (hb : PE X e2 (b.t E)) (hm : behindInMarks .NotIn e2 = false := by rfl) : PT X (.Compare e [.NotIn] [e2] pos) ((XT.ofE (XE.in true a b)).t E) := pt_cmpR (op_notIn3 hu) ha hb hm
theorem b_tisN {j : Nat} {p : Pos} (ha : PE X e (a.t E)) : PT X (.Compare e [.Is] [.Constant .none j p] pos) ((XT.ofE (XE.isNone a)).t E) := pt_cmpR op_isN1 ha pe_non (nomark _)
theorem b_tnotN {j : Nat} {p : Pos} (ha : PE X e (a.t E)) : PT X (.Compare e [.IsNot] [.Constant .none j p] pos) ((XT.ofE (XE.notNone a)).t E) := pt_cmpR op_notN1 ha pe_non (nomark _)
theorem b_tchain {op op' : CmpOp} {r r' : R2} {g g' : AV → AV → M AV} {h : Sim2 c r g} {h' : Sim2 c r' g'} (ho : OpR X (compareOp op) r) (ho' : OpR X (compareOp op') r') (ha : PE X e (a.t E)) (hb : PE X e2 (b.t E)) (hd : PE X e3 (d.t E))
    (hm : lastMarks [op, op'] [e2, e3] = false := by with_unfolding_all rfl) : PT X (.Compare e [op, op'] [e2, e3] pos) ((XT.ofE (XE.chain h h' a b d)).t E) := pt_chain ho ho' ha hb hd hm
theorem b_wand1 (h : PT X e (t.t E)) : PW X (.BoolOp .And [e] pos) (t.t E) := pw_and1 h
theorem b_wor1 (h : PT X e (t.t E)) : PW X (.BoolOp .Or [e] pos) (t.t E) := pw_or1 h
theorem b_wand {rest : List Expr} (h : PT X e (t.t E)) (hb : PW X (.BoolOp .And (e2 :: rest) pos) (u.t E)) : PW X (.BoolOp .And (e :: e2 :: rest) pos) ((XT.and t u).t E) := pw_and h hb
theorem b_wor {rest : List Expr} (h : PT X e (t.t E)) (hb : PW X (.BoolOp .Or (e2 :: rest) pos) (u.t E)) : PW X (.BoolOp .Or (e :: e2 :: rest) pos) ((XT.or t u).t E) := pw_or h hb
theorem b_pt (h : PW X e (t.t E)) : PT X e (t.t E) := PW.pt h
theorem b_tnot (h : PT X e (t.t E)) : PT X (.UnaryOp .Not e pos) ((XT.not t).t E) := pt_not h
theorem b_tsnil : PTs X [] ((XT.yes : XT c).t E) := pts_nil
theorem b_tsone (h : PT X e (t.t E)) : PTs X [e] (t.t E) := pts_one h
/-! walks -/
variable {tg : Expr}
theorem b_itup {a : XE (cX X cl)} (h : PE X e (a.t E)) : PI X tg e ((XI.tup a).t E) := pi_tup h
theorem b_ilst {a : XE (cX X cl)} (h : PE X e (a.t E)) : PI X tg e ((XI.lst a).t E) := pi_list h
theorem b_istr (h : PE X e (a.t E)) : PI X tg e ((XI.str a).t E) := pi_str h
theorem b_irng {r : XA c} (hg : Gl X "range") (hm : X.mg "range" = none) (ha : PA X [e] (r.t E)) (hs : starEach [e] X.env = [(false, eval e X.env)] := by rfl) : PI X tg (.Call (.Name "range" p) [e] [] pos) ((XI.rng r).t E) := pi_range1 hg hm ha hs
theorem b_irng2 {r : XA c} (hg : Gl X "range") (hm : X.mg "range" = none) (ha : PA X [e, e2] (r.t E)) (hs : starEach [e, e2] X.env = [(false, eval e X.env), (false, eval e2 X.env)] := by rfl) (hs2 : starEach [e2] X.env = [(false, eval e2 X.env)] := by rfl) : PI X tg (.Call (.Name "range" p) [e, e2] [] pos) ((XI.rng2 r).t E) := pi_range2 hg hm ha hs hs2
theorem b_ienum {r : XA (cX X cl)} {tpos : Pos} {elts : List Expr} {kk : Nat} (hg : Gl X "enumerate") (hm : X.mg "enumerate" = none) (ha : PA X [e] (r.t E)) (hs : starEach [e] X.env = [(false, eval e X.env)] := by rfl) : PI X (.Tuple elts kk tpos) (.Call (.Name "enumerate" p) [e] [] pos) ((XI.enum r).t E) := pi_enumS hg hm ha hs
theorem b_izip {r : XA (cX X cl)} {tpos kp cp : Pos} {j : Nat} {elts : List Expr} {kk : Nat} (hg : Gl X "zip") (hm : X.mg "zip" = none) (ha : PA X [e, e2] (r.t E))
    (he : backTo pos (starEach [e, e2] X.env) = (false, eval e X.env) :: backTo pos (starEach [e2] X.env) := by rfl)
    (hpl : (backTo pos (starEach [e, e2] X.env)).any (·.1) = false := by rfl) :
    PI X (.Tuple elts kk tpos) (.Call (.Name "zip" p) [e, e2] [⟨some "strict", .Constant (.bool true) j cp, kp⟩] pos) ((XI.zip r).t E) := pi_zipS hg hm ha he hpl
/-! targets -/
theorem b_gname {i : Nat} {x : Str} (hN : X.N.Nodup) (hi : X.N[i]? = some x) (hx : Loc X.env.scope x) (hf : X.fn x = true ∨ X.env.scope.names.lookup x = some .local := by first | exact .inl rfl | exact .inr rfl | assumption) : PG X (.Name x pos) ((XG.name i : XG c).t E) := pg_name hN hi hx hf
theorem b_gnil : PGs X [] ((XGs.nil : XGs c).t E) := pgs_nil
end
end CI

set_option Elab.async false
set_option linter.all false
set_option maxRecDepth 100000
set_option maxHeartbeats 4000000
/-! the rules, said of bundles: targets, comprehensions, statements -/
namespace CI
open PySem PySem.Spec PyProof.Rows L2 Evl
section
variable {X : Cx} {E : XK} {c : Ct} {cl : Nat → Addr} {e o i : Expr} {es : List Expr} {pos p apos : Pos} {e2 e3 : Expr} {tg : Expr}
theorem b_gcons {g : XG c} {r : XGs c} (h1 : PG X e (g.t E)) (h2 : PGs X es (r.t E)) (hs : (assignEach (e :: es) X.env).map (·.2) = assign e X.env :: (assignEach es X.env).map (·.2) := by rfl) : PGs X (e :: es) ((XGs.cons g r).t E) := pgs_cons h1 h2 hs
theorem b_gtup {n : Nat} {k : Nat} {r : XGs (cX X cl)} (hc : X.calm = true) (h : PGs X es (r.t E)) (hn : (assignEach es X.env).length = n := by rfl) (hst : (assignEach es X.env).findIdx? (·.1) = none := by rfl) : PG X (.Tuple es k pos) ((XG.tup n r).t E) := pg_tup hc h hn hst
theorem b_gsub {a b : XE (cX X cl)} (hu : X.A.units + 1 < cLine) (ho : PE X o (a.t E)) (hi : PE X i (b.t E))
    (ha : ∀ v, assign (.Subscript o i pos) X.env v = (do
      let ov ← holding [v] (eval o X.env)
      let iv ← holding [v, ov] (eval i X.env)
      standAt pos
      holding [v, ov, iv] (setItem ov iv v)
      release [v, ov, iv] []) := by intro _; rfl) : PG X (.Subscript o i pos) ((XG.sub a b).t E) := pg_sub ho hi (set_2 hu) ha
/-! comprehensions -/
variable {elt kx vx iter : Expr} {ifs : List Expr} {scope : Scope} {own : List (Str × Nat)} {w : XI c} {g : XG c} {t : XT c} {b k : XE c} {vs : List Nat}
theorem b_lc {hv : ∀ i ∈ g.ns, i ∈ vs} (own : List (Str × Nat)) (hc : X.calm = true) (hN : X.N.Nodup) (hi : PI X tg iter (w.t E)) (ok : BlkOk X.N X.env.scope scope own)
    (hg : ∀ (s : Shared) (H : Hp) (C : Addr) (cl : List (Str × Addr)) (fp : List Addr), PG (X.blk s H scope (compEnvC scope cl C X.env) fp) tg (g.t E)) (ht : ∀ (s : Shared) (H : Hp) (C : Addr) (cl : List (Str × Addr)) (fp : List Addr), PTs (X.blk s H scope (compEnvC scope cl C X.env) fp) ifs (t.t E))
    (he : ∀ (s : Shared) (H : Hp) (C : Addr) (cl : List (Str × Addr)) (fp : List Addr), PE (X.blk s H scope (compEnvC scope cl C X.env) fp) elt (b.t E)) (hvs : own.map (·.2) = vs := by rfl) (hs : ∀ x, foldedSetIterable iter X.env x = pure x := by intro _; rfl) :
    PE X (.ListComp elt [⟨tg, iter, ifs, 0⟩] scope pos) ((XE.lc w g t b vs hv).t E) := by
  subst hvs
  exact pe_lc hc hN hi ok hg ht he hs
theorem b_dc {hv : ∀ i ∈ g.ns, i ∈ vs} (own : List (Str × Nat)) (hc : X.calm = true) (hN : X.N.Nodup) (hi : PI X tg iter (w.t E)) (ok : BlkOk X.N X.env.scope scope own)
    (hg : ∀ (s : Shared) (H : Hp) (C : Addr) (cl : List (Str × Addr)) (fp : List Addr), PG (X.blk s H scope (compEnvC scope cl C X.env) fp) tg (g.t E)) (ht : ∀ (s : Shared) (H : Hp) (C : Addr) (cl : List (Str × Addr)) (fp : List Addr), PTs (X.blk s H scope (compEnvC scope cl C X.env) fp) ifs (t.t E))
    (hk : ∀ (s : Shared) (H : Hp) (C : Addr) (cl : List (Str × Addr)) (fp : List Addr), PE (X.blk s H scope (compEnvC scope cl C X.env) fp) kx (k.t E))
    (he : ∀ (s : Shared) (H : Hp) (C : Addr) (cl : List (Str × Addr)) (fp : List Addr), PE (X.blk s H scope (compEnvC scope cl C X.env) fp) vx (b.t E)) (hvs : own.map (·.2) = vs := by rfl) (hs : ∀ x, foldedSetIterable iter X.env x = pure x := by intro _; rfl) :
    PE X (.DictComp kx vx [⟨tg, iter, ifs, 0⟩] scope pos) ((XE.dc w g t k b vs hv).t E) := by
  subst hvs
  exact pe_dc hc hN hi ok hg ht hk he hs
theorem b_setLc {hv : ∀ i ∈ g.ns, i ∈ vs} {j : Nat} {y : Str} {py spos : Pos} (own : List (Str × Nat)) (hc : X.calm = true) (hN : X.N.Nodup) (hy : X.N[j]? = some y) (hyl : X.env.scope.names.lookup y = some .local)
    (hsw : swapsWith (.ListComp elt [⟨tg, iter, ifs, 0⟩] scope pos) (some (.Name y py)) spos.line X.env = pure true) (hi : PI X tg iter (w.t E)) (ok : BlkOk X.N X.env.scope scope own)
    (hg : ∀ (s : Shared) (H : Hp) (C : Addr) (cl : List (Str × Addr)) (fp : List Addr), PG (X.blk s H scope (compEnvC scope cl C X.env) fp) tg (g.t E)) (ht : ∀ (s : Shared) (H : Hp) (C : Addr) (cl : List (Str × Addr)) (fp : List Addr), PTs (X.blk s H scope (compEnvC scope cl C X.env) fp) ifs (t.t E))
    (he : ∀ (s : Shared) (H : Hp) (C : Addr) (cl : List (Str × Addr)) (fp : List Addr), PE (X.blk s H scope (compEnvC scope cl C X.env) fp) elt (b.t E)) (hvs : own.map (·.2) = vs := by rfl) (hs : ∀ x, foldedSetIterable iter X.env x = pure x := by intro _; rfl) :
    PS X (.Assign [.Name y py] (.ListComp elt [⟨tg, iter, ifs, 0⟩] scope pos) spos) ((XS.asg (XE.lc w g t b vs hv) (XG.name j)).t E) := by
  subst hvs
  exact ps_setLc hc hN hy hyl hsw hi ok hg ht he hs
theorem b_setDc {hv : ∀ i ∈ g.ns, i ∈ vs} {j : Nat} {y : Str} {py spos : Pos} (own : List (Str × Nat)) (hc : X.calm = true) (hN : X.N.Nodup) (hy : X.N[j]? = some y) (hyl : X.env.scope.names.lookup y = some .local)
    (hsw : swapsWith (.DictComp kx vx [⟨tg, iter, ifs, 0⟩] scope pos) (some (.Name y py)) spos.line X.env = pure true) (hi : PI X tg iter (w.t E)) (ok : BlkOk X.N X.env.scope scope own)
    (hg : ∀ (s : Shared) (H : Hp) (C : Addr) (cl : List (Str × Addr)) (fp : List Addr), PG (X.blk s H scope (compEnvC scope cl C X.env) fp) tg (g.t E)) (ht : ∀ (s : Shared) (H : Hp) (C : Addr) (cl : List (Str × Addr)) (fp : List Addr), PTs (X.blk s H scope (compEnvC scope cl C X.env) fp) ifs (t.t E))
    (hk : ∀ (s : Shared) (H : Hp) (C : Addr) (cl : List (Str × Addr)) (fp : List Addr), PE (X.blk s H scope (compEnvC scope cl C X.env) fp) kx (k.t E))
    (he : ∀ (s : Shared) (H : Hp) (C : Addr) (cl : List (Str × Addr)) (fp : List Addr), PE (X.blk s H scope (compEnvC scope cl C X.env) fp) vx (b.t E)) (hvs : own.map (·.2) = vs := by rfl) (hs : ∀ x, foldedSetIterable iter X.env x = pure x := by intro _; rfl) :
    PS X (.Assign [.Name y py] (.DictComp kx vx [⟨tg, iter, ifs, 0⟩] scope pos) spos) ((XS.asg (XE.dc w g t k b vs hv) (XG.name j)).t E) := by
  subst hvs
  exact ps_setDc hc hN hy hyl hsw hi ok hg ht hk he hs
/-! statements -/
variable {st : Stmt} {rest xs ys : List Stmt} {s1 s2 : XS c} {a : XE c}
theorem b_snil : PSs X [] ((XS.next : XS c).t E) := pss_nil
theorem b_scons (h1 : PS X st (s1.t E)) (h2 : PSs X rest (s2.t E)) : PSs X (st :: rest) ((XS.seq s1 s2).t E) := show PSs X _ (tSeq (s1.t E) (s2.t E)) from pss_cons h1 h2
theorem b_sone (h1 : PS X st (s1.t E)) : PSs X [st] (s1.t E) := pss_one h1
theorem b_pass : PS X (.Pass pos) ((XS.next : XS c).t E) := ps_pass
theorem b_brk : PS X (.Break pos) ((XS.brk : XS c).t E) := ps_break
theorem b_cont : PS X (.Continue pos) ((XS.cont : XS c).t E) := ps_continue
theorem b_never : PS X st ((XS.never : XS c).t E) := ps_never
theorem b_ret (h : PE X e (a.t E)) : PS X (.Return (some e) pos) ((XS.ret a).t E) := ps_ret h
theorem b_retN : PS X (.Return none pos) ((XS.retN : XS c).t E) := ps_retN
theorem b_expr (he : PE X e (a.t E)) (hs : swapsWith e none pos.line X.env = pure false := by rfl) : PS X (.Expr e pos) ((XS.drop a).t E) := ps_expr he hs
theorem b_if (hc : PT X e (t.t E)) (ha : PSs X xs (s1.t E)) (hb : PSs X ys (s2.t E)) : PS X (.If e xs ys pos) ((XS.ite t s1 s2).t E) := ps_if hc ha hb
theorem b_while (hp : PassesOwn (model X.prog X.w) X.A X.env X.xe) (hc : PT X e (t.t E)) (hb : PSs X xs (s1.t E)) : PS X (.While e xs [] pos) ((XS.whil t s1).t E) := ps_while hp hc hb
theorem b_for (hp : PassesOwn (model X.prog X.w) X.A X.env X.xe) (hc : X.calm = true) (hi : PI X tg iter (w.t E)) (hg : PG X tg (g.t E)) (hb : PSs X xs (s1.t E))
    (hs : ∀ x, foldedSetIterable iter X.env x = pure x := by intro _; rfl) : PS X (.For tg iter xs [] pos) ((XS.loop w g s1).t E) := ps_for hp hc hi hg hb hs
theorem b_keys {j : Nat} {x : Str} {p : Pos} (hp : PassesOwn (model X.prog X.w) X.A X.env X.xe) (hc : X.calm = true) (hv : PE X (.Name x p) (tVar j)) (hg : PG X tg (g.t E)) (hb : PSs X xs (s1.t E))
    (hs : ∀ y, foldedSetIterable (.Name x p) X.env y = pure y := by intro _; rfl) : PS X (.For tg (.Name x p) xs [] pos) ((XS.keys j g s1).t E) := ps_lock (ps_for hp hc (pi_keys hv) hg hb hs)
theorem b_set {j : Nat} {x : Str} {pos' : Pos} (hN : X.N.Nodup) (hi : X.N[j]? = some x) (hx : Loc X.env.scope x) (he : PE X e (a.t E)) (hs : swapsWith e (some (.Name x pos')) pos.line X.env = pure false := by rfl) (hf : X.fn x = true ∨ X.env.scope.names.lookup x = some .local := by first | exact .inl rfl | exact .inr rfl | assumption) :
    PS X (.Assign [.Name x pos'] e pos) ((XS.asg a (XG.name j)).t E) := ps_set hN hi hx he hs hf
theorem b_asg (he : PE X e (a.t E)) (hg : PG X tg (g.t E)) (hs : swapsWithSole [tg] e pos.line X.env = pure false := by rfl) (hw : swappedStores [tg] e X.env = pure none := by rfl)
    (h1 : (assignEach [tg] X.env).map (·.2) = [assign tg X.env] := by rfl) : PS X (.Assign [tg] e pos) ((XS.asg a g).t E) := ps_asg he hg hs hw h1
theorem b_setf {C : Nat} {f : Str} {pos' : Pos} {a b : XE (cX X cl)} {hc : Cls X.K (cl C)} {hn : NoAttr X.K (cl C) f} (ha : PE X o (a.t E)) (hv : PE X e (b.t E)) (hs : swapsWith e (some (.Attribute o f pos')) pos.line X.env = pure false := by rfl) : PS X (.Assign [.Attribute o f pos'] e pos) ((XS.setf (c := cX X cl) C f hc hn a b).t E) := ps_fld ha hv hs
theorem b_par {i j : Nat} {x y : Str} {px py pt : Pos} {kt k2 : Nat} {pt2 : Pos} {r : XA c} (hc : X.calm = true) (hN : X.N.Nodup) (hi : X.N[i]? = some x) (hj : X.N[j]? = some y) (hij : i ≠ j)
    (hx : X.env.scope.names.lookup x = some .local) (hy : X.env.scope.names.lookup y = some .local) (ha : PA X [e, e2] (r.t E))
    (hw : swappedStores [.Tuple [.Name x px, .Name y py] kt pt] (.Tuple [e, e2] k2 pt2) X.env = pure (some [x, y]) := by rfl)
    (hs : swapsWithSole [.Tuple [.Name x px, .Name y py] kt pt] (.Tuple [e, e2] k2 pt2) pos.line X.env = pure false := by rfl) :
    PS X (.Assign [.Tuple [.Name x px, .Name y py] kt pt] (.Tuple [e, e2] k2 pt2) pos) ((XS.par i j r).t E) := ps_par hc hN hi hj hij hx hy ha hw hs
end
end CI

set_option Elab.async false
set_option linter.all false
set_option maxRecDepth 100000
set_option maxHeartbeats 4000000
/-! a list, a tuple, a text walked, whichever it is -/
namespace L2
open PySem PySem.Spec PyProof.Rows
def iAny (K : PySem.W.Frag) (tl : TE) : TI := fun σ H R => tl σ H fun x H1 => (∃ a, x = .ref a ∧ (∃ xs, SqL K H1 a xs) ∧ R (Itl K a) H1) ∨ (∃ a, x = .ref a ∧ (∃ xs, SqT K H1 a xs) ∧ R (Itt K a) H1) ∨ ∃ z, x = .str z ∧ R (Its z) H1
theorem pi_any {X : Cx} {tg l : Expr} {tl : TE} (hl : PE X l tl) : PI X tg l (iAny X.K tl) := by
  refine ⟨fun pins s σ H R I h => ?_⟩
  refine thn (hl.run pins s σ H _ I h) fun v s1 ⟨x, H1, I1, r1, q1⟩ => ?_
  rcases q1 with ⟨a, e, ⟨xs, hq⟩, q⟩ | ⟨a, e, ⟨xs, hq⟩, q⟩ | ⟨z, e, q⟩
  · subst e
    cases r1
    obtain ⟨its, rv, p, hz⟩ := I1.list hq
    refine wpAny_pyIter_list p.isList ?_
    refine ⟨s1.heap.objs.size, [s1.heap.objs.size], _, _, H1, rfl, I1.kept (t' := s1.toks) fun b o e => Heap.get?_push_of_some _ e, turn_list a _, ⟨_, Heap.get?_push_size _ rfl, rfl, rfl⟩, fun b hb => ?_, q⟩
    have e : b = s1.heap.objs.size := by simpa using hb
    subst e
    exact I1.fpOk (Nat.le_refl _) (I1.hok.fresh (Nat.le_refl _))
  · subst e
    cases r1
    obtain ⟨its, rv, p, hz⟩ := I1.tuple hq
    refine wpAny_pyIter_tuple (show s1.heap.IsTuple a its.toArray from p) ?_
    refine ⟨s1.heap.objs.size, [s1.heap.objs.size], _, _, H1, rfl, I1.kept (t' := s1.toks) fun b o e => Heap.get?_push_of_some _ e, turn_tuple a _, ⟨_, Heap.get?_push_size _ rfl, rfl, rfl⟩, fun b hb => ?_, q⟩
    have e : b = s1.heap.objs.size := by simpa using hb
    subst e
    exact I1.fpOk (Nat.le_refl _) (I1.hok.fresh (Nat.le_refl _))
  · subst e
    obtain ⟨t, rfl⟩ := r1
    cases ha : z.cps.all (· < 128)
    · exact wpAny_pyIter_wide ha (pi_one (tk := s1.toks) I1 _ (turn_str _ z t "str_iterator" (.inr rfl)) ⟨_, Heap.get?_push_size _ rfl, rfl, rfl⟩ q)
    · exact wpAny_pyIter_ascii ha (pi_one (tk := s1.toks) I1 _ (turn_str _ z t "str_ascii_iterator" (.inl rfl)) ⟨_, Heap.get?_push_size _ rfl, rfl, rfl⟩ q)
end L2
namespace CI
open PySem PySem.Spec PyProof.Rows L2 Evl
section
variable {c : Ct}
def XI.any (a : XE c) : XI c where
  t := fun E => iAny c.K (a.t E)
  f := mIt itAny a.f
  sim := fun E μ H σ ρ S rs re => (a.sim E μ H σ ρ S rs re).bind fun μ1 H1 S1 v x f1 rs1 rv o ho Q hQ => by
    have lst : ∀ {x : AV}, Va c μ1 H1 v x → itLst x S1 = some o → ∃ a, v = .ref a ∧ (∃ xs, SqL c.K H1 a xs) ∧ Q (Itl c.K a) H1 := fun {x} rv ho => by
      obtain ⟨a, xs, ck, rfl, rfl, hx, n, rfl, hk⟩ := itLst_ok rs1 rv ho
      refine ⟨a, rfl, hx, hQ _ μ1 H1 (.refl _ _) rs1 ⟨fun H' => ∃ vs μ2, SqL c.K H' a vs ∧ VaAll c μ2 H' vs xs, fun μ2 H2 S2 p ps rs2 ok => ?_, ?_⟩⟩
      · obtain ⟨vs, h1, h2⟩ := hk μ2 H2 S2 p ps rs2 ok
        exact ⟨vs, μ2, h1, h2⟩
      · refine ⟨fun i H' hi ⟨vs, μ2, q, r⟩ => ?_, fun H' ⟨vs, μ2, q, r⟩ => ?_, fun i Ha x Hb hi ⟨vs, μ2, q, r⟩ y => ?_⟩
        · exact (walk_list (K := c.K) (a := a) (xs := vs)).goes i H' (by rw [r.length]; exact hi) q
        · have := (walk_list (K := c.K) (a := a) (xs := vs)).stops H' q
          rw [r.length] at this
          exact this
        · obtain ⟨rfl, _⟩ := (walk_list (K := c.K) (a := a) (xs := vs)).yields i Ha x Hb (by rw [r.length]; exact hi) q y
          refine ⟨.inl rfl, fun μ3 S3 p ps rs3 ok => ?_⟩
          obtain ⟨ws, h1, h2⟩ := hk μ3 Hb S3 p ps rs3 ok
          obtain ⟨_, y'⟩ := (walk_list (K := c.K) (a := a) (xs := ws)).yields i Hb x Hb (by rw [h2.length]; exact hi) h1 y
          exact h2.get y'
    cases rv with
    | tup h1 h2 =>
      rename_i a vs xs
      obtain rfl := (Option.some.inj ho).symm
      refine .inr (.inl ⟨a, rfl, ⟨vs, h1⟩, hQ _ μ1 H1 (.refl _ _) rs1 ⟨fun H' => SqT c.K H' a vs, fun μ2 H2 S2 _ ps _ _ => ps.sq h1, ?_⟩⟩)
      have hl := h2.length
      show Walk _ xs.length _ _
      rw [← hl]
      refine walk_tup.mono (fun H' q => q) fun i Hi x H' hlt q y => ?_
      obtain ⟨rfl, y⟩ := y
      refine ⟨.inl rfl, fun μ2 S2 p ps rs2 _ => ?_⟩
      obtain ⟨d, e1, e2⟩ := h2.get y
      exact ⟨d, e1, e2.mono p ps⟩
    | str z =>
      obtain rfl := (Option.some.inj ho).symm
      refine .inr (.inr ⟨z, rfl, hQ _ μ1 H1 (.refl _ _) rs1 ⟨fun _ => True, fun _ _ _ _ _ _ _ => trivial, ?_⟩⟩)
      have hl : (signs z).length = z.cps.size := by simp [signs]
      show Walk _ (signs z).length _ _
      rw [hl]
      refine walk_str.mono (fun _ q => q) fun i Hi y H' hlt q u => ?_
      obtain ⟨rfl, n, hc, rfl⟩ := u
      exact ⟨.inl rfl, fun _ _ _ _ _ _ => ⟨_, by simp [signs, hc], .str _⟩⟩
    | loc e => exact .inl (lst (.loc e) ho)
    | fl h1 h2 => exact .inl (lst (.fl h1 h2) ho)
    | _ => cases ho
end
theorem b_iany {X : Cx} {E : XK} {cl : Nat → Addr} {e tg : Expr} {a : XE (cX X cl)} (h : PE X e (a.t E)) : PI X tg e ((XI.any a).t E) := pi_any h
end CI

set_option Elab.async false
set_option linter.all false
set_option maxRecDepth 100000
set_option maxHeartbeats 4000000
/-! what is computed on one store is computed behind any other: shifts of places -/
namespace CI
open PySem PySem.Spec PyProof.Rows L2 Evl
mutual
def AV.sh (k : Nat) : AV → AV
  | .loc n => .loc (n + k)
  | .tup xs => .tup (AV.shs k xs)
  | .fl xs => .fl (AV.shs k xs)
  | .non => .non
  | .bl b => .bl b
  | .int i => .int i
  | .str x => .str x
  | .k v => .k v
  | .wd es => .wd es
def AV.shs (k : Nat) : List AV → List AV
  | [] => []
  | x :: xs => AV.sh k x :: AV.shs k xs
end
theorem shs_map (k : Nat) : ∀ xs : List AV, AV.shs k xs = xs.map (AV.sh k)
  | [] => rfl
  | x :: xs => by unfold AV.shs; rw [shs_map k xs]; rfl
theorem shs_len (k : Nat) (xs : List AV) : (AV.shs k xs).length = xs.length := by rw [shs_map, List.length_map]
theorem shs_app (k : Nat) (xs ys : List AV) : AV.shs k (xs ++ ys) = AV.shs k xs ++ AV.shs k ys := by rw [shs_map, shs_map, shs_map, List.map_append]
theorem shs_get (k : Nat) (xs : List AV) (i : Nat) : (AV.shs k xs)[i]? = (xs[i]?).map (AV.sh k) := by rw [shs_map, List.getElem?_map]
def shP {κ : Type} (k : Nat) (xs : List (κ × AV)) : List (κ × AV) := xs.map fun p => (p.1, p.2.sh k)
def AO.sh (k : Nat) : AO → AO
  | .lst xs => .lst (AV.shs k xs)
  | .dct kvs fz => .dct (shP k kvs) fz
  | .ins C fs => .ins C (shP k fs)
def shS (k : Nat) (S : Store) : Store := S.map (AO.sh k)
def shR (k : Nat) (ρ : Env) : Env := ρ.map fun o => o.map (AV.sh k)
def XV.sh (k : Nat) (x : XV) : XV := ⟨x.cls, shP k x.fs⟩
section
variable {A B : Type} {k : Nat}
def RX (k : Nat) (R : A → A → Prop) : Except XV A → Except XV A → Prop
  | .ok a, .ok b => R a b
  | .error x, .error y => y = x.sh k
  | _, _ => False
def Fm (k : Nat) (R : A → A → Prop) (m m' : M A) : Prop := ∀ (P S : Store) (o : Except XV A) (S' : Store), P.length = k → m S = some (o, S') → ∃ o', m' (P ++ shS k S) = some (o', P ++ shS k S') ∧ RX k R o o'
theorem fm_pure {R : A → A → Prop} {a b : A} (h : R a b) : Fm k R (pure a) (pure b) := fun P S o S' hP e => by
  cases pure_some e
  exact ⟨_, rfl, h⟩
theorem fm_no {R : A → A → Prop} {m' : M A} : Fm k R M.no m' := fun P S o S' hP e => by cases e
theorem fm_bind {R : A → A → Prop} {R' : B → B → Prop} {m m' : M A} {g g' : A → M B} (h : Fm k R m m') (hg : ∀ a b, R a b → Fm k R' (g a) (g' b)) : Fm k R' (m >>= g) (m' >>= g') := fun P S o S' hP e => by
  rcases bind_some e with ⟨a, S1, h1, h2⟩ | ⟨x, S1, h1, h2⟩
  · obtain ⟨o1, e1, r1⟩ := h P S _ S1 hP h1
    cases o1 with
    | error y => exact r1.elim
    | ok b =>
      obtain ⟨o2, e2, r2⟩ := hg a b r1 P S1 o S' hP h2
      refine ⟨o2, ?_, r2⟩
      show M.bind m' g' _ = _
      unfold M.bind
      rw [e1]
      exact e2
  · cases h2
    obtain ⟨o1, e1, r1⟩ := h P S _ _ hP h1
    cases o1 with
    | ok b => exact r1.elim
    | error y =>
      refine ⟨.error y, ?_, r1⟩
      show M.bind m' g' _ = _
      unfold M.bind
      rw [e1]
theorem fm_ite {R : A → A → Prop} {c c' : Prop} [Decidable c] [Decidable c'] {m m' n n' : M A} (hc : c ↔ c') (h1 : Fm k R m m') (h2 : Fm k R n n') : Fm k R (if c then m else n) (if c' then m' else n') := by
  by_cases h : c
  · rw [if_pos h, if_pos (hc.mp h)]; exact h1
  · rw [if_neg h, if_neg (fun z => h (hc.mpr z))]; exact h2
theorem fm_ofO {R : A → A → Prop} {a b : Option A} (h : ∀ x, a = some x → ∃ y, b = some y ∧ R x y) : Fm k R (M.ofO a) (M.ofO b) := fun P S o S' hP e => by
  obtain ⟨x, e1, e2⟩ := ofO_some e
  obtain ⟨y, e3, r⟩ := h x e1
  cases e2
  rw [e3]
  exact ⟨_, rfl, r⟩
end
/-- the object behind -/
theorem shS_get {k : Nat} {P S : Store} (hP : P.length = k) (n : Nat) : (P ++ shS k S)[n + k]? = (S[n]?).map (AO.sh k) := by
  rw [List.getElem?_append_right (by omega)]
  have : n + k - P.length = n := by omega
  rw [this, shS, List.getElem?_map]
theorem shS_set {k : Nat} {P S : Store} (hP : P.length = k) (n : Nat) (o : AO) : (P ++ shS k S).set (n + k) (o.sh k) = P ++ shS k (S.set n o) := by
  rw [List.set_append_right _ _ (by omega)]
  have : n + k - P.length = n := by omega
  rw [this, shS, shS, List.map_set]
theorem shS_app {k : Nat} {P S : Store} (o : AO) : P ++ shS k S ++ [o.sh k] = P ++ shS k (S ++ [o]) := by
  rw [List.append_assoc, shS, shS, List.map_append]; rfl
theorem shS_len {k : Nat} {P S : Store} (hP : P.length = k) : (P ++ shS k S).length = S.length + k := by
  rw [List.length_append, shS, List.length_map]; omega
abbrev RA (k : Nat) : AV → AV → Prop := fun x y => y = x.sh k
abbrev RL (k : Nat) : List AV → List AV → Prop := fun x y => y = AV.shs k x
abbrev RP (k : Nat) : List (Key × AV) → List (Key × AV) → Prop := fun x y => y = shP k x
abbrev RU : Unit → Unit → Prop := fun _ _ => True
abbrev RB : Bool → Bool → Prop := fun x y => y = x
abbrev RO' : Option Int → Option Int → Prop := fun x y => y = x
abbrev RV' (k : Nat) : Env → Env → Prop := fun x y => y = shR k x
def AI.sh (k : Nat) (a : AI) : AI := ⟨AV.shs k a.xs, a.ck.map fun p => (p.1 + k, AV.shs k p.2)⟩
abbrev RI (k : Nat) : AI → AI → Prop := fun x y => y = x.sh k
def Fl.sh (k : Nat) : Fl → Fl
  | .nx ρ => .nx (shR k ρ)
  | .rt x => .rt (x.sh k)
  | .bk ρ => .bk (shR k ρ)
  | .ct ρ => .ct (shR k ρ)
abbrev RF (k : Nat) : Fl → Fl → Prop := fun x y => y = x.sh k
abbrev Fe (f : Env → M AV) : Prop := ∀ k ρ, Fm k (RA k) (f ρ) (f (shR k ρ))
abbrev Fa (f : Env → M (List AV)) : Prop := ∀ k ρ, Fm k (RL k) (f ρ) (f (shR k ρ))
abbrev Ft (f : Env → M Bool) : Prop := ∀ k ρ, Fm k RB (f ρ) (f (shR k ρ))
abbrev Fo (f : Env → M (Option Int)) : Prop := ∀ k ρ, Fm k RO' (f ρ) (f (shR k ρ))
abbrev Fi (f : Env → M AI) : Prop := ∀ k ρ, Fm k (RI k) (f ρ) (f (shR k ρ))
abbrev Fg (f : AV → Env → M Env) : Prop := ∀ k x ρ, Fm k (RV' k) (f x ρ) (f (x.sh k) (shR k ρ))
abbrev Fgs (f : List AV → Env → M Env) : Prop := ∀ k x ρ, Fm k (RV' k) (f x ρ) (f (AV.shs k x) (shR k ρ))
abbrev Fs (f : Env → M Fl) : Prop := ∀ k ρ, Fm k (RF k) (f ρ) (f (shR k ρ))
abbrev Fd (f : List AV → M AV) : Prop := ∀ k xs, Fm k (RA k) (f xs) (f (AV.shs k xs))
abbrev F2 (g : AV → AV → M AV) : Prop := ∀ k x y, Fm k (RA k) (g x y) (g (x.sh k) (y.sh k))
abbrev F1 (g : AV → M AV) : Prop := ∀ k x, Fm k (RA k) (g x) (g (x.sh k))
abbrev Fu (g : AV → M Unit) : Prop := ∀ k x, Fm k RU (g x) (g (x.sh k))
section
variable {a b d : Env → M AV} {r : Env → M (List AV)} {t u : Env → M Bool}
/-- what never changes under a shift -/
def AV.fix (x : AV) : Prop := ∀ k, x.sh k = x
theorem fe_var (i : Nat) : Fe (mVar i) := fun k ρ => fm_ofO fun x hx => ⟨x.sh k, by
  unfold shR
  rw [List.getElem?_map]
  cases q : ρ[i]? with
  | none => rw [q] at hx; cases hx
  | some o =>
    rw [q] at hx
    have hx : o = some x := hx
    rw [hx]; rfl, rfl⟩
theorem fe_c {x : AV} (h : ∀ k, x.sh k = x) : Fe (mC x) := fun k ρ => fm_pure (h k).symm
theorem fa_nil : Fa mNil := fun k ρ => fm_pure rfl
theorem fa_cons (ha : Fe a) (hr : Fa r) : Fa (mCons a r) := fun k ρ => fm_bind (ha k ρ) fun x y e => fm_bind (hr k ρ) fun xs ys e2 => fm_pure (by rw [e, e2]; rfl)
theorem fe_op {g : AV → AV → M AV} (hg : F2 g) (ha : Fe a) (hb : Fe b) : Fe (mOp g a b) := fun k ρ => fm_bind (ha k ρ) fun x y e => fm_bind (hb k ρ) fun x2 y2 e2 => by
  subst e e2
  exact hg k x x2
theorem fm_new {k : Nat} {o o' : AO} (h : o' = o.sh k) : Fm k (RA k) (M.new o) (M.new o') := fun P S z S' hP e => by
  cases e
  subst h
  refine ⟨.ok (.loc (S.length + k)), ?_, rfl⟩
  show some _ = some _
  rw [shS_app, shS_len hP]
theorem fe_tup (hr : Fa r) : Fe (mTup r) := fun k ρ => fm_bind (hr k ρ) fun x y e => by
  subst e
  exact fm_ite (by rw [shs_len]) (fm_pure rfl) fm_no
theorem fe_lst (hr : Fa r) : Fe (mLst r) := fun k ρ => fm_bind (hr k ρ) fun x y e => by
  subst e
  exact fm_ite (by rw [shs_len]) (fm_new rfl) fm_no
theorem fe_dict0 : Fe mDict0 := fun k ρ => fm_new rfl
theorem fm_toB {k : Nat} (x : AV) : Fm k RB (toB x) (toB (x.sh k)) := by
  cases x <;> first | exact fm_pure rfl | exact fm_no
theorem ft_test (ha : Fe a) : Ft (mTest a) := fun k ρ => fm_bind (ha k ρ) fun x y e => by
  subst e
  exact fm_bind (fm_toB x) fun b b' e => fm_pure e
theorem fm_tt {A : Type} {k : Nat} {R : A → A → Prop} {b b' : Bool} {m m' n n' : M A} (h : b' = b) (h1 : Fm k R m m') (h2 : Fm k R n n') : Fm k R (if b = true then m else n) (if b' = true then m' else n') := by
  subst h
  exact fm_ite Iff.rfl h1 h2
theorem ft_and (h1 : Ft t) (h2 : Ft u) : Ft (mTAnd t u) := fun k ρ => fm_bind (h1 k ρ) fun x y e => fm_tt e (h2 k ρ) (fm_pure rfl)
theorem ft_or (h1 : Ft t) (h2 : Ft u) : Ft (mTOr t u) := fun k ρ => fm_bind (h1 k ρ) fun x y e => fm_tt e (fm_pure rfl) (h2 k ρ)
theorem ft_not (h1 : Ft t) : Ft (mTNot t) := fun k ρ => fm_bind (h1 k ρ) fun x y e => fm_pure (by rw [e])
theorem ft_yes : Ft mYes := fun k ρ => fm_pure rfl
theorem fe_and (ha : Fe a) (hb : Fe b) : Fe (mAnd a b) := fun k ρ => fm_bind (ha k ρ) fun x y e => by
  subst e
  exact fm_bind (fm_toB x) fun z z' e => fm_tt e (hb k ρ) (fm_pure rfl)
theorem fe_or (ha : Fe a) (hb : Fe b) : Fe (mOr a b) := fun k ρ => fm_bind (ha k ρ) fun x y e => by
  subst e
  exact fm_bind (fm_toB x) fun z z' e => fm_tt e (fm_pure rfl) (hb k ρ)
theorem fe_not (ha : Fe a) : Fe (mNot a) := fun k ρ => fm_bind (ha k ρ) fun x y e => by
  subst e
  exact fm_bind (fm_toB x) fun z z' e => fm_pure (by subst e; rfl)
theorem fe_ife (ht : Ft t) (ha : Fe a) (hb : Fe b) : Fe (mIfe t a b) := fun k ρ => fm_bind (ht k ρ) fun x y e => fm_tt e (ha k ρ) (hb k ρ)
theorem fe_chain {g g' : AV → AV → M AV} (hg : F2 g) (hg' : F2 g') (ha : Fe a) (hb : Fe b) (hd : Fe d) : Fe (mChain g g' a b d) := fun k ρ => fm_bind (ha k ρ) fun x y e => fm_bind (hb k ρ) fun x2 y2 e2 => by
  subst e e2
  exact fm_bind (hg k x x2) fun z z' e => by
    subst e
    exact fm_bind (fm_toB z) fun q q' e => fm_tt e (fm_bind (hd k ρ) fun w w' e => by subst e; exact hg' k x2 w) (fm_pure rfl)
theorem fo_no : Fo mNoP := fun k ρ => fm_pure rfl
theorem fm_toI {k : Nat} (x : AV) : Fm k RO' (toI x) (toI (x.sh k)) := by
  cases x <;> first | exact fm_pure rfl | exact fm_no
theorem fo_of (ha : Fe a) : Fo (mPart a) := fun k ρ => fm_bind (ha k ρ) fun x y e => by subst e; exact fm_toI x
theorem fe_cb {g : List AV → M AV} (hg : Fd g) (hr : Fa r) : Fe (mCb g r) := fun k ρ => fm_bind (hr k ρ) fun x y e => by subst e; exact hg k x
theorem fe_bm {g : AV → List AV → M AV} {ok : AV → M Unit} (hg : ∀ k x xs, Fm k (RA k) (g x xs) (g (x.sh k) (AV.shs k xs))) (hk : Fu ok) (ha : Fe a) (hr : Fa r) : Fe (mBm g ok a r) := fun k ρ => fm_bind (ha k ρ) fun x y e => by
  subst e
  exact fm_bind (hk k x) fun _ _ _ => fm_bind (hr k ρ) fun xs ys e => by subst e; exact hg k x xs
theorem fe_bm0 {g : AV → List AV → M AV} {ok : AV → M Unit} (hg : ∀ k x xs, Fm k (RA k) (g x xs) (g (x.sh k) (AV.shs k xs))) (hk : Fu ok) (ha : Fe a) : Fe (mBm0 g ok a) := fun k ρ => fm_bind (ha k ρ) fun x y e => by
  subst e
  exact fm_bind (hk k x) fun _ _ _ => hg k x []
theorem fe_callD {g : List AV → M AV} {ds : List AV} (hg : Fd g) (hd : ∀ k, AV.shs k ds = ds) (hr : Fa r) : Fe (mCallD g ds r) := fun k ρ => fm_bind (hr k ρ) fun x y e => by
  subst e
  have := hg k (x ++ ds)
  rw [shs_app, hd] at this
  exact this
theorem fe_meth {C : Nat} {m : Str} {g : List AV → M AV} (hi : Fu (insM C m)) (hg : Fd g) (ha : Fe a) (hr : Fa r) : Fe (mMeth C m g a r) := fun k ρ => fm_bind (ha k ρ) fun x y e => by
  subst e
  exact fm_bind (hi k x) fun _ _ _ => fm_bind (hr k ρ) fun xs ys e => by
    subst e
    exact hg k (x :: xs)
theorem fe_make {C : Nat} {g : List AV → M AV} (hg : Fd g) (hr : Fa r) : Fe (mMake C g r) := fun k ρ => fm_bind (hr k ρ) fun xs ys e => by
  subst e
  exact fm_bind (fm_new (o := .ins C []) (k := k) rfl) fun p q e => by
    subst e
    exact fm_bind (hg k (p :: xs)) fun z z' e => by
      subst e
      cases z <;> first | exact fm_pure rfl | exact fm_no
/-! statements -/
variable {s s2 : Env → M Fl}
theorem fs_next : Fs msNext := fun k ρ => fm_pure rfl
theorem fs_brk : Fs msBrk := fun k ρ => fm_pure rfl
theorem fs_cont : Fs msCont := fun k ρ => fm_pure rfl
theorem fs_never : Fs msNever := fun k ρ => fm_no
theorem fs_retN : Fs msRetN := fun k ρ => fm_pure rfl
theorem fs_ret (ha : Fe a) : Fs (msRet a) := fun k ρ => fm_bind (ha k ρ) fun x y e => fm_pure (by rw [e]; rfl)
theorem fs_drop (ha : Fe a) : Fs (msDrop a) := fun k ρ => fm_bind (ha k ρ) fun x y e => fm_pure rfl
theorem fs_seq (h1 : Fs s) (h2 : Fs s2) : Fs (msSeq s s2) := fun k ρ => fm_bind (h1 k ρ) fun x y e => by
  subst e
  cases x with
  | nx ρ' => exact h2 k ρ'
  | rt x => exact fm_pure rfl
  | bk x => exact fm_pure rfl
  | ct x => exact fm_pure rfl
theorem fs_asg {g : AV → Env → M Env} (ha : Fe a) (hg : Fg g) : Fs (msAsg a g) := fun k ρ => fm_bind (ha k ρ) fun x y e => by
  subst e
  exact fm_bind (hg k x ρ) fun ρ1 ρ2 e => fm_pure (by rw [e]; rfl)
theorem fs_ite (ht : Ft t) (h1 : Fs s) (h2 : Fs s2) : Fs (msIte t s s2) := fun k ρ => fm_bind (ht k ρ) fun x y e => fm_tt e (h1 k ρ) (h2 k ρ)
theorem shR_set (k : Nat) (ρ : Env) (i : Nat) (x : AV) : shR k (ρ.set i (some x)) = (shR k ρ).set i (some (x.sh k)) := by
  unfold shR; rw [List.map_set]; rfl
theorem fs_par {i j : Nat} (hr : Fa r) : Fs (msPar i j r) := fun k ρ => fm_bind (hr k ρ) fun x y e => by
  subst e
  match x with
  | [] => exact fm_no
  | [_] => exact fm_no
  | [x1, x2] => exact fm_pure (by show Fl.nx _ = Fl.nx _; rw [shR_set, shR_set])
  | _ :: _ :: _ :: _ => exact fm_no
theorem fg_name (i : Nat) : Fg (mgName i) := fun k x ρ => fm_pure (shR_set k ρ i x).symm
theorem fgs_nil : Fgs mgNil := fun k x ρ => by
  cases x with
  | nil => exact fm_pure rfl
  | cons _ _ => exact fm_no
theorem fgs_cons {g : AV → Env → M Env} {h : List AV → Env → M Env} (h1 : Fg g) (h2 : Fgs h) : Fgs (mgCons g h) := fun k x ρ => by
  cases x with
  | nil => exact fm_no
  | cons x xs => exact fm_bind (h1 k x ρ) fun ρ1 ρ2 e => by subst e; exact h2 k xs ρ1
theorem fg_tup {n : Nat} {h : List AV → Env → M Env} (h2 : Fgs h) : Fg (mgTup n h) := fun k x ρ => by
  cases x with
  | tup xs => exact fm_ite (by rw [shs_len]) (h2 k xs ρ) fm_no
  | _ => exact fm_no
theorem fs_startA {n : Nat} {k : Nat} {xs : List AV} : startA n (AV.shs k xs) = shR k (startA n xs) := by
  unfold startA shR
  rw [List.map_append, List.map_replicate, shs_len, shs_map]
  simp
theorem fd_fn {n k : Nat} (h : Fs s) : Fd (fnM n k s) := fun j xs => fm_ite (by rw [shs_len]) (fm_bind (by rw [fs_startA]; exact h j _) fun x y e => by
  subst e
  cases x <;> first | exact fm_pure rfl | exact fm_no) fm_no
end
end CI

set_option Elab.async false
set_option linter.all false
set_option maxRecDepth 100000
set_option maxHeartbeats 4000000
/-! shifts: loops, primitives -/
namespace CI
open PySem PySem.Spec PyProof.Rows L2 Evl
theorem fm_raw {A : Type} {k : Nat} {R : A → A → Prop} {m m' : M A} (h : ∀ P S, P.length = k → ∀ o S', m S = some (o, S') → ∃ o', m' (P ++ shS k S) = some (o', P ++ shS k S') ∧ RX k R o o') : Fm k R m m' := fun P S o S' hP e => h P S hP o S' e
mutual
theorem same_sh (k : Nat) : ∀ {x y : AV}, AV.same x y = true → AV.same (x.sh k) (y.sh k) = true := fun {x y} h => by
  rw [same_eq h]
  exact same_refl _
end
theorem ok_sh {k : Nat} {P S : Store} (hP : P.length = k) {ai : AI} (h : ai.ok S = true) : (ai.sh k).ok (P ++ shS k S) = true := by
  unfold AI.ok at h ⊢
  rw [List.all_eq_true] at h ⊢
  intro p hp
  unfold AI.sh at hp
  simp only [List.mem_map] at hp
  obtain ⟨q, hq, rfl⟩ := hp
  have := h q hq
  simp only
  rw [shS_get hP]
  split at this
  · rename_i zs e
    rw [e]
    simp only [Option.map, AO.sh]
    rw [sames_eq this]
    exact sames_refl _
  · cases this
theorem fm_chk {k : Nat} {ai : AI} : Fm k RU ai.chk (ai.sh k).chk := fun P S o S' hP e => by
  obtain ⟨ok, e1⟩ := chk_some e
  cases e1
  exact ⟨.ok (), by unfold AI.chk; rw [if_pos (ok_sh hP ok)], trivial⟩
section
variable {a b d : Env → M AV} {r : Env → M (List AV)} {t u : Env → M Bool} {w : Env → M AI} {g : AV → Env → M Env} {s : Env → M Fl}
theorem wipeA_sh (k : Nat) (ρ : Env) : ∀ vs : List Nat, wipeA (shR k ρ) vs = shR k (wipeA ρ vs)
  | [] => rfl
  | v :: vs => by
    show (wipeA (shR k ρ) vs).set v none = shR k ((wipeA ρ vs).set v none)
    rw [wipeA_sh k ρ vs]
    unfold shR
    rw [List.map_set]; rfl
def ROp (k : Nat) : Option AV → Option AV → Prop := fun x y => y = x.map (AV.sh k)
theorem fm_lcGo {k : Nat} {ai : AI} {T T' : AV → M (Option AV)} (hT : ∀ x, Fm k (ROp k) (T x) (T' (x.sh k))) : ∀ (xs acc : List AV), Fm k (RL k) (lcGo ai T xs acc) (lcGo (ai.sh k) T' (AV.shs k xs) (AV.shs k acc))
  | [], acc => by
    unfold lcGo
    exact fm_bind fm_chk fun _ _ _ => fm_pure rfl
  | x :: xs, acc => by
    rw [show AV.shs k (x :: xs) = AV.sh k x :: AV.shs k xs from rfl]
    unfold lcGo
    refine fm_bind fm_chk fun _ _ _ => fm_bind (hT x) fun r r' e => ?_
    cases e
    cases r with
    | none => exact fm_lcGo hT xs acc
    | some y =>
      refine fm_ite (by rw [shs_len]) ?_ fm_no
      have := fm_lcGo (ai := ai) hT xs (acc ++ [y])
      rw [shs_app] at this
      exact this
theorem fm_turn {k : Nat} {ρ : Env} (hg : Fg g) (ht : Ft t) (ha : Fe a) (x : AV) : Fm k (ROp k) (lcTurn g t a ρ x) (lcTurn g t a (shR k ρ) (x.sh k)) :=
  fm_bind (hg k x ρ) fun ρ1 ρ2 e => by
    subst e
    exact fm_bind (ht k ρ1) fun b b' e => fm_tt e (fm_bind (ha k ρ1) fun y y' e => fm_pure (by subst e; rfl)) (fm_pure rfl)
theorem fe_lc {vs : List Nat} (hw : Fi w) (hg : Fg g) (ht : Ft t) (ha : Fe a) : Fe (mLc w g t a vs) := fun k ρ => fm_bind (hw k ρ) fun ai ai' e => by
  subst e
  refine fm_bind (fm_lcGo (T := lcTurn g t a (wipeA ρ vs)) (T' := lcTurn g t a (wipeA (shR k ρ) vs)) (fun x => by rw [wipeA_sh]; exact fm_turn hg ht ha x) ai.xs []) fun acc acc' e => ?_
  subst e
  exact fm_new rfl
theorem getK_sh {κ : Type} [DecidableEq κ] (k : Nat) (xs : List (κ × AV)) (q : κ) : getK (shP k xs) q = (getK xs q).map (AV.sh k) := by
  unfold getK shP
  rw [List.find?_map]
  have : ((fun kv : κ × AV => decide (kv.1 = q)) ∘ fun p : κ × AV => (p.1, p.2.sh k)) = fun kv => decide (kv.1 = q) := rfl
  rw [this]
  cases xs.find? fun kv => decide (kv.1 = q) <;> rfl
theorem setK_sh {κ : Type} [DecidableEq κ] (k : Nat) (xs : List (κ × AV)) (q : κ) (x : AV) : setK (shP k xs) q (x.sh k) = shP k (setK xs q x) := by
  unfold setK shP
  have e : ((xs.map fun p => (p.1, p.2.sh k)).any fun kv => decide (kv.1 = q)) = xs.any fun kv => decide (kv.1 = q) := by rw [List.any_map]; rfl
  rw [e]
  split
  · rw [List.map_map, List.map_map]
    apply List.map_congr_left
    intro p _
    show (if p.1 = q then (p.1, x.sh k) else (p.1, p.2.sh k)) = ((if p.1 = q then (p.1, x) else p).1, (if p.1 = q then (p.1, x) else p).2.sh k)
    split <;> rfl
  · rw [List.map_append]; rfl
theorem shP_len {κ : Type} (k : Nat) (xs : List (κ × AV)) : (shP k xs).length = xs.length := List.length_map ..
theorem toKey_sh (k : Nat) (x : AV) : toKey (x.sh k) = toKey x := by cases x <;> rfl
def ROp2 (k : Nat) : Option (AV × AV) → Option (AV × AV) → Prop := fun x y => y = x.map fun p => (p.1.sh k, p.2.sh k)
theorem fm_dcGo {k : Nat} {ai : AI} {T T' : AV → M (Option (AV × AV))} (hT : ∀ x, Fm k (ROp2 k) (T x) (T' (x.sh k))) : ∀ (xs : List AV) (acc : List (Key × AV)), Fm k (RP k) (dcGo ai T xs acc) (dcGo (ai.sh k) T' (AV.shs k xs) (shP k acc))
  | [], acc => by
    unfold dcGo
    exact fm_bind fm_chk fun _ _ _ => fm_pure rfl
  | x :: xs, acc => by
    rw [show AV.shs k (x :: xs) = AV.sh k x :: AV.shs k xs from rfl]
    unfold dcGo
    refine fm_bind fm_chk fun _ _ _ => fm_bind (hT x) fun r r' e => ?_
    cases e
    cases r with
    | none => exact fm_dcGo hT xs acc
    | some y =>
      simp only [Option.map]
      rw [toKey_sh]
      cases toKey y.1 with
      | none => exact fm_no
      | some q =>
        refine fm_ite (by rw [shP_len]) ?_ fm_no
        rw [setK_sh]
        exact fm_dcGo (ai := ai) hT xs (setK acc q y.2)
theorem fm_turn2 {k : Nat} {ρ : Env} (hg : Fg g) (ht : Ft t) (ha : Fe a) (hb : Fe b) (x : AV) : Fm k (ROp2 k) (dcTurn g t a b ρ x) (dcTurn g t a b (shR k ρ) (x.sh k)) :=
  fm_bind (hg k x ρ) fun ρ1 ρ2 e => by
    subst e
    exact fm_bind (ht k ρ1) fun c c' e => fm_tt e (fm_bind (ha k ρ1) fun y y' e => fm_bind (hb k ρ1) fun z z' e2 => fm_pure (by subst e e2; rfl)) (fm_pure rfl)
theorem fe_dc {vs : List Nat} (hw : Fi w) (hg : Fg g) (ht : Ft t) (ha : Fe a) (hb : Fe b) : Fe (mDc w g t a b vs) := fun k ρ => fm_bind (hw k ρ) fun ai ai' e => by
  subst e
  refine fm_bind (fm_dcGo (T := dcTurn g t a b (wipeA ρ vs)) (T' := dcTurn g t a b (wipeA (shR k ρ) vs)) (fun x => by rw [wipeA_sh]; exact fm_turn2 hg ht ha hb x) ai.xs []) fun acc acc' e => ?_
  subst e
  exact fm_new rfl
theorem fm_forK {k : Nat} {n n' : Env → M Fl} (hn : ∀ ρ, Fm k (RF k) (n ρ) (n' (shR k ρ))) (fl : Fl) : Fm k (RF k) (forK n fl) (forK n' (fl.sh k)) := by
  cases fl with
  | nx ρ => exact hn ρ
  | ct ρ => exact hn ρ
  | bk ρ => exact fm_pure rfl
  | rt x => exact fm_pure rfl
theorem fm_forGo {k : Nat} {ai : AI} (hg : Fg g) (hs : Fs s) : ∀ (xs : List AV) (ρ : Env), Fm k (RF k) (forGo ai (forStep g s) xs ρ) (forGo (ai.sh k) (forStep g s) (AV.shs k xs) (shR k ρ))
  | [], ρ => by
    unfold forGo
    exact fm_bind fm_chk fun _ _ _ => fm_pure rfl
  | x :: xs, ρ => by
    rw [show AV.shs k (x :: xs) = AV.sh k x :: AV.shs k xs from rfl]
    unfold forGo
    refine fm_bind fm_chk fun _ _ _ => fm_bind (R := RF k) (fm_bind (hg k x ρ) fun ρ1 ρ2 e => by subst e; exact hs k ρ1) fun fl fl' e => ?_
    subst e
    exact fm_forK (fun ρ => fm_forGo hg hs xs ρ) fl
theorem fs_loop (hw : Fi w) (hg : Fg g) (hs : Fs s) : Fs (msLoop w g s) := fun k ρ => fm_bind (hw k ρ) fun ai ai' e => by
  subst e
  exact fm_forGo hg hs ai.xs ρ
theorem fm_whGo {k : Nat} (ht : Ft t) (hs : Fs s) : ∀ (n : Nat) (ρ : Env), Fm k (RF k) (whGo t s n ρ) (whGo t s n (shR k ρ))
  | 0, ρ => fm_no
  | n + 1, ρ => by
    unfold whGo
    exact fm_bind (ht k ρ) fun c c' e => fm_tt e (fm_bind (hs k ρ) fun fl fl' e => by subst e; exact fm_forK (fun ρ => fm_whGo ht hs n ρ) fl) (fm_pure rfl)
theorem fs_whil (ht : Ft t) (hs : Fs s) : Fs (msWhil t s) := fun k ρ => fm_whGo ht hs FU ρ
/-! a loop over a dict's keys -/
def RLk (k : Nat) : Nat × List (Key × AV) → Nat × List (Key × AV) → Prop := fun p q => q = (p.1 + k, shP k p.2)
theorem fm_lock {k : Nat} (x : AV) : Fm k (RLk k) (M.lock x) (M.lock (x.sh k)) := fun P S o S' hP e => by
  unfold M.lock at e
  cases x with
  | loc n =>
    simp only at e
    split at e
    · rename_i kvs q
      cases e
      refine ⟨.ok (n + k, shP k kvs), ?_, rfl⟩
      have q2 := shS_get (P := P) (S := S) hP n
      rw [q] at q2
      have q3 : (P ++ shS k S)[n + k]? = some (.dct (shP k kvs) false) := q2
      unfold M.lock
      simp only [AV.sh, q3]
      rw [← shS_set hP]; rfl
    · cases e
  | _ => cases e
theorem fm_strict {A : Type} {k : Nat} {R : A → A → Prop} {m m' : M A} (h : Fm k R m m') : Fm k R (M.strict m) (M.strict m') := fun P S o S' hP e => by
  unfold M.strict at e
  split at e
  · rename_i a S1 q
    cases e
    obtain ⟨o1, e1, r1⟩ := h P S _ _ hP q
    cases o1 with
    | error _ => exact r1.elim
    | ok b => exact ⟨.ok b, by unfold M.strict; rw [e1], r1⟩
  · cases e
theorem fm_unl {k : Nat} {n : Nat} {kvs : List (Key × AV)} (fl : Fl) : Fm k (RF k) (unlK n kvs fl) (unlK (n + k) (shP k kvs) (fl.sh k)) := fun P S o S' hP e => by
  unfold unlK at e
  cases fl with
  | nx ρ => cases e; exact ⟨.ok (.nx (shR k ρ)), by unfold unlK; simp only [Fl.sh]; rw [← shS_set hP]; rfl, rfl⟩
  | rt x => cases e; exact ⟨.ok (.rt (x.sh k)), by unfold unlK; simp only [Fl.sh]; rw [← shS_set hP]; rfl, rfl⟩
  | _ => cases e
theorem keyA_sh (k : Nat) (q : Key) : (keyA q).sh k = keyA q := by cases q <;> rfl
theorem keys_sh (k : Nat) : ∀ kvs : List (Key × AV), AV.shs k (kvs.map fun kv => keyA kv.1) = (shP k kvs).map fun kv => keyA kv.1
  | [] => rfl
  | p :: kvs => by
    show (keyA p.1).sh k :: AV.shs k _ = keyA p.1 :: _
    rw [keyA_sh, keys_sh k kvs]; rfl
theorem fs_keys {j : Nat} (hg : Fg g) (hs : Fs s) : Fs (msKeys j g s) := fun k ρ => fm_bind (fe_var j k ρ) fun x y e => by
  subst e
  refine fm_bind (fm_lock x) fun p p' e => ?_
  subst e
  refine fm_bind (R := RF k) (fm_strict ?_) fun fl fl' e => by subst e; exact fm_unl fl
  have := fm_forGo (k := k) (ai := ⟨p.2.map fun kv => keyA kv.1, []⟩) hg hs (p.2.map fun kv => keyA kv.1) ρ
  unfold AI.sh at this
  rw [keys_sh] at this
  exact this
end
end CI

set_option Elab.async false
set_option linter.all false
set_option maxRecDepth 100000
set_option maxHeartbeats 4000000
/-! shifts: the primitives -/
namespace CI
open PySem PySem.Spec PyProof.Rows L2 Evl
section
theorem fm_ok {A : Type} {k : Nat} {R : A → A → Prop} {P S : Store} {a b : A} (h : R a b) : ∃ o', some ((.ok b : Except XV A), P ++ shS k S) = some (o', P ++ shS k S) ∧ RX k R (.ok a) o' := ⟨.ok b, rfl, h⟩
theorem f2_I0 (g : Int → Int → AV) (hg : ∀ k i j, (g i j).sh k = g i j) : F2 (gI0 g) := fun k x y => by
  cases x with
  | int i =>
    cases y with
    | int j => exact fm_pure (hg k i j).symm
    | _ => exact fm_no
  | _ => exact fm_no
theorem f2_I (C : Int → Int → Bool) (g : Int → Int → AV) (hg : ∀ k i j, (g i j).sh k = g i j) : F2 (gI C g) := fun k x y => by
  cases x with
  | int i =>
    cases y with
    | int j => exact fm_ite Iff.rfl (fm_pure (hg k i j).symm) fm_no
    | _ => exact fm_no
  | _ => exact fm_no
theorem f2_sub : F2 gSub := f2_I0 _ fun _ _ _ => rfl
theorem f2_mul : F2 gMul := f2_I _ _ fun _ _ _ => rfl
theorem f2_fdiv : F2 gFdiv := f2_I _ _ fun _ _ _ => rfl
theorem f2_mod : F2 gMod := f2_I _ _ fun _ _ _ => rfl
theorem f2_pow : F2 gPow := f2_I _ _ fun _ _ _ => rfl
theorem f2_lt : F2 gLt := f2_I0 _ fun _ _ _ => rfl
theorem f2_le : F2 gLe := f2_I0 _ fun _ _ _ => rfl
theorem f2_gt : F2 gGt := f2_I0 _ fun _ _ _ => rfl
theorem f2_ge : F2 gGe := f2_I0 _ fun _ _ _ => rfl
theorem fm_getL {k : Nat} (x : AV) : Fm k (RL k) (getL x) (getL (x.sh k)) := fun P S o S' hP e => by
  unfold getL at e
  cases x with
  | loc n =>
    simp only at e
    split at e
    · rename_i xs q
      cases e
      have q2 := shS_get (P := P) (S := S) hP n
      rw [q] at q2
      have q3 : (P ++ shS k S)[n + k]? = some (.lst (AV.shs k xs)) := q2
      exact ⟨.ok (AV.shs k xs), by unfold getL; simp only [AV.sh, q3], rfl⟩
    · cases e
  | fl xs => cases e; exact ⟨.ok (AV.shs k xs), rfl, rfl⟩
  | _ => cases e
theorem fm_getS {k : Nat} (x : AV) : Fm k (RL k) (getS x) (getS (x.sh k)) := fun P S o S' hP e => by
  cases x with
  | tup xs => cases e; exact ⟨.ok (AV.shs k xs), rfl, rfl⟩
  | loc n => exact fm_getL (.loc n) P S o S' hP e
  | fl xs => exact fm_getL (.fl xs) P S o S' hP e
  | _ => cases e
theorem f2_add : F2 gAdd := fun k x y => by
  cases x with
  | int i =>
    cases y with
    | int j => exact fm_pure rfl
    | _ => exact fm_no
  | tup xs =>
    cases y with
    | tup ys => exact fm_ite (by rw [shs_len, shs_len]) (fm_pure (by show AV.tup _ = AV.tup _; rw [shs_app])) fm_no
    | _ => exact fm_no
  | loc n =>
    cases y with
    | loc m =>
      refine fm_bind (fm_getL (.loc n)) fun xs xs' e => fm_bind (fm_getL (.loc m)) fun ys ys' e2 => ?_
      subst e e2
      exact fm_ite (by rw [shs_len, shs_len]) (fm_new (by show AO.lst _ = AO.lst _; rw [shs_app])) fm_no
    | _ => exact fm_no
  | _ => exact fm_no
/-! data -/
mutual
theorem toD_sh (k : Nat) : ∀ x : AV, (x.sh k).toD = x.toD
  | .non => rfl
  | .bl _ => rfl
  | .int _ => rfl
  | .str _ => rfl
  | .tup xs => by show (AV.toDs (AV.shs k xs)).map _ = (AV.toDs xs).map _; rw [toDs_sh k xs]
  | .fl xs => by show (AV.toDs (AV.shs k xs)).map _ = (AV.toDs xs).map _; rw [toDs_sh k xs]
  | .loc _ => rfl
  | .k _ => rfl
  | .wd _ => rfl
theorem toDs_sh (k : Nat) : ∀ xs : List AV, AV.toDs (AV.shs k xs) = AV.toDs xs
  | [] => rfl
  | x :: xs => by
    rw [show AV.shs k (x :: xs) = AV.sh k x :: AV.shs k xs from rfl]
    unfold AV.toDs
    rw [toD_sh k x, toDs_sh k xs]
end
theorem dataOf_sh {k : Nat} {P S : Store} (hP : P.length = k) (x : AV) {d : PyData} (h : dataOf x S = some d) : dataOf (x.sh k) (P ++ shS k S) = some d := by
  cases x with
  | loc n =>
    unfold dataOf at h ⊢
    simp only [AV.sh] at h ⊢
    rw [shS_get hP]
    split at h
    · rename_i xs q
      rw [q]
      simp only [Option.map, AO.sh]
      rw [toDs_sh]
      exact h
    · cases h
  | _ => exact (toD_sh k _).trans h
theorem sc_sh (k : Nat) (x : AV) : (x.sh k).sc = x.sc := by cases x <;> rfl
theorem scs_sh (k : Nat) : ∀ xs : List AV, scs (AV.shs k xs) = scs xs
  | [] => rfl
  | x :: xs => by
    rw [show AV.shs k (x :: xs) = AV.sh k x :: AV.shs k xs from rfl]
    unfold scs
    rw [sc_sh, scs_sh k xs]
theorem f2_eqM (neg : Bool) : F2 (eqM neg) := fun k x y P S o S' hP e => by
  unfold eqM at e ⊢
  rw [sc_sh, sc_sh]
  split at e
  · rename_i v w e1 e2
    split at e
    · cases e
      rename_i q
      exact ⟨.ok (.bl (if neg then !decide (v = w) else decide (v = w))), by rw [if_pos q], rfl⟩
    · cases e
  · split at e
    · rename_i d d' e1 e2
      split at e
      · cases e
        rename_i q
        refine ⟨.ok (.bl (if neg then !PyData.eqv d d' else PyData.eqv d d')), ?_, rfl⟩
        rw [dataOf_sh hP x e1, dataOf_sh hP y e2]
        simp only [q, if_true]
      · cases e
    · cases e
theorem f2_eq : F2 gEq := f2_eqM false
theorem f2_ne : F2 gNe := f2_eqM true
theorem f2_isN (neg : Bool) : F2 (isN neg) := fun k x y => by
  cases y with
  | non => cases x <;> first | exact fm_pure rfl | exact fm_no
  | _ => cases x <;> exact fm_no
theorem sign1_sh (k : Nat) (x : AV) : sign1 (x.sh k) = sign1 x := by cases x <;> rfl
theorem f2_in (neg : Bool) : F2 (inM neg) := fun k x y P S o S' hP e => by
  unfold inM at e ⊢
  cases y with
  | str z =>
    simp only [AV.sh] at e ⊢
    rw [sign1_sh]
    split at e
    · rename_i n q; cases e; exact ⟨.ok _, rfl, rfl⟩
    · cases e
  | loc n =>
    simp only [AV.sh] at e ⊢
    rw [shS_get hP]
    split at e
    · rename_i kvs fz q
      rw [q]
      simp only [Option.map, AO.sh]
      rw [toKey_sh]
      split at e
      · rename_i k' q2
        cases e
        have e3 : (getK (shP k kvs) k').isSome = (getK kvs k').isSome := by rw [getK_sh]; cases getK kvs k' <;> rfl
        simp only [e3]
        exact ⟨.ok _, rfl, rfl⟩
      · cases e
    · rename_i ys q
      rw [q]
      simp only [Option.map, AO.sh]
      rw [sc_sh, scs_sh]
      split at e
      · rename_i v vs q1 q2; cases e; exact ⟨.ok _, rfl, rfl⟩
      · cases e
    · cases e
  | tup ys =>
    simp only [AV.sh] at e ⊢
    rw [sc_sh, scs_sh]
    split at e
    · rename_i v vs q1 q2; cases e; exact ⟨.ok _, rfl, rfl⟩
    · cases e
  | _ => cases e
theorem atI_sh (k : Nat) (xs : List AV) (i : Int) : atI (AV.shs k xs) i = (atI xs i).map (AV.sh k) := by
  unfold atI
  rw [shs_len]
  cases ixN xs.length i with
  | none => rfl
  | some j => exact shs_get k xs j
theorem fm_mapO {k : Nat} {P S : Store} {a b : Option AV} (h : b = a.map (AV.sh k)) {o : Except XV AV} {S' : Store} (e : (a.map fun r => ((.ok r : Except XV AV), S)) = some (o, S')) : ∃ o', (b.map fun r => ((.ok r : Except XV AV), P ++ shS k S)) = some (o', P ++ shS k S') ∧ RX k (RA k) o o' := by
  cases a with
  | none => cases e
  | some x =>
    cases e
    subst h
    exact ⟨.ok (x.sh k), rfl, rfl⟩
theorem f2_ix : F2 ixM := fun k x y P S o S' hP e => by
  unfold ixM at e ⊢
  cases x with
  | tup xs =>
    cases y with
    | int i => exact fm_mapO (atI_sh k xs i) e
    | _ => cases e
  | fl xs =>
    cases y with
    | int i => exact fm_mapO (atI_sh k xs i) e
    | _ => cases e
  | str z =>
    cases y with
    | int i =>
      simp only [AV.sh] at e ⊢
      split at e
      · obtain ⟨n, q, e2⟩ := Option.map_eq_some_iff.mp e
        cases e2
        rename_i hz
        exact ⟨.ok (.str ⟨#[n]⟩), by rw [if_pos hz, q]; rfl, rfl⟩
      · cases e
    | _ => cases e
  | loc n =>
    simp only [AV.sh] at e ⊢
    rw [shS_get hP]
    split at e
    · rename_i xs q
      rw [q]
      simp only [Option.map, AO.sh]
      cases y with
      | int i => exact fm_mapO (atI_sh k xs i) e
      | _ => cases e
    · rename_i kvs fz q
      rw [q]
      simp only [Option.map_some, AO.sh]
      rw [toKey_sh]
      split at e
      · rename_i k' q2
        exact fm_mapO (getK_sh k kvs k') e
      · cases e
    · cases e
  | wd es =>
    cases y with
    | str z =>
      obtain ⟨p, q, e2⟩ := Option.map_eq_some_iff.mp e
      cases e2
      exact ⟨.ok (.str p.2), by simp only [AV.sh]; rw [q]; rfl, rfl⟩
    | _ => cases e
  | _ => cases e
theorem cutA_sh (k : Nat) (xs : List AV) (lo hi : Option Int) : cutA (AV.shs k xs) lo hi = AV.shs k (cutA xs lo hi) := by
  unfold cutA
  rw [shs_len, shs_map, shs_map, List.map_take, List.map_drop]
theorem fm_sl {k : Nat} (x : AV) (lo hi : Option Int) : Fm k (RA k) (slM x lo hi) (slM (x.sh k) lo hi) := fun P S o S' hP e => by
  unfold slM at e ⊢
  cases x with
  | tup xs => cases e; exact ⟨.ok (.tup (AV.shs k (cutA xs lo hi))), by simp only [AV.sh]; rw [cutA_sh], rfl⟩
  | str z =>
    simp only [AV.sh] at e ⊢
    split at e
    · rename_i hz; cases e; exact ⟨.ok (.str (cutS z lo hi)), by rw [if_pos hz], rfl⟩
    · cases e
  | fl xs =>
    cases e
    refine ⟨.ok (.loc (S.length + k)), ?_, rfl⟩
    simp only [AV.sh]
    rw [shS_len hP, cutA_sh, ← shS_app]; rfl
  | loc n =>
    simp only [AV.sh] at e ⊢
    rw [shS_get hP]
    split at e
    · rename_i xs q
      cases e
      rw [q]
      simp only [Option.map, AO.sh]
      refine ⟨.ok (.loc (S.length + k)), ?_, rfl⟩
      rw [shS_len hP, cutA_sh, ← shS_app]; rfl
    · cases e
  | _ => cases e
theorem fe_sl {a : Env → M AV} {l h : Env → M (Option Int)} (ha : Fe a) (hl : Fo l) (hh : Fo h) : Fe (mSl a l h) := fun k ρ => fm_bind (ha k ρ) fun x y e => fm_bind (hl k ρ) fun i j e2 => fm_bind (hh k ρ) fun i' j' e3 => by
  subst e e2 e3
  exact fm_sl x _ _
theorem lookup_sh (k : Nat) (fs : List (Str × AV)) (f : Str) : (shP k fs).lookup f = (fs.lookup f).map (AV.sh k) := by
  induction fs with
  | nil => rfl
  | cons p fs ih =>
    show List.lookup f ((p.1, p.2.sh k) :: shP k fs) = (List.lookup f ((p.1, p.2) :: fs)).map _
    rw [List.lookup_cons, List.lookup_cons]
    cases f == p.1 with
    | true => rfl
    | false => exact ih
theorem f1_fld (C : Nat) (f : Str) : F1 (fldM C f) := fun k x P S o S' hP e => by
  unfold fldM at e ⊢
  cases x with
  | loc n =>
    simp only [AV.sh] at e ⊢
    rw [shS_get hP]
    split at e
    · rename_i D fs q
      rw [q]
      simp only [Option.map_some, AO.sh]
      split at e
      · rename_i hD
        rw [if_pos hD]
        exact fm_mapO (lookup_sh k fs f) e
      · cases e
    · cases e
  | _ => cases e
theorem fe_fld {C : Nat} {f : Str} {a : Env → M AV} (ha : Fe a) : Fe (mFld C f a) := fun k ρ => fm_bind (ha k ρ) fun x y e => by subst e; exact f1_fld C f k x
theorem fu_ins (C : Nat) (m : Str) : Fu (insM C m) := fun k x P S o S' hP e => by
  unfold insM at e ⊢
  cases x with
  | loc n =>
    simp only [AV.sh] at e ⊢
    rw [shS_get hP]
    split at e
    · rename_i D fs q
      rw [q]
      simp only [Option.map_some, AO.sh]
      split at e
      · rename_i hD
        cases e
        refine ⟨.ok (), ?_, trivial⟩
        rw [if_pos ⟨hD.1, by rw [lookup_sh, hD.2]; rfl⟩]
      · cases e
    · cases e
  | _ => cases e
theorem fd_len : Fd lenM := fun k xs => by
  match xs with
  | [] => exact fm_no
  | _ :: _ :: _ => exact fm_no
  | [x] =>
    intro P S o S' hP e
    show ∃ o', lenM [x.sh k] (P ++ shS k S) = _ ∧ _
    unfold lenM at e ⊢
    cases x with
    | str z =>
      simp only [AV.sh] at e ⊢
      split at e
      · rename_i hz; cases e; exact ⟨.ok _, by rw [if_pos hz]; rfl, rfl⟩
      · cases e
    | tup ys => cases e; exact ⟨.ok (.int ys.length), by simp only [AV.sh]; rw [shs_len], rfl⟩
    | fl ys => cases e; exact ⟨.ok (.int ys.length), by simp only [AV.sh]; rw [shs_len], rfl⟩
    | loc n =>
      simp only [AV.sh] at e ⊢
      rw [shS_get hP]
      split at e
      · rename_i ys q; rw [q]; cases e; exact ⟨.ok (.int ys.length), by simp only [Option.map, AO.sh]; rw [shs_len], rfl⟩
      · rename_i kvs q; rw [q]; cases e; exact ⟨.ok (.int kvs.length), by simp only [Option.map, AO.sh]; rw [shP_len], rfl⟩
      · cases e
    | _ => cases e
theorem fd_list : Fd listM := fun k xs => by
  match xs with
  | [] => exact fm_no
  | _ :: _ :: _ => exact fm_no
  | [x] => exact fm_bind (fm_getS x) fun ys zs e => by subst e; exact fm_new rfl
theorem fd_tup : Fd tupM := fun k xs => by
  match xs with
  | [] => exact fm_no
  | _ :: _ :: _ => exact fm_no
  | [x] => exact fm_bind (fm_getS x) fun ys zs e => by subst e; exact fm_pure rfl
theorem fd_int : Fd intM := fun k xs => by
  match xs with
  | [] => exact fm_no
  | [x] => cases x <;> first | exact fm_pure rfl | exact fm_no
  | x :: y :: _ => cases x <;> exact fm_no
theorem blsOf_sh (k : Nat) : ∀ xs : List AV, blsOf (AV.shs k xs) = blsOf xs
  | [] => rfl
  | x :: xs => by
    rw [show AV.shs k (x :: xs) = AV.sh k x :: AV.shs k xs from rfl]
    cases x with
    | bl b => show (blsOf (AV.shs k xs)).map _ = (blsOf xs).map _; rw [blsOf_sh k xs]
    | _ => rfl
theorem intsOf_sh (k : Nat) : ∀ xs : List AV, intsOf (AV.shs k xs) = intsOf xs
  | [] => rfl
  | x :: xs => by
    rw [show AV.shs k (x :: xs) = AV.sh k x :: AV.shs k xs from rfl]
    cases x with
    | int b => show (intsOf (AV.shs k xs)).map _ = (intsOf xs).map _; rw [intsOf_sh k xs]
    | _ => rfl
theorem fd_fold1 {f : List AV → Option AV} (hf : ∀ k xs, f (AV.shs k xs) = (f xs).map (AV.sh k)) : Fd (foldM1 f) := fun k xs => by
  match xs with
  | [] => exact fm_no
  | _ :: _ :: _ => exact fm_no
  | [x] => exact fm_bind (fm_getL x) fun ys zs e => (by subst e; exact fm_ofO fun z hz => ⟨z.sh k, by rw [hf, hz]; rfl, rfl⟩)
theorem fd_all : Fd allM := fd_fold1 fun k xs => by rw [blsOf_sh]; cases blsOf xs <;> rfl
theorem fd_any : Fd anyM := fd_fold1 fun k xs => by rw [blsOf_sh]; cases blsOf xs <;> rfl
theorem fd_sum : Fd sumM := fd_fold1 fun k xs => by rw [intsOf_sh]; cases intsOf xs <;> rfl
theorem tyA_sh {k : Nat} {P S : Store} (hP : P.length = k) (x : AV) {t : String} (h : tyA x S = some t) : tyA (x.sh k) (P ++ shS k S) = some t := by
  cases x with
  | loc n =>
    unfold tyA at h ⊢
    simp only [AV.sh] at h ⊢
    rw [shS_get hP]
    split at h
    · rename_i q; rw [q]; exact h
    · rename_i q; rw [q]; exact h
    · cases h
  | _ => exact h
theorem fe_isi {T : String} {a : Env → M AV} (ha : Fe a) : Fe (mIsi T a) := fun k ρ => fm_bind (ha k ρ) fun x y e => by
  subst e
  intro P S o S' hP e
  obtain ⟨t, h1, h2⟩ := Option.map_eq_some_iff.mp e
  cases h2
  exact ⟨.ok (.bl (CK.tyIs t T)), by unfold isiM; rw [tyA_sh hP x h1]; rfl, rfl⟩
theorem fe_isi2 {T U : String} {a : Env → M AV} (ha : Fe a) : Fe (mIsi2 T U a) := fun k ρ => fm_bind (ha k ρ) fun x y e => by
  subst e
  intro P S o S' hP e
  obtain ⟨t, h1, h2⟩ := Option.map_eq_some_iff.mp e
  cases h2
  exact ⟨.ok (.bl (CK.tyIs t T || CK.tyIs t U)), by show (tyA (x.sh k) (P ++ shS k S)).map _ = _; rw [tyA_sh hP x h1]; rfl, rfl⟩
theorem keysOf_sh (k : Nat) : ∀ xs : List AV, keysOf (AV.shs k xs) = keysOf xs
  | [] => rfl
  | x :: xs => by
    rw [show AV.shs k (x :: xs) = AV.sh k x :: AV.shs k xs from rfl]
    unfold keysOf
    rw [toKey_sh, keysOf_sh k xs]
theorem zip_sh {κ : Type} (k : Nat) : ∀ (ks : List κ) (zs : List AV), ks.zip (AV.shs k zs) = shP k (ks.zip zs)
  | [], _ => rfl
  | _ :: _, [] => rfl
  | q :: ks, z :: zs => by
    show (q, z.sh k) :: ks.zip (AV.shs k zs) = (q, z.sh k) :: shP k (ks.zip zs)
    rw [zip_sh k ks zs]
theorem fold_sh {κ : Type} [DecidableEq κ] (k : Nat) : ∀ (ls ks : List (κ × AV)), (shP k ls).foldl (fun acc kv => setK acc kv.1 kv.2) (shP k ks) = shP k (ls.foldl (fun acc kv => setK acc kv.1 kv.2) ks)
  | [], _ => rfl
  | p :: ls, ks => by
    show (shP k ls).foldl _ (setK (shP k ks) p.1 (p.2.sh k)) = _
    rw [setK_sh, fold_sh k ls]; rfl
theorem fd_dz : Fd dzM := fun k xs => by
  match xs with
  | [] => exact fm_no
  | [x] => cases x <;> exact fm_no
  | [x, y] =>
    cases x with
    | tup ks =>
      cases y with
      | tup zs =>
        show Fm k (RA k) (match keysOf ks with | some kl => _ | none => M.no) (match keysOf (AV.shs k ks) with | some kl => _ | none => M.no)
        rw [keysOf_sh]
        cases keysOf ks with
        | none => exact fm_no
        | some kl => exact fm_ite (by rw [shs_len]) (fm_new (by show AO.dct _ _ = AO.dct _ _; rw [zip_sh]; exact congrArg (AO.dct · false) (fold_sh k (kl.zip zs) []))) fm_no
      | _ => exact fm_no
    | _ => cases y <;> exact fm_no
  | x :: y :: _ :: _ => cases x <;> first | exact fm_no | (cases y <;> exact fm_no)
theorem fu_okL : Fu okL := fun k x P S o S' hP e => by
  unfold okL at e ⊢
  cases x with
  | loc n =>
    simp only [AV.sh] at e ⊢
    rw [shS_get hP]
    split at e
    · rename_i q; rw [q]; cases e; exact ⟨.ok (), rfl, trivial⟩
    · cases e
  | _ => cases e
theorem fu_okD : Fu okD := fun k x P S o S' hP e => by
  unfold okD at e ⊢
  cases x with
  | loc n =>
    simp only [AV.sh] at e ⊢
    rw [shS_get hP]
    split at e
    · rename_i q; rw [q]; cases e; exact ⟨.ok (), rfl, trivial⟩
    · cases e
  | _ => cases e
theorem fm_app {k : Nat} (x : AV) (xs : List AV) : Fm k (RA k) (appM x xs) (appM (x.sh k) (AV.shs k xs)) := fun P S o S' hP e => by
  match x, xs with
  | .loc n, [y] =>
    show ∃ o', appM (.loc (n + k)) [y.sh k] (P ++ shS k S) = _ ∧ _
    unfold appM at e ⊢
    simp only at e ⊢
    rw [shS_get hP]
    split at e
    · rename_i ys q
      rw [q]
      simp only [Option.map, AO.sh]
      split at e
      · rename_i hl
        cases e
        rw [if_pos (by rw [shs_len]; exact hl)]
        refine ⟨.ok .non, ?_, rfl⟩
        rw [← shS_set hP]
        show some (_, (P ++ shS k S).set (n + k) (.lst (AV.shs k ys ++ [y.sh k]))) = some (_, (P ++ shS k S).set (n + k) (.lst (AV.shs k (ys ++ [y]))))
        rw [shs_app]; rfl
      · cases e
    · cases e
theorem fm_ext {k : Nat} (x : AV) (xs : List AV) : Fm k (RA k) (extM x xs) (extM (x.sh k) (AV.shs k xs)) := fun P S o S' hP e => by
  match x, xs with
  | .loc n, [.loc m] =>
    show ∃ o', extM (.loc (n + k)) [.loc (m + k)] (P ++ shS k S) = _ ∧ _
    unfold extM at e ⊢
    simp only at e ⊢
    rw [shS_get hP, shS_get hP]
    split at e
    · rename_i ys zs q q'
      rw [q, q']
      simp only [Option.map, AO.sh]
      split at e
      · rename_i hl
        cases e
        rw [if_pos (by rw [shs_len, shs_len]; exact hl)]
        refine ⟨.ok .non, ?_, rfl⟩
        rw [← shS_set hP]
        show some (_, (P ++ shS k S).set (n + k) (.lst (AV.shs k ys ++ AV.shs k zs))) = some (_, (P ++ shS k S).set (n + k) (.lst (AV.shs k (ys ++ zs))))
        rw [shs_app]
      · cases e
    · cases e
  | .loc n, [.tup zs] =>
    show ∃ o', extM (.loc (n + k)) [.tup (AV.shs k zs)] (P ++ shS k S) = _ ∧ _
    unfold extM at e ⊢
    simp only at e ⊢
    rw [shS_get hP]
    split at e
    · rename_i ys q
      rw [q]
      simp only [Option.map, AO.sh]
      split at e
      · rename_i hl
        cases e
        rw [if_pos (by rw [shs_len, shs_len]; exact hl)]
        refine ⟨.ok .non, ?_, rfl⟩
        rw [← shS_set hP]
        show some (_, (P ++ shS k S).set (n + k) (.lst (AV.shs k ys ++ AV.shs k zs))) = some (_, (P ++ shS k S).set (n + k) (.lst (AV.shs k (ys ++ zs))))
        rw [shs_app]
      · cases e
    · cases e
theorem shs_dropLast (k : Nat) (xs : List AV) : AV.shs k xs.dropLast = (AV.shs k xs).dropLast := by rw [shs_map, shs_map, List.map_dropLast]
theorem fm_pop {k : Nat} (x : AV) (xs : List AV) : Fm k (RA k) (popM x xs) (popM (x.sh k) (AV.shs k xs)) := fun P S o S' hP e => by
  match x, xs with
  | .loc n, [] =>
    show ∃ o', popM (.loc (n + k)) [] (P ++ shS k S) = _ ∧ _
    unfold popM at e ⊢
    simp only at e ⊢
    rw [shS_get hP]
    split at e
    · rename_i ys q
      rw [q]
      simp only [Option.map_some, AO.sh]
      obtain ⟨r, q2, e2⟩ := Option.map_eq_some_iff.mp e
      cases e2
      refine ⟨.ok (r.sh k), ?_, rfl⟩
      rw [shs_len, shs_get, q2, ← shS_set hP]
      show some (_, (P ++ shS k S).set (n + k) (.lst (AV.shs k ys).dropLast)) = some (_, (P ++ shS k S).set (n + k) (.lst (AV.shs k ys.dropLast)))
      rw [shs_dropLast]
    · cases e
theorem fm_updM {k : Nat} (x : AV) (xs : List AV) : Fm k (RA k) (updM x xs) (updM (x.sh k) (AV.shs k xs)) := fun P S o S' hP e => by
  match x, xs with
  | .loc n, [.loc m] =>
    show ∃ o', updM (.loc (n + k)) [.loc (m + k)] (P ++ shS k S) = _ ∧ _
    unfold updM at e ⊢
    simp only at e ⊢
    split at e
    · cases e
    · rename_i hne
      rw [if_neg (by omega), shS_get hP, shS_get hP]
      split at e
      · rename_i ks ls q q'
        rw [q, q']
        simp only [Option.map, AO.sh]
        split at e
        · rename_i hl
          cases e
          rw [if_pos (by rw [shP_len, shP_len]; exact hl)]
          refine ⟨.ok .non, ?_, rfl⟩
          rw [← shS_set hP, fold_sh]; rfl
        · cases e
      · cases e
/-! walks -/
theorem fi_it {g : AV → M AI} {a : Env → M AV} (hg : ∀ k x, Fm k (RI k) (g x) (g (x.sh k))) (ha : Fe a) : Fi (mIt g a) := fun k ρ => fm_bind (ha k ρ) fun x y e => by subst e; exact hg k x
theorem fi_itA {g : List AV → M AI} {a : Env → M (List AV)} (hg : ∀ k x, Fm k (RI k) (g x) (g (AV.shs k x))) (ha : Fa a) : Fi (mItA g a) := fun k ρ => fm_bind (ha k ρ) fun x y e => by subst e; exact hg k x
theorem it_tup (k : Nat) (x : AV) : Fm k (RI k) (itTup x) (itTup (x.sh k)) := by
  cases x <;> first | exact fm_pure rfl | exact fm_no
theorem it_lst (k : Nat) (x : AV) : Fm k (RI k) (itLst x) (itLst (x.sh k)) := fun P S o S' hP e => by
  unfold itLst at e ⊢
  cases x with
  | loc n =>
    simp only [AV.sh] at e ⊢
    rw [shS_get hP]
    split at e
    · rename_i xs q; rw [q]; cases e; exact ⟨.ok (AI.sh k ⟨xs, [(n, xs)]⟩), rfl, rfl⟩
    · cases e
  | fl xs => cases e; exact ⟨.ok (AI.sh k ⟨xs, []⟩), rfl, rfl⟩
  | _ => cases e
theorem signs_sh (k : Nat) (z : Str) : AV.shs k (signs z) = signs z := by
  unfold signs
  generalize z.cps.toList = l
  induction l with
  | nil => rfl
  | cons n l ih =>
    show AV.str _ :: AV.shs k _ = _
    rw [ih]; rfl
theorem it_str (k : Nat) (x : AV) : Fm k (RI k) (itStr x) (itStr (x.sh k)) := by
  cases x with
  | str z => exact fm_pure (by show AI.mk _ _ = AI.mk _ _; rw [signs_sh]; rfl)
  | _ => exact fm_no
theorem nats_sh (k : Nat) (lo : Int) (n : Nat) : AV.shs k (nats lo n) = nats lo n := by
  rw [shs_map]
  unfold nats
  rw [List.map_map]
  rfl
theorem it_rng (k : Nat) (xs : List AV) : Fm k (RI k) (itRng xs) (itRng (AV.shs k xs)) := by
  match xs with
  | [] => exact fm_no
  | [x] =>
    cases x with
    | int j => exact fm_ite Iff.rfl (fm_pure (by show AI.mk _ _ = AI.mk _ _; rw [nats_sh]; rfl)) fm_no
    | _ => exact fm_no
  | x :: y :: _ => cases x <;> exact fm_no
theorem it_rng2 (k : Nat) (xs : List AV) : Fm k (RI k) (itRng2 xs) (itRng2 (AV.shs k xs)) := by
  match xs with
  | [] => exact fm_no
  | [x] => cases x <;> exact fm_no
  | [x, y] =>
    cases x with
    | int i =>
      cases y with
      | int j => exact fm_ite Iff.rfl (fm_pure (by show AI.mk _ _ = AI.mk _ _; rw [nats_sh]; rfl)) fm_no
      | _ => exact fm_no
    | _ => cases y <;> exact fm_no
  | x :: y :: _ :: _ => cases x <;> first | exact fm_no | (cases y <;> exact fm_no)
theorem it_any (k : Nat) (x : AV) : Fm k (RI k) (itAny x) (itAny (x.sh k)) := fun P S o S' hP e => by
  cases x with
  | tup xs => cases e; exact ⟨.ok (AI.sh k ⟨xs, []⟩), rfl, rfl⟩
  | str z => cases e; exact ⟨.ok ⟨signs z, []⟩, rfl, by show AI.mk _ _ = AI.mk _ _; rw [signs_sh]; rfl⟩
  | loc n => exact it_lst k (.loc n) P S o S' hP e
  | fl xs => exact it_lst k (.fl xs) P S o S' hP e
  | _ => cases e
theorem numd_sh (k : Nat) (xs : List AV) : AV.shs k (numd xs) = numd (AV.shs k xs) := by
  rw [shs_map, shs_map]
  unfold numd
  rw [List.map_map, List.zipIdx_map, List.map_map]
  rfl
theorem it_enum (k : Nat) (xs : List AV) : Fm k (RI k) (itEnum xs) (itEnum (AV.shs k xs)) := by
  match xs with
  | [] => exact fm_no
  | _ :: _ :: _ => exact fm_no
  | [x] => exact fm_bind (it_any k x) fun a b e => fm_pure (by subst e; show AI.mk _ _ = AI.mk _ _; rw [numd_sh]; rfl)
theorem zipd_sh (k : Nat) (xs ys : List AV) : AV.shs k (zipd xs ys) = zipd (AV.shs k xs) (AV.shs k ys) := by
  rw [shs_map, shs_map, shs_map]
  unfold zipd
  rw [List.map_map, List.zip_map, List.map_map]
  rfl
theorem it_zip (k : Nat) (xs : List AV) : Fm k (RI k) (itZip xs) (itZip (AV.shs k xs)) := by
  match xs with
  | [] => exact fm_no
  | [_] => exact fm_no
  | _ :: _ :: _ :: _ => exact fm_no
  | [x, y] => exact fm_bind (it_any k x) fun a b e => fm_bind (it_any k y) fun a2 b2 e2 => (by
      subst e e2
      exact fm_ite (by show _ ↔ (AV.shs k a.xs).length = (AV.shs k a2.xs).length; rw [shs_len, shs_len]) (fm_pure (by show AI.mk _ _ = AI.mk _ _; rw [zipd_sh, List.map_append]; rfl)) fm_no)
theorem fm_put {k : Nat} (o i x : AV) : Fm k RU (putM o i x) (putM (o.sh k) (i.sh k) (x.sh k)) := fun P S z S' hP e => by
  unfold putM at e ⊢
  cases o with
  | loc n =>
    simp only [AV.sh] at e ⊢
    rw [shS_get hP]
    split at e
    · rename_i xs q
      rw [q]
      simp only [Option.map_some, AO.sh]
      cases i with
      | int j =>
        obtain ⟨r, q2, e2⟩ := Option.map_eq_some_iff.mp e
        cases e2
        refine ⟨.ok (), ?_, trivial⟩
        simp only [AV.sh]
        rw [shs_len, q2, ← shS_set hP]
        show some (_, (P ++ shS k S).set (n + k) (.lst ((AV.shs k xs).set r (x.sh k)))) = some (_, (P ++ shS k S).set (n + k) (.lst (AV.shs k (xs.set r x))))
        rw [shs_map, shs_map, List.map_set]
      | _ => cases e
    · rename_i kvs q
      rw [q]
      simp only [Option.map_some, AO.sh]
      rw [toKey_sh]
      split at e
      · rename_i k' q2
        split at e
        · rename_i hl
          cases e
          rw [if_pos (by rw [shP_len]; exact hl)]
          refine ⟨.ok (), ?_, trivial⟩
          rw [← shS_set hP, setK_sh]; rfl
        · cases e
      · cases e
    · cases e
  | _ => cases e
theorem fg_sub {a b : Env → M AV} (ha : Fe a) (hb : Fe b) : Fg (mgSub a b) := fun k x ρ => fm_bind (ha k ρ) fun o o' e => fm_bind (hb k ρ) fun i i' e2 => by
  subst e e2
  exact fm_bind (fm_put o i x) fun _ _ _ => fm_pure rfl
theorem putF_sh (k : Nat) (f : Str) (x : AV) : ∀ fs : List (Str × AV), putF f (x.sh k) (shP k fs) = shP k (putF f x fs)
  | [] => rfl
  | p :: fs => by
    show putF f (x.sh k) ((p.1, p.2.sh k) :: shP k fs) = shP k (putF f x ((p.1, p.2) :: fs))
    unfold putF
    split
    · rfl
    · rw [putF_sh k f x fs]; rfl
theorem fm_setF {k : Nat} (C : Nat) (f : Str) (o x : AV) : Fm k RU (setF C f o x) (setF C f (o.sh k) (x.sh k)) := fun P S z S' hP e => by
  unfold setF at e ⊢
  cases o with
  | loc n =>
    simp only [AV.sh] at e ⊢
    rw [shS_get hP]
    split at e
    · rename_i D fs q
      rw [q]
      simp only [Option.map_some, AO.sh]
      split at e
      · rename_i hD
        cases e
        rw [if_pos ⟨hD.1, by rw [shP_len]; exact hD.2⟩]
        refine ⟨.ok (), ?_, trivial⟩
        rw [← shS_set hP, putF_sh]; rfl
      · cases e
    · cases e
  | _ => cases e
theorem fs_setf {C : Nat} {f : Str} {a b : Env → M AV} (ha : Fe a) (hb : Fe b) : Fs (msSetf C f a b) := fun k ρ => fm_bind (hb k ρ) fun x y e => fm_bind (ha k ρ) fun o o' e2 => by
  subst e e2
  exact fm_bind (fm_setF C f o x) fun _ _ _ => fm_pure rfl
theorem fe_neg {a : Env → M AV} (ha : Fe a) : Fe (mNeg a) := fun k ρ => fm_bind (ha k ρ) fun x y e => by
  subst e
  cases x <;> first | exact fm_pure rfl | exact fm_no
end
end CI

set_option Elab.async false
set_option linter.all false
set_option maxRecDepth 100000
set_option maxHeartbeats 4000000
/-! the plain side: one step after the other by simp -/
namespace CI
open PySem PySem.Spec PyProof.Rows L2 Evl
section
variable {A B : Type} {S : Store} {ρ : CI.Env} {a b d : CI.Env → M AV} {r : CI.Env → M (List AV)} {t u : CI.Env → M Bool} {s s2 : CI.Env → M Fl} {w : CI.Env → M AI} {g : AV → CI.Env → M CI.Env}
@[simp] theorem ev_bind (m : M A) (k : A → M B) : (m >>= k) S = match m S with
  | none => none
  | some (.ok a, S') => k a S'
  | some (.error x, S') => some (.error x, S') := rfl
@[simp] theorem ev_pure (a : A) : (pure a : M A) S = some (.ok a, S) := rfl
@[simp] theorem ev_ofO (a : A) : M.ofO (some a) S = some (.ok a, S) := rfl
@[simp] theorem ev_var (i : Nat) : mVar i ρ S = M.ofO (ρ[i]?.join) S := rfl
@[simp] theorem ev_c (x : AV) : mC x ρ S = some (.ok x, S) := rfl
@[simp] theorem ev_nil : mNil ρ S = some (.ok [], S) := rfl
@[simp] theorem ev_cons : mCons a r ρ S = (a ρ >>= fun x => r ρ >>= fun xs => pure (x :: xs)) S := rfl
@[simp] theorem ev_mop (g : AV → AV → M AV) : mOp g a b ρ S = (a ρ >>= fun x => b ρ >>= fun y => g x y) S := rfl
@[simp] theorem ev_mtup : mTup r ρ S = (r ρ >>= fun xs => if xs.length ≤ 100000 then pure (.tup xs) else M.no) S := rfl
@[simp] theorem ev_mlst : mLst r ρ S = (r ρ >>= fun xs => if xs.length ≤ 100000 then M.new (.lst xs) else M.no) S := rfl
@[simp] theorem ev_new (o : AO) : M.new o S = some (.ok (.loc S.length), S ++ [o]) := rfl
@[simp] theorem ev_dict0 : mDict0 ρ S = some (.ok (.loc S.length), S ++ [.dct [] false]) := rfl
@[simp] theorem ev_test : mTest a ρ S = (a ρ >>= fun x => toB x >>= fun b => Pure.pure b) S := rfl
@[simp] theorem ev_tand : mTAnd t u ρ S = (t ρ >>= fun x => if x = true then u ρ else pure false) S := rfl
@[simp] theorem ev_tor : mTOr t u ρ S = (t ρ >>= fun x => if x = true then pure true else u ρ) S := rfl
@[simp] theorem ev_tnot : mTNot t ρ S = (t ρ >>= fun x => pure (!x)) S := rfl
@[simp] theorem ev_and : mAnd a b ρ S = (a ρ >>= fun x => toB x >>= fun k => if k = true then b ρ else pure (.bl false)) S := rfl
@[simp] theorem ev_or : mOr a b ρ S = (a ρ >>= fun x => toB x >>= fun k => if k = true then pure (.bl true) else b ρ) S := rfl
@[simp] theorem ev_not : mNot a ρ S = (a ρ >>= fun x => toB x >>= fun k => pure (.bl (!k))) S := rfl
@[simp] theorem ev_ife : mIfe t a b ρ S = (t ρ >>= fun x => if x = true then a ρ else b ρ) S := rfl
@[simp] theorem ev_chain (g g' : AV → AV → M AV) : mChain g g' a b d ρ S = (a ρ >>= fun x => b ρ >>= fun y => g x y >>= fun z => toB z >>= fun k => if k = true then (d ρ >>= fun w => g' y w) else pure (.bl false)) S := rfl
@[simp] theorem ev_toB (k : Bool) : toB (.bl k) = pure k := rfl
@[simp] theorem ev_I0 (f : Int → Int → AV) (i j : Int) : gI0 f (.int i) (.int j) = pure (f i j) := rfl
@[simp] theorem ev_I (C : Int → Int → Bool) (f : Int → Int → AV) (i j : Int) : gI C f (.int i) (.int j) = if C i j then pure (f i j) else M.no := rfl
@[simp] theorem ev_addI (i j : Int) : gAdd (.int i) (.int j) = pure (.int (i + j)) := rfl
@[simp] theorem ev_addT (xs ys : List AV) : gAdd (.tup xs) (.tup ys) = if xs.length + ys.length ≤ 100000 then pure (.tup (xs ++ ys)) else M.no := rfl
@[simp] theorem ev_cb (f : List AV → M AV) : mCb f r ρ S = (r ρ >>= f) S := rfl
@[simp] theorem ev_callD (f : List AV → M AV) (ds : List AV) : mCallD f ds r ρ S = (r ρ >>= fun xs => f (xs ++ ds)) S := rfl
@[simp] theorem ev_neg : mNeg a ρ S = (a ρ >>= negM) S := rfl
@[simp] theorem ev_negM (i : Int) : negM (.int i) = pure (.int (-i)) := rfl
@[simp] theorem ev_intI (i : Int) : intM [.int i] = pure (.int i) := rfl
@[simp] theorem ev_intB (k : Bool) : intM [.bl k] = pure (.int (if k then 1 else 0)) := rfl
@[simp] theorem ev_fld (C : Nat) (f : Str) : mFld C f a ρ S = (a ρ >>= fldM C f) S := rfl
@[simp] theorem ev_sl (l h : CI.Env → M (Option Int)) : mSl a l h ρ S = (a ρ >>= fun x => l ρ >>= fun i => h ρ >>= fun j => slM x i j) S := rfl
@[simp] theorem ev_noP : mNoP ρ S = some (.ok none, S) := rfl
@[simp] theorem ev_part : mPart a ρ S = (a ρ >>= toI) S := rfl
@[simp] theorem ev_toI (i : Int) : toI (.int i) = pure (some i) := rfl
@[simp] theorem ev_isi (T : String) : mIsi T a ρ S = (a ρ >>= isiM T) S := rfl
@[simp] theorem ev_bm (f : AV → List AV → M AV) (ok : AV → M Unit) : mBm f ok a r ρ S = (a ρ >>= fun x => ok x >>= fun _ => r ρ >>= fun xs => f x xs) S := rfl
@[simp] theorem ev_bm0 (f : AV → List AV → M AV) (ok : AV → M Unit) : mBm0 f ok a ρ S = (a ρ >>= fun x => ok x >>= fun _ => f x []) S := rfl
@[simp] theorem ev_meth (C : Nat) (m : Str) (f : List AV → M AV) : mMeth C m f a r ρ S = (a ρ >>= fun x => insM C m x >>= fun _ => r ρ >>= fun xs => f (x :: xs)) S := rfl
@[simp] theorem ev_make (C : Nat) (f : List AV → M AV) : mMake C f r ρ S = (r ρ >>= fun xs => M.new (.ins C []) >>= fun p => f (p :: xs) >>= fun z => nonM p z) S := rfl
@[simp] theorem ev_nonM (p : AV) : nonM p .non = pure p := rfl
@[simp] theorem ev_lc (e : CI.Env → M AV) (vs : List Nat) : mLc w g t e vs ρ S = (w ρ >>= fun ai => lcGo ai (lcTurn g t e (wipeA ρ vs)) ai.xs [] >>= M.lcEnd) S := rfl
@[simp] theorem ev_lcEnd (xs : List AV) : M.lcEnd xs = M.new (.lst xs) := rfl
@[simp] theorem ev_dc (k e : CI.Env → M AV) (vs : List Nat) : mDc w g t k e vs ρ S = (w ρ >>= fun ai => dcGo ai (dcTurn g t k e (wipeA ρ vs)) ai.xs [] >>= M.dcEnd) S := rfl
@[simp] theorem ev_it (f : AV → M AI) : mIt f a ρ S = (a ρ >>= f) S := rfl
@[simp] theorem ev_itA (f : List AV → M AI) : mItA f r ρ S = (r ρ >>= f) S := rfl
@[simp] theorem ev_itTup (xs : List AV) : itTup (.tup xs) = pure ⟨xs, []⟩ := rfl
@[simp] theorem ev_itAnyT (xs : List AV) : itAny (.tup xs) S = some (.ok ⟨xs, []⟩, S) := rfl
@[simp] theorem ev_yes : mYes ρ S = some (.ok true, S) := rfl
@[simp] theorem ev_chk0 (xs : List AV) : AI.chk ⟨xs, []⟩ S = some (.ok (), S) := rfl
@[simp] theorem ev_gname (i : Nat) (x : AV) : mgName i x ρ S = some (.ok (ρ.set i (some x)), S) := rfl
@[simp] theorem ev_gtup (n : Nat) (h : List AV → CI.Env → M CI.Env) (xs : List AV) : mgTup n h (.tup xs) ρ S = (if xs.length = n then h xs ρ else M.no) S := rfl
@[simp] theorem ev_gcons (h : List AV → CI.Env → M CI.Env) (x : AV) (xs : List AV) : mgCons g h (x :: xs) ρ S = (g x ρ >>= h xs) S := rfl
@[simp] theorem ev_gnil : mgNil [] ρ S = some (.ok ρ, S) := rfl
@[simp] theorem ev_gsub (x : AV) : mgSub a b x ρ S = (a ρ >>= fun o => b ρ >>= fun i => putM o i x >>= fun _ => pure ρ) S := rfl
@[simp] theorem ev_snext : msNext ρ S = some (.ok (.nx ρ), S) := rfl
@[simp] theorem ev_sseq : msSeq s s2 ρ S = (s ρ >>= seqK s2) S := rfl
@[simp] theorem ev_seqN : seqK s (.nx ρ) = s ρ := rfl
@[simp] theorem ev_seqR (x : AV) : seqK s (.rt x) = pure (.rt x) := rfl
@[simp] theorem ev_sasg : msAsg a g ρ S = (a ρ >>= fun x => g x ρ >>= fun ρ' => pure (.nx ρ')) S := rfl
@[simp] theorem ev_sdrop : msDrop a ρ S = (a ρ >>= fun _ => pure (.nx ρ)) S := rfl
@[simp] theorem ev_sret : msRet a ρ S = (a ρ >>= fun x => pure (.rt x)) S := rfl
@[simp] theorem ev_sretN : msRetN ρ S = some (.ok (.rt .non), S) := rfl
@[simp] theorem ev_site : msIte t s s2 ρ S = (t ρ >>= fun b => if b = true then s ρ else s2 ρ) S := rfl
@[simp] theorem ev_spar (i j : Nat) : msPar i j r ρ S = (r ρ >>= fun xs => match xs with
    | [x, y] => pure (.nx ((ρ.set i (some x)).set j (some y)))
    | _ => M.no) S := rfl
@[simp] theorem ev_ssetf (C : Nat) (f : Str) : msSetf C f a b ρ S = (b ρ >>= fun x => a ρ >>= fun o => setF C f o x >>= fun _ => pure (.nx ρ)) S := rfl
@[simp] theorem ev_sloop : msLoop w g s ρ S = (w ρ >>= fun ai => forGo ai (forStep g s) ai.xs ρ) S := rfl
@[simp] theorem ev_fnK (x : AV) : fnK (.rt x) = pure x := rfl
@[simp] theorem ev_fnKn : fnK (.nx ρ) = pure .non := rfl
@[simp] theorem ev_fn (n k : Nat) (xs : List AV) : fnM n k s xs S = (if xs.length = k then s (startA n xs) >>= fnK else M.no) S := rfl
@[simp] theorem ev_ite {c : Prop} [Decidable c] (m n : M A) : (if c then m else n) S = if c then m S else n S := by split <;> rfl
end
/-- lists -/
@[simp] theorem ev_ixL {S : Store} {n : Nat} {xs : List AV} (h : S[n]? = some (.lst xs)) (i : Int) : ixM (.loc n) (.int i) S = (atI xs i).map fun r => (.ok r, S) := by
  unfold ixM; simp only [h]
@[simp] theorem ev_putL {S : Store} {n : Nat} {xs : List AV} (h : S[n]? = some (.lst xs)) (i : Int) (x : AV) : putM (.loc n) (.int i) x S = (ixN xs.length i).map fun j => (.ok (), S.set n (.lst (xs.set j x))) := by
  unfold putM; simp only [h]
end CI

set_option Elab.async false
set_option linter.all false
set_option maxRecDepth 100000
set_option maxHeartbeats 4000000
/-! the plain side: comprehensions without effects; dicts by names -/
namespace CI
open PySem PySem.Spec PyProof.Rows L2 Evl
theorem ev_chk {ai : AI} {S : Store} (h : ai.ok S = true) : ai.chk S = some (.ok (), S) := by unfold AI.chk; rw [if_pos h]
theorem ok_nil {xs : List AV} {S : Store} : AI.ok ⟨xs, []⟩ S = true := rfl
theorem ok_at {xs ys : List AV} {n : Nat} {S : Store} (h : S[n]? = some (.lst ys)) : AI.ok ⟨xs, [(n, ys)]⟩ S = true := by
  unfold AI.ok
  simp [h, sames_refl]
theorem lcGo_pure {ai : AI} {T : AV → M (Option AV)} {f : AV → AV} {S : Store} (hk : ai.ok S = true) : ∀ (xs acc : List AV), (∀ x ∈ xs, T x S = some (.ok (some (f x)), S)) → acc.length + xs.length ≤ 100000 → lcGo ai T xs acc S = some (.ok (acc ++ xs.map f), S)
  | [], acc, h, hl => by
    unfold lcGo
    simp [ev_chk hk]
  | x :: xs, acc, h, hl => by
    unfold lcGo
    have hl' : acc.length < 100000 := by simp at hl; omega
    simp only [ev_bind, ev_chk hk, h x (by simp), ev_ite, if_pos hl']
    rw [lcGo_pure hk xs (acc ++ [f x]) (fun y hy => h y (by simp [hy])) (by simp at hl ⊢; omega)]
    simp
/-- a comprehension over a tuple, target a name, no test, no effects -/
theorem lc_tup {a e : CI.Env → M AV} {i : Nat} {vs : List Nat} {ρ : CI.Env} {S : Store} {xs : List AV} {f : AV → AV} (ha : a ρ S = some (.ok (.tup xs), S)) (he : ∀ x ∈ xs, e ((wipeA ρ vs).set i (some x)) S = some (.ok (f x), S)) (hl : xs.length ≤ 100000) :
    mLc (mIt itAny a) (mgName i) mYes e vs ρ S = some (.ok (.loc S.length), S ++ [.lst (xs.map f)]) := by
  simp only [ev_lc, ev_bind, ev_it, ha, ev_itAnyT, ev_pure]
  rw [lcGo_pure (f := f) ok_nil xs [] (fun x hx => ?_) (by simp; exact hl)]
  · simp
  · simp [lcTurn, he x hx]
theorem all_at {S : Store} {n : Nat} {bs : List Bool} (h : S[n]? = some (.lst (bs.map .bl))) : allM [.loc n] S = some (.ok (.bl (bs.all id)), S) := by
  have e : blsOf (bs.map AV.bl) = some bs := by
    clear h
    induction bs with
    | nil => rfl
    | cons b bs ih => simp [blsOf, ih]
  simp [allM, foldM1, getL, h, e]
@[simp] theorem last_at (S : Store) (o : AO) : (S ++ [o])[S.length]? = some o := by simp
/-! steps, whatever the parts are -/
section
variable {A : Type} {S S1 S2 : Store} {ρ ρ' : CI.Env} {s s2 : CI.Env → M Fl} {w : CI.Env → M AI} {g : AV → CI.Env → M CI.Env} {r : CI.Env → M (List AV)} {x : AV}
theorem mItA_ok {f : List AV → M AI} {xs : List AV} {ai : AI} (ha : r ρ S = some (.ok xs, S1)) (hg : f xs S1 = some (.ok ai, S2)) : mItA f r ρ S = some (.ok ai, S2) := by
  show M.bind _ _ _ = _
  unfold M.bind
  rw [ha]
  exact hg
theorem loop_ok {ai : AI} (hw : w ρ S = some (.ok ai, S1)) : msLoop w g s ρ S = forGo ai (forStep g s) ai.xs ρ S1 := by
  show M.bind _ _ _ = _
  unfold M.bind
  rw [hw]
theorem seq_nx (h1 : s ρ S = some (.ok (.nx ρ'), S1)) : msSeq s s2 ρ S = s2 ρ' S1 := by
  show M.bind _ _ _ = _
  unfold M.bind
  rw [h1]
  rfl
theorem seq_rt (h1 : s ρ S = some (.ok (.rt x), S1)) : msSeq s s2 ρ S = some (.ok (.rt x), S1) := by
  show M.bind _ _ _ = _
  unfold M.bind
  rw [h1]
  rfl
theorem fn_rt {n k : Nat} {xs : List AV} (hk : xs.length = k) (h : s (startA n xs) S = some (.ok (.rt x), S1)) : fnM n k s xs S = some (.ok x, S1) := by
  unfold fnM
  rw [if_pos hk]
  show M.bind _ _ _ = _
  unfold M.bind
  rw [h]
  rfl
theorem fn_nx {n k : Nat} {xs : List AV} (hk : xs.length = k) (h : s (startA n xs) S = some (.ok (.nx ρ'), S1)) : fnM n k s xs S = some (.ok .non, S1) := by
  unfold fnM
  rw [if_pos hk]
  show M.bind _ _ _ = _
  unfold M.bind
  rw [h]
  rfl
end
/-! dicts by names -/
def getP {α : Type} (W : List (Str × α)) (x : Str) : Option α := (W.find? fun p => decide (p.1 = x)).map (·.2)
def setP {α : Type} (W : List (Str × α)) (x : Str) (v : α) : List (Str × α) :=
  if (W.any fun p => decide (p.1 = x)) = true then W.map (fun p => if p.1 = x then (p.1, v) else p) else W ++ [(x, v)]
def kvE {α : Type} (f : α → AV) (W : List (Str × α)) : List (Key × AV) := W.map fun p => (.inr p.1, f p.2)
theorem getK_kvE {α : Type} (f : α → AV) (W : List (Str × α)) (x : Str) : getK (kvE f W) (.inr x) = (getP W x).map f := by
  unfold getK kvE getP
  rw [List.find?_map]
  have : ((fun kv : Key × AV => decide (kv.1 = Sum.inr x)) ∘ fun p : Str × α => ((Sum.inr p.1 : Key), f p.2)) = fun p => decide (p.1 = x) := by
    funext p; simp
  rw [this]
  cases W.find? fun p => decide (p.1 = x) <;> rfl
theorem setK_kvE {α : Type} (f : α → AV) (W : List (Str × α)) (x : Str) (v : α) : setK (kvE f W) (.inr x) (f v) = kvE f (setP W x v) := by
  unfold setK kvE setP
  have e : ((W.map fun p => ((Sum.inr p.1 : Key), f p.2)).any fun kv => decide (kv.1 = Sum.inr x)) = W.any fun p => decide (p.1 = x) := by
    rw [List.any_map]
    congr 1
    funext p; simp
  rw [e]
  split
  · rw [List.map_map, List.map_map]
    apply List.map_congr_left
    intro p _
    by_cases q : p.1 = x <;> simp [q]
  · rw [List.map_append]; rfl
theorem kvE_len {α : Type} (f : α → AV) (W : List (Str × α)) : (kvE f W).length = W.length := List.length_map ..
theorem setP_len {α : Type} (W : List (Str × α)) (x : Str) (v : α) : (setP W x v).length ≤ W.length + 1 := by
  unfold setP
  split <;> simp
theorem getP_set {α : Type} (W : List (Str × α)) (x y : Str) (v : α) : getP (setP W x v) y = if x = y then some v else getP W y := by
  unfold getP setP
  split
  · rename_i h
    induction W with
    | nil => simp at h
    | cons p W ih =>
      simp only [List.map_cons, List.find?_cons]
      by_cases q : p.1 = x
      · simp only [q, if_true]
        by_cases z : x = y
        · simp [z]
        · simp only [z, decide_false, if_false]
          by_cases g : (W.any fun p => decide (p.1 = x)) = true
          · have := ih g
            simp only [z, if_false] at this
            exact this
          · have : W.map (fun p => if p.1 = x then (p.1, v) else p) = W := by
              conv => rhs; rw [← List.map_id W]
              apply List.map_congr_left
              intro p hp
              have : ¬ p.1 = x := fun e => g (List.any_eq_true.mpr ⟨p, hp, by simp [e]⟩)
              simp [this]
            rw [this]
      · simp only [q, if_false]
        by_cases z : p.1 = y
        · have : ¬ x = y := fun e => q (z.trans e.symm)
          simp [z, this]
        · simp only [z, decide_false]
          exact ih (by simpa [q] using h)
  · rename_i h
    rw [List.find?_append]
    by_cases z : x = y
    · subst z
      have : W.find? (fun p => decide (p.1 = x)) = none := by
        rw [List.find?_eq_none]
        intro p hp e
        exact h (List.any_eq_true.mpr ⟨p, hp, e⟩)
      simp [this]
    · simp only [z, if_false, List.find?_cons, decide_false, List.find?_nil, Option.or_none]
/-- reads of a dict, a list, an object -/
theorem ix_dct {S : Store} {n : Nat} {kvs : List (Key × AV)} {fz : Bool} {x : Str} {v : AV} (h : S[n]? = some (.dct kvs fz)) (hv : getK kvs (.inr x) = some v) : ixM (.loc n) (.str x) S = some (.ok v, S) := by
  unfold ixM
  simp [h, toKey, hv]
theorem put_dct {S : Store} {n : Nat} {kvs : List (Key × AV)} {x : Str} {v : AV} (h : S[n]? = some (.dct kvs false)) (hl : kvs.length < 100000) : putM (.loc n) (.str x) v S = some (.ok (), S.set n (.dct (setK kvs (.inr x) v) false)) := by
  unfold putM
  simp [h, toKey, hl]
theorem fld_at {S : Store} {n C : Nat} {fs : List (Str × AV)} {f : Str} {v : AV} (h : S[n]? = some (.ins C fs)) (hv : fs.lookup f = some v) : fldM C f (.loc n) S = some (.ok v, S) := by
  unfold fldM
  simp [h, hv]
theorem len_at {S : Store} {n : Nat} {xs : List AV} (h : S[n]? = some (.lst xs)) : lenM [.loc n] S = some (.ok (.int xs.length), S) := by
  unfold lenM
  simp [h]
end CI

set_option Elab.async false
set_option linter.all false
set_option maxRecDepth 100000
set_option maxHeartbeats 4000000
namespace CI
open PySem PySem.Spec PyProof.Rows L2 Evl
@[simp] theorem ev_ixT {S : Store} (xs : List AV) (i : Int) : ixM (.tup xs) (.int i) S = (atI xs i).map fun r => (.ok r, S) := rfl
@[simp] theorem kw_set_move : (("set" : Str) = "move") = False := eq_false (by decide +kernel)
@[simp] theorem kw_set_sum : (("set" : Str) = "sum") = False := eq_false (by decide +kernel)
@[simp] theorem kw_set_length : (("set" : Str) = "length") = False := eq_false (by decide +kernel)
@[simp] theorem kw_set_get : (("set" : Str) = "get") = False := eq_false (by decide +kernel)
@[simp] theorem kw_set_put : (("set" : Str) = "put") = False := eq_false (by decide +kernel)
@[simp] theorem kw_set_low : (("set" : Str) = "low") = False := eq_false (by decide +kernel)
@[simp] theorem kw_set_high : (("set" : Str) = "high") = False := eq_false (by decide +kernel)
@[simp] theorem kw_set_go : (("set" : Str) = "go") = False := eq_false (by decide +kernel)
@[simp] theorem kw_set_less : (("set" : Str) = "less") = False := eq_false (by decide +kernel)
@[simp] theorem kw_set_return : (("set" : Str) = "return") = False := eq_false (by decide +kernel)
@[simp] theorem kw_set_fault : (("set" : Str) = "fault") = False := eq_false (by decide +kernel)
@[simp] theorem kw_set_value : (("set" : Str) = "value") = False := eq_false (by decide +kernel)
@[simp] theorem kw_set_first : (("set" : Str) = "first") = False := eq_false (by decide +kernel)
@[simp] theorem kw_set_second : (("set" : Str) = "second") = False := eq_false (by decide +kernel)
@[simp] theorem kw_set_both : (("set" : Str) = "both") = False := eq_false (by decide +kernel)
@[simp] theorem kw_move_set : (("move" : Str) = "set") = False := eq_false (by decide +kernel)
@[simp] theorem kw_move_sum : (("move" : Str) = "sum") = False := eq_false (by decide +kernel)
@[simp] theorem kw_move_length : (("move" : Str) = "length") = False := eq_false (by decide +kernel)
@[simp] theorem kw_move_get : (("move" : Str) = "get") = False := eq_false (by decide +kernel)
@[simp] theorem kw_move_put : (("move" : Str) = "put") = False := eq_false (by decide +kernel)
@[simp] theorem kw_move_low : (("move" : Str) = "low") = False := eq_false (by decide +kernel)
@[simp] theorem kw_move_high : (("move" : Str) = "high") = False := eq_false (by decide +kernel)
@[simp] theorem kw_move_go : (("move" : Str) = "go") = False := eq_false (by decide +kernel)
@[simp] theorem kw_move_less : (("move" : Str) = "less") = False := eq_false (by decide +kernel)
@[simp] theorem kw_move_return : (("move" : Str) = "return") = False := eq_false (by decide +kernel)
@[simp] theorem kw_move_fault : (("move" : Str) = "fault") = False := eq_false (by decide +kernel)
@[simp] theorem kw_move_value : (("move" : Str) = "value") = False := eq_false (by decide +kernel)
@[simp] theorem kw_move_first : (("move" : Str) = "first") = False := eq_false (by decide +kernel)
@[simp] theorem kw_move_second : (("move" : Str) = "second") = False := eq_false (by decide +kernel)
@[simp] theorem kw_move_both : (("move" : Str) = "both") = False := eq_false (by decide +kernel)
@[simp] theorem kw_sum_set : (("sum" : Str) = "set") = False := eq_false (by decide +kernel)
@[simp] theorem kw_sum_move : (("sum" : Str) = "move") = False := eq_false (by decide +kernel)
@[simp] theorem kw_sum_length : (("sum" : Str) = "length") = False := eq_false (by decide +kernel)
@[simp] theorem kw_sum_get : (("sum" : Str) = "get") = False := eq_false (by decide +kernel)
@[simp] theorem kw_sum_put : (("sum" : Str) = "put") = False := eq_false (by decide +kernel)
@[simp] theorem kw_sum_low : (("sum" : Str) = "low") = False := eq_false (by decide +kernel)
@[simp] theorem kw_sum_high : (("sum" : Str) = "high") = False := eq_false (by decide +kernel)
@[simp] theorem kw_sum_go : (("sum" : Str) = "go") = False := eq_false (by decide +kernel)
@[simp] theorem kw_sum_less : (("sum" : Str) = "less") = False := eq_false (by decide +kernel)
@[simp] theorem kw_sum_return : (("sum" : Str) = "return") = False := eq_false (by decide +kernel)
@[simp] theorem kw_sum_fault : (("sum" : Str) = "fault") = False := eq_false (by decide +kernel)
@[simp] theorem kw_sum_value : (("sum" : Str) = "value") = False := eq_false (by decide +kernel)
@[simp] theorem kw_sum_first : (("sum" : Str) = "first") = False := eq_false (by decide +kernel)
@[simp] theorem kw_sum_second : (("sum" : Str) = "second") = False := eq_false (by decide +kernel)
@[simp] theorem kw_sum_both : (("sum" : Str) = "both") = False := eq_false (by decide +kernel)
@[simp] theorem kw_length_set : (("length" : Str) = "set") = False := eq_false (by decide +kernel)
@[simp] theorem kw_length_move : (("length" : Str) = "move") = False := eq_false (by decide +kernel)
@[simp] theorem kw_length_sum : (("length" : Str) = "sum") = False := eq_false (by decide +kernel)
@[simp] theorem kw_length_get : (("length" : Str) = "get") = False := eq_false (by decide +kernel)
@[simp] theorem kw_length_put : (("length" : Str) = "put") = False := eq_false (by decide +kernel)
@[simp] theorem kw_length_low : (("length" : Str) = "low") = False := eq_false (by decide +kernel)
@[simp] theorem kw_length_high : (("length" : Str) = "high") = False := eq_false (by decide +kernel)
@[simp] theorem kw_length_go : (("length" : Str) = "go") = False := eq_false (by decide +kernel)
@[simp] theorem kw_length_less : (("length" : Str) = "less") = False := eq_false (by decide +kernel)
@[simp] theorem kw_length_return : (("length" : Str) = "return") = False := eq_false (by decide +kernel)
@[simp] theorem kw_length_fault : (("length" : Str) = "fault") = False := eq_false (by decide +kernel)
@[simp] theorem kw_length_value : (("length" : Str) = "value") = False := eq_false (by decide +kernel)
@[simp] theorem kw_length_first : (("length" : Str) = "first") = False := eq_false (by decide +kernel)
@[simp] theorem kw_length_second : (("length" : Str) = "second") = False := eq_false (by decide +kernel)
@[simp] theorem kw_length_both : (("length" : Str) = "both") = False := eq_false (by decide +kernel)
@[simp] theorem kw_get_set : (("get" : Str) = "set") = False := eq_false (by decide +kernel)
@[simp] theorem kw_get_move : (("get" : Str) = "move") = False := eq_false (by decide +kernel)
@[simp] theorem kw_get_sum : (("get" : Str) = "sum") = False := eq_false (by decide +kernel)
@[simp] theorem kw_get_length : (("get" : Str) = "length") = False := eq_false (by decide +kernel)
@[simp] theorem kw_get_put : (("get" : Str) = "put") = False := eq_false (by decide +kernel)
@[simp] theorem kw_get_low : (("get" : Str) = "low") = False := eq_false (by decide +kernel)
@[simp] theorem kw_get_high : (("get" : Str) = "high") = False := eq_false (by decide +kernel)
@[simp] theorem kw_get_go : (("get" : Str) = "go") = False := eq_false (by decide +kernel)
@[simp] theorem kw_get_less : (("get" : Str) = "less") = False := eq_false (by decide +kernel)
@[simp] theorem kw_get_return : (("get" : Str) = "return") = False := eq_false (by decide +kernel)
@[simp] theorem kw_get_fault : (("get" : Str) = "fault") = False := eq_false (by decide +kernel)
@[simp] theorem kw_get_value : (("get" : Str) = "value") = False := eq_false (by decide +kernel)
@[simp] theorem kw_get_first : (("get" : Str) = "first") = False := eq_false (by decide +kernel)
@[simp] theorem kw_get_second : (("get" : Str) = "second") = False := eq_false (by decide +kernel)
@[simp] theorem kw_get_both : (("get" : Str) = "both") = False := eq_false (by decide +kernel)
@[simp] theorem kw_put_set : (("put" : Str) = "set") = False := eq_false (by decide +kernel)
@[simp] theorem kw_put_move : (("put" : Str) = "move") = False := eq_false (by decide +kernel)
@[simp] theorem kw_put_sum : (("put" : Str) = "sum") = False := eq_false (by decide +kernel)
@[simp] theorem kw_put_length : (("put" : Str) = "length") = False := eq_false (by decide +kernel)
@[simp] theorem kw_put_get : (("put" : Str) = "get") = False := eq_false (by decide +kernel)
@[simp] theorem kw_put_low : (("put" : Str) = "low") = False := eq_false (by decide +kernel)
@[simp] theorem kw_put_high : (("put" : Str) = "high") = False := eq_false (by decide +kernel)
@[simp] theorem kw_put_go : (("put" : Str) = "go") = False := eq_false (by decide +kernel)
@[simp] theorem kw_put_less : (("put" : Str) = "less") = False := eq_false (by decide +kernel)
@[simp] theorem kw_put_return : (("put" : Str) = "return") = False := eq_false (by decide +kernel)
@[simp] theorem kw_put_fault : (("put" : Str) = "fault") = False := eq_false (by decide +kernel)
@[simp] theorem kw_put_value : (("put" : Str) = "value") = False := eq_false (by decide +kernel)
@[simp] theorem kw_put_first : (("put" : Str) = "first") = False := eq_false (by decide +kernel)
@[simp] theorem kw_put_second : (("put" : Str) = "second") = False := eq_false (by decide +kernel)
@[simp] theorem kw_put_both : (("put" : Str) = "both") = False := eq_false (by decide +kernel)
@[simp] theorem kw_low_set : (("low" : Str) = "set") = False := eq_false (by decide +kernel)
@[simp] theorem kw_low_move : (("low" : Str) = "move") = False := eq_false (by decide +kernel)
@[simp] theorem kw_low_sum : (("low" : Str) = "sum") = False := eq_false (by decide +kernel)
@[simp] theorem kw_low_length : (("low" : Str) = "length") = False := eq_false (by decide +kernel)
@[simp] theorem kw_low_get : (("low" : Str) = "get") = False := eq_false (by decide +kernel)
@[simp] theorem kw_low_put : (("low" : Str) = "put") = False := eq_false (by decide +kernel)
@[simp] theorem kw_low_high : (("low" : Str) = "high") = False := eq_false (by decide +kernel)
@[simp] theorem kw_low_go : (("low" : Str) = "go") = False := eq_false (by decide +kernel)
@[simp] theorem kw_low_less : (("low" : Str) = "less") = False := eq_false (by decide +kernel)
@[simp] theorem kw_low_return : (("low" : Str) = "return") = False := eq_false (by decide +kernel)
@[simp] theorem kw_low_fault : (("low" : Str) = "fault") = False := eq_false (by decide +kernel)
@[simp] theorem kw_low_value : (("low" : Str) = "value") = False := eq_false (by decide +kernel)
@[simp] theorem kw_low_first : (("low" : Str) = "first") = False := eq_false (by decide +kernel)
@[simp] theorem kw_low_second : (("low" : Str) = "second") = False := eq_false (by decide +kernel)
@[simp] theorem kw_low_both : (("low" : Str) = "both") = False := eq_false (by decide +kernel)
@[simp] theorem kw_high_set : (("high" : Str) = "set") = False := eq_false (by decide +kernel)
@[simp] theorem kw_high_move : (("high" : Str) = "move") = False := eq_false (by decide +kernel)
@[simp] theorem kw_high_sum : (("high" : Str) = "sum") = False := eq_false (by decide +kernel)
@[simp] theorem kw_high_length : (("high" : Str) = "length") = False := eq_false (by decide +kernel)
@[simp] theorem kw_high_get : (("high" : Str) = "get") = False := eq_false (by decide +kernel)
@[simp] theorem kw_high_put : (("high" : Str) = "put") = False := eq_false (by decide +kernel)
@[simp] theorem kw_high_low : (("high" : Str) = "low") = False := eq_false (by decide +kernel)
@[simp] theorem kw_high_go : (("high" : Str) = "go") = False := eq_false (by decide +kernel)
@[simp] theorem kw_high_less : (("high" : Str) = "less") = False := eq_false (by decide +kernel)
@[simp] theorem kw_high_return : (("high" : Str) = "return") = False := eq_false (by decide +kernel)
@[simp] theorem kw_high_fault : (("high" : Str) = "fault") = False := eq_false (by decide +kernel)
@[simp] theorem kw_high_value : (("high" : Str) = "value") = False := eq_false (by decide +kernel)
@[simp] theorem kw_high_first : (("high" : Str) = "first") = False := eq_false (by decide +kernel)
@[simp] theorem kw_high_second : (("high" : Str) = "second") = False := eq_false (by decide +kernel)
@[simp] theorem kw_high_both : (("high" : Str) = "both") = False := eq_false (by decide +kernel)
@[simp] theorem kw_go_set : (("go" : Str) = "set") = False := eq_false (by decide +kernel)
@[simp] theorem kw_go_move : (("go" : Str) = "move") = False := eq_false (by decide +kernel)
@[simp] theorem kw_go_sum : (("go" : Str) = "sum") = False := eq_false (by decide +kernel)
@[simp] theorem kw_go_length : (("go" : Str) = "length") = False := eq_false (by decide +kernel)
@[simp] theorem kw_go_get : (("go" : Str) = "get") = False := eq_false (by decide +kernel)
@[simp] theorem kw_go_put : (("go" : Str) = "put") = False := eq_false (by decide +kernel)
@[simp] theorem kw_go_low : (("go" : Str) = "low") = False := eq_false (by decide +kernel)
@[simp] theorem kw_go_high : (("go" : Str) = "high") = False := eq_false (by decide +kernel)
@[simp] theorem kw_go_less : (("go" : Str) = "less") = False := eq_false (by decide +kernel)
@[simp] theorem kw_go_return : (("go" : Str) = "return") = False := eq_false (by decide +kernel)
@[simp] theorem kw_go_fault : (("go" : Str) = "fault") = False := eq_false (by decide +kernel)
@[simp] theorem kw_go_value : (("go" : Str) = "value") = False := eq_false (by decide +kernel)
@[simp] theorem kw_go_first : (("go" : Str) = "first") = False := eq_false (by decide +kernel)
@[simp] theorem kw_go_second : (("go" : Str) = "second") = False := eq_false (by decide +kernel)
@[simp] theorem kw_go_both : (("go" : Str) = "both") = False := eq_false (by decide +kernel)
@[simp] theorem kw_less_set : (("less" : Str) = "set") = False := eq_false (by decide +kernel)
@[simp] theorem kw_less_move : (("less" : Str) = "move") = False := eq_false (by decide +kernel)
@[simp] theorem kw_less_sum : (("less" : Str) = "sum") = False := eq_false (by decide +kernel)
@[simp] theorem kw_less_length : (("less" : Str) = "length") = False := eq_false (by decide +kernel)
@[simp] theorem kw_less_get : (("less" : Str) = "get") = False := eq_false (by decide +kernel)
@[simp] theorem kw_less_put : (("less" : Str) = "put") = False := eq_false (by decide +kernel)
@[simp] theorem kw_less_low : (("less" : Str) = "low") = False := eq_false (by decide +kernel)
@[simp] theorem kw_less_high : (("less" : Str) = "high") = False := eq_false (by decide +kernel)
@[simp] theorem kw_less_go : (("less" : Str) = "go") = False := eq_false (by decide +kernel)
@[simp] theorem kw_less_return : (("less" : Str) = "return") = False := eq_false (by decide +kernel)
@[simp] theorem kw_less_fault : (("less" : Str) = "fault") = False := eq_false (by decide +kernel)
@[simp] theorem kw_less_value : (("less" : Str) = "value") = False := eq_false (by decide +kernel)
@[simp] theorem kw_less_first : (("less" : Str) = "first") = False := eq_false (by decide +kernel)
@[simp] theorem kw_less_second : (("less" : Str) = "second") = False := eq_false (by decide +kernel)
@[simp] theorem kw_less_both : (("less" : Str) = "both") = False := eq_false (by decide +kernel)
@[simp] theorem kw_return_set : (("return" : Str) = "set") = False := eq_false (by decide +kernel)
@[simp] theorem kw_return_move : (("return" : Str) = "move") = False := eq_false (by decide +kernel)
@[simp] theorem kw_return_sum : (("return" : Str) = "sum") = False := eq_false (by decide +kernel)
@[simp] theorem kw_return_length : (("return" : Str) = "length") = False := eq_false (by decide +kernel)
@[simp] theorem kw_return_get : (("return" : Str) = "get") = False := eq_false (by decide +kernel)
@[simp] theorem kw_return_put : (("return" : Str) = "put") = False := eq_false (by decide +kernel)
@[simp] theorem kw_return_low : (("return" : Str) = "low") = False := eq_false (by decide +kernel)
@[simp] theorem kw_return_high : (("return" : Str) = "high") = False := eq_false (by decide +kernel)
@[simp] theorem kw_return_go : (("return" : Str) = "go") = False := eq_false (by decide +kernel)
@[simp] theorem kw_return_less : (("return" : Str) = "less") = False := eq_false (by decide +kernel)
@[simp] theorem kw_return_fault : (("return" : Str) = "fault") = False := eq_false (by decide +kernel)
@[simp] theorem kw_return_value : (("return" : Str) = "value") = False := eq_false (by decide +kernel)
@[simp] theorem kw_return_first : (("return" : Str) = "first") = False := eq_false (by decide +kernel)
@[simp] theorem kw_return_second : (("return" : Str) = "second") = False := eq_false (by decide +kernel)
@[simp] theorem kw_return_both : (("return" : Str) = "both") = False := eq_false (by decide +kernel)
@[simp] theorem kw_fault_set : (("fault" : Str) = "set") = False := eq_false (by decide +kernel)
@[simp] theorem kw_fault_move : (("fault" : Str) = "move") = False := eq_false (by decide +kernel)
@[simp] theorem kw_fault_sum : (("fault" : Str) = "sum") = False := eq_false (by decide +kernel)
@[simp] theorem kw_fault_length : (("fault" : Str) = "length") = False := eq_false (by decide +kernel)
@[simp] theorem kw_fault_get : (("fault" : Str) = "get") = False := eq_false (by decide +kernel)
@[simp] theorem kw_fault_put : (("fault" : Str) = "put") = False := eq_false (by decide +kernel)
@[simp] theorem kw_fault_low : (("fault" : Str) = "low") = False := eq_false (by decide +kernel)
@[simp] theorem kw_fault_high : (("fault" : Str) = "high") = False := eq_false (by decide +kernel)
@[simp] theorem kw_fault_go : (("fault" : Str) = "go") = False := eq_false (by decide +kernel)
@[simp] theorem kw_fault_less : (("fault" : Str) = "less") = False := eq_false (by decide +kernel)
@[simp] theorem kw_fault_return : (("fault" : Str) = "return") = False := eq_false (by decide +kernel)
@[simp] theorem kw_fault_value : (("fault" : Str) = "value") = False := eq_false (by decide +kernel)
@[simp] theorem kw_fault_first : (("fault" : Str) = "first") = False := eq_false (by decide +kernel)
@[simp] theorem kw_fault_second : (("fault" : Str) = "second") = False := eq_false (by decide +kernel)
@[simp] theorem kw_fault_both : (("fault" : Str) = "both") = False := eq_false (by decide +kernel)
@[simp] theorem kw_value_set : (("value" : Str) = "set") = False := eq_false (by decide +kernel)
@[simp] theorem kw_value_move : (("value" : Str) = "move") = False := eq_false (by decide +kernel)
@[simp] theorem kw_value_sum : (("value" : Str) = "sum") = False := eq_false (by decide +kernel)
@[simp] theorem kw_value_length : (("value" : Str) = "length") = False := eq_false (by decide +kernel)
@[simp] theorem kw_value_get : (("value" : Str) = "get") = False := eq_false (by decide +kernel)
@[simp] theorem kw_value_put : (("value" : Str) = "put") = False := eq_false (by decide +kernel)
@[simp] theorem kw_value_low : (("value" : Str) = "low") = False := eq_false (by decide +kernel)
@[simp] theorem kw_value_high : (("value" : Str) = "high") = False := eq_false (by decide +kernel)
@[simp] theorem kw_value_go : (("value" : Str) = "go") = False := eq_false (by decide +kernel)
@[simp] theorem kw_value_less : (("value" : Str) = "less") = False := eq_false (by decide +kernel)
@[simp] theorem kw_value_return : (("value" : Str) = "return") = False := eq_false (by decide +kernel)
@[simp] theorem kw_value_fault : (("value" : Str) = "fault") = False := eq_false (by decide +kernel)
@[simp] theorem kw_value_first : (("value" : Str) = "first") = False := eq_false (by decide +kernel)
@[simp] theorem kw_value_second : (("value" : Str) = "second") = False := eq_false (by decide +kernel)
@[simp] theorem kw_value_both : (("value" : Str) = "both") = False := eq_false (by decide +kernel)
@[simp] theorem kw_first_set : (("first" : Str) = "set") = False := eq_false (by decide +kernel)
@[simp] theorem kw_first_move : (("first" : Str) = "move") = False := eq_false (by decide +kernel)
@[simp] theorem kw_first_sum : (("first" : Str) = "sum") = False := eq_false (by decide +kernel)
@[simp] theorem kw_first_length : (("first" : Str) = "length") = False := eq_false (by decide +kernel)
@[simp] theorem kw_first_get : (("first" : Str) = "get") = False := eq_false (by decide +kernel)
@[simp] theorem kw_first_put : (("first" : Str) = "put") = False := eq_false (by decide +kernel)
@[simp] theorem kw_first_low : (("first" : Str) = "low") = False := eq_false (by decide +kernel)
@[simp] theorem kw_first_high : (("first" : Str) = "high") = False := eq_false (by decide +kernel)
@[simp] theorem kw_first_go : (("first" : Str) = "go") = False := eq_false (by decide +kernel)
@[simp] theorem kw_first_less : (("first" : Str) = "less") = False := eq_false (by decide +kernel)
@[simp] theorem kw_first_return : (("first" : Str) = "return") = False := eq_false (by decide +kernel)
@[simp] theorem kw_first_fault : (("first" : Str) = "fault") = False := eq_false (by decide +kernel)
@[simp] theorem kw_first_value : (("first" : Str) = "value") = False := eq_false (by decide +kernel)
@[simp] theorem kw_first_second : (("first" : Str) = "second") = False := eq_false (by decide +kernel)
@[simp] theorem kw_first_both : (("first" : Str) = "both") = False := eq_false (by decide +kernel)
@[simp] theorem kw_second_set : (("second" : Str) = "set") = False := eq_false (by decide +kernel)
@[simp] theorem kw_second_move : (("second" : Str) = "move") = False := eq_false (by decide +kernel)
@[simp] theorem kw_second_sum : (("second" : Str) = "sum") = False := eq_false (by decide +kernel)
@[simp] theorem kw_second_length : (("second" : Str) = "length") = False := eq_false (by decide +kernel)
@[simp] theorem kw_second_get : (("second" : Str) = "get") = False := eq_false (by decide +kernel)
@[simp] theorem kw_second_put : (("second" : Str) = "put") = False := eq_false (by decide +kernel)
@[simp] theorem kw_second_low : (("second" : Str) = "low") = False := eq_false (by decide +kernel)
@[simp] theorem kw_second_high : (("second" : Str) = "high") = False := eq_false (by decide +kernel)
@[simp] theorem kw_second_go : (("second" : Str) = "go") = False := eq_false (by decide +kernel)
@[simp] theorem kw_second_less : (("second" : Str) = "less") = False := eq_false (by decide +kernel)
@[simp] theorem kw_second_return : (("second" : Str) = "return") = False := eq_false (by decide +kernel)
@[simp] theorem kw_second_fault : (("second" : Str) = "fault") = False := eq_false (by decide +kernel)
@[simp] theorem kw_second_value : (("second" : Str) = "value") = False := eq_false (by decide +kernel)
@[simp] theorem kw_second_first : (("second" : Str) = "first") = False := eq_false (by decide +kernel)
@[simp] theorem kw_second_both : (("second" : Str) = "both") = False := eq_false (by decide +kernel)
@[simp] theorem kw_both_set : (("both" : Str) = "set") = False := eq_false (by decide +kernel)
@[simp] theorem kw_both_move : (("both" : Str) = "move") = False := eq_false (by decide +kernel)
@[simp] theorem kw_both_sum : (("both" : Str) = "sum") = False := eq_false (by decide +kernel)
@[simp] theorem kw_both_length : (("both" : Str) = "length") = False := eq_false (by decide +kernel)
@[simp] theorem kw_both_get : (("both" : Str) = "get") = False := eq_false (by decide +kernel)
@[simp] theorem kw_both_put : (("both" : Str) = "put") = False := eq_false (by decide +kernel)
@[simp] theorem kw_both_low : (("both" : Str) = "low") = False := eq_false (by decide +kernel)
@[simp] theorem kw_both_high : (("both" : Str) = "high") = False := eq_false (by decide +kernel)
@[simp] theorem kw_both_go : (("both" : Str) = "go") = False := eq_false (by decide +kernel)
@[simp] theorem kw_both_less : (("both" : Str) = "less") = False := eq_false (by decide +kernel)
@[simp] theorem kw_both_return : (("both" : Str) = "return") = False := eq_false (by decide +kernel)
@[simp] theorem kw_both_fault : (("both" : Str) = "fault") = False := eq_false (by decide +kernel)
@[simp] theorem kw_both_value : (("both" : Str) = "value") = False := eq_false (by decide +kernel)
@[simp] theorem kw_both_first : (("both" : Str) = "first") = False := eq_false (by decide +kernel)
@[simp] theorem kw_both_second : (("both" : Str) = "second") = False := eq_false (by decide +kernel)
end CI

set_option Elab.async false
set_option linter.all false
set_option maxRecDepth 100000
set_option maxHeartbeats 4000000
/-! min, max, t[::-1] -/
namespace CI
open PySem PySem.Spec PyProof.Rows L2 Evl
section
variable {c : Ct} {μ μ' : List Addr} {H H' : Hp} {S S' : Store}
theorem VaAll.reverse {vs : List V} {xs : List AV} (h : VaAll c μ H vs xs) : VaAll c μ H vs.reverse xs.reverse := by
  induction vs generalizing xs with
  | nil => cases h; exact .nil
  | cons v vs ih =>
    cases h with
    | cons h1 h2 =>
      rw [List.reverse_cons, List.reverse_cons]
      exact (ih h2).append (.one h1)
/-- the reversed -/
def revM (x : AV) : M AV := match x with
  | .tup xs => pure (.tup xs.reverse)
  | x => getL x >>= fun ys => M.new (.lst ys.reverse)
def mRev (a : Env → M AV) : Env → M AV := fun ρ => a ρ >>= revM
def XE.rev (a : XE c) : XE c where
  t := fun E => tRev c.K (a.t E)
  f := mRev a.f
  sim := fun E μ H σ ρ S rs re => (a.sim E μ H σ ρ S rs re).bind fun μ1 H1 S1 v x f1 rs1 rv o ho Q hQ => by
    have go : ∀ x : AV, Va c μ1 H1 v x → (getL x >>= fun ys => M.new (.lst ys.reverse)) S1 = some o → ∃ a xs, v = .ref a ∧ ((SqL c.K H1 a xs ∧ ∀ p, H1 p = none → Q (.ref p) (upd H1 p (.lst xs.reverse))) ∨ (SqT c.K H1 a xs ∧ ∀ p, H1 p = none → Q (.ref p) (upd H1 p (.tup xs.reverse)))) := by
      intro x rv ho
      rcases bind_some ho with ⟨ys, S2, h1, h2⟩ | ⟨x, S2, h1, h2⟩
      · obtain ⟨a, ws, zs, rfl, hs, hv, e⟩ := getL_ok rs1 rv h1
        cases e
        exact ⟨a, ws, rfl, .inl ⟨hs, Runs.newLst rs1 hv.reverse _ h2 Q hQ⟩⟩
      · obtain ⟨a, ws, zs, _, _, _, e⟩ := getL_ok rs1 rv h1
        cases e
    cases rv with
    | tup h1 h2 => exact ⟨_, _, rfl, .inr ⟨h1, Runs.newTup rs1 h2.reverse _ ho Q hQ⟩⟩
    | loc e => exact go _ (.loc e) ho
    | fl h1 h2 => exact go _ (.fl h1 h2) ho
    | _ => cases ho
/-- the greatest, the least -/
def mxI (f : Int → Int → Bool) : Int → List Int → Int
  | a, [] => a
  | a, b :: bs => mxI f (if f b a then b else a) bs
theorem mxI_max : ∀ (bs : List Int) (a : Int), mxI (fun b a => decide (b > a)) a bs ∈ a :: bs ∧ ∀ y ∈ a :: bs, y ≤ mxI (fun b a => decide (b > a)) a bs
  | [], a => ⟨by simp [mxI], by simp [mxI]⟩
  | b :: bs, a => by
    unfold mxI
    by_cases h : b > a
    · simp only [h, decide_true, if_true]
      obtain ⟨h1, h2⟩ := mxI_max bs b
      refine ⟨List.mem_cons_of_mem _ h1, fun y hy => ?_⟩
      rcases List.mem_cons.mp hy with rfl | hy
      · exact Int.le_trans (by omega) (h2 b (by simp))
      · exact h2 y hy
    · simp only [h, decide_false, Bool.false_eq_true, if_false]
      obtain ⟨h1, h2⟩ := mxI_max bs a
      refine ⟨?_, fun y hy => ?_⟩
      · rcases List.mem_cons.mp h1 with e | h1
        · rw [e]; simp
        · exact List.mem_cons_of_mem _ (List.mem_cons_of_mem _ h1)
      · rcases List.mem_cons.mp hy with rfl | hy
        · exact h2 _ (by simp)
        · rcases List.mem_cons.mp hy with rfl | hy
          · exact Int.le_trans (by omega) (h2 a (by simp))
          · exact h2 y (by simp [hy])
theorem mxI_min : ∀ (bs : List Int) (a : Int), mxI (fun b a => decide (b < a)) a bs ∈ a :: bs ∧ ∀ y ∈ a :: bs, mxI (fun b a => decide (b < a)) a bs ≤ y
  | [], a => ⟨by simp [mxI], by simp [mxI]⟩
  | b :: bs, a => by
    unfold mxI
    by_cases h : b < a
    · simp only [h, decide_true, if_true]
      obtain ⟨h1, h2⟩ := mxI_min bs b
      refine ⟨List.mem_cons_of_mem _ h1, fun y hy => ?_⟩
      rcases List.mem_cons.mp hy with rfl | hy
      · exact Int.le_trans (h2 b (by simp)) (by omega)
      · exact h2 y hy
    · simp only [h, decide_false, Bool.false_eq_true, if_false]
      obtain ⟨h1, h2⟩ := mxI_min bs a
      refine ⟨?_, fun y hy => ?_⟩
      · rcases List.mem_cons.mp h1 with e | h1
        · rw [e]; simp
        · exact List.mem_cons_of_mem _ (List.mem_cons_of_mem _ h1)
      · rcases List.mem_cons.mp hy with rfl | hy
        · exact h2 _ (by simp)
        · rcases List.mem_cons.mp hy with rfl | hy
          · exact Int.le_trans (h2 a (by simp)) (by omega)
          · exact h2 y (by simp [hy])
def mxM (f : Int → Int → Bool) (xs : List AV) : M AV := match xs with
  | [.int i, .int j] => pure (.int (if f j i then j else i))
  | [x] => getL x >>= fun ys => match intsOf ys with
    | some (a :: bs) => pure (.int (mxI f a bs))
    | _ => M.no
  | _ => M.no
abbrev maxM : List AV → M AV := mxM fun b a => decide (b > a)
abbrev minM : List AV → M AV := mxM fun b a => decide (b < a)
def rMaxC (K : PySem.W.Frag) : List V → Hp → VK → Prop := fun xs H Q => (∃ i j, xs = [.int i, .int j] ∧ Q (.int (if j > i then j else i)) H) ∨ rMax K xs H Q
def rMinC (K : PySem.W.Frag) : List V → Hp → VK → Prop := fun xs H Q => (∃ i j, xs = [.int i, .int j] ∧ Q (.int (if j < i then j else i)) H) ∨ rMin K xs H Q
theorem sim_max : SimC c (rMaxC c.K) maxM := fun E μ H S vs xs rs rv o ho Q hQ => by
  have go : ∀ (x : AV) (v : V), Va c μ H v x → (getL x >>= fun ys => match intsOf ys with
    | some (a :: bs) => pure (.int (mxI (fun b a => decide (b > a)) a bs))
    | _ => M.no) S = some o → rMaxC c.K [v] H Q := by
    intro x v r1 ho
    rcases bind_some ho with ⟨ys, S1, h1, h2⟩ | ⟨x, S1, h1, h2⟩
    · obtain ⟨a, ws, zs, rfl, hs, hv, e⟩ := getL_ok rs r1 h1
      cases e
      cases e2 : intsOf ys with
      | none => rw [e2] at h2; cases h2
      | some zs =>
        rw [e2] at h2
        cases zs with
        | nil => cases h2
        | cons b bs =>
          obtain rfl := pure_some h2
          have e3 := intsOf_eq hv e2
          subst e3
          refine .inr ⟨a, b :: bs, rfl, hs, by simp, fun m hm hb => ?_⟩
          obtain ⟨g1, g2⟩ := mxI_max bs b
          have : m = mxI (fun b a => decide (b > a)) b bs := Int.le_antisymm (g2 m hm) (hb _ g1)
          rw [this]
          exact hQ _ μ H (.refl _ _) rs (.int _)
    · obtain ⟨a, ws, zs, _, _, _, e⟩ := getL_ok rs r1 h1
      cases e
  cases rv with
  | nil => cases ho
  | cons r1 r2 =>
    rename_i v vs x xs
    cases r2 with
    | nil => cases r1 <;> exact go _ _ (by constructor <;> assumption) ho
    | cons r2 r3 =>
      cases r3 with
      | cons _ _ => unfold maxM mxM at ho; cases r1 <;> cases r2 <;> cases ho
      | nil =>
        unfold maxM mxM at ho
        cases r1 <;> cases r2 <;> first
          | (cases ho; done)
          | (rename_i i j
             obtain rfl := pure_some ho
             refine .inl ⟨i, j, rfl, ?_⟩
             have e : (if decide (j > i) = true then j else i) = if j > i then j else i := by simp
             rw [← e]
             exact hQ _ μ H (.refl _ _) rs (.int _))
theorem sim_min : SimC c (rMinC c.K) minM := fun E μ H S vs xs rs rv o ho Q hQ => by
  have go : ∀ (x : AV) (v : V), Va c μ H v x → (getL x >>= fun ys => match intsOf ys with
    | some (a :: bs) => pure (.int (mxI (fun b a => decide (b < a)) a bs))
    | _ => M.no) S = some o → rMinC c.K [v] H Q := by
    intro x v r1 ho
    rcases bind_some ho with ⟨ys, S1, h1, h2⟩ | ⟨x, S1, h1, h2⟩
    · obtain ⟨a, ws, zs, rfl, hs, hv, e⟩ := getL_ok rs r1 h1
      cases e
      cases e2 : intsOf ys with
      | none => rw [e2] at h2; cases h2
      | some zs =>
        rw [e2] at h2
        cases zs with
        | nil => cases h2
        | cons b bs =>
          obtain rfl := pure_some h2
          have e3 := intsOf_eq hv e2
          subst e3
          refine .inr ⟨a, b :: bs, rfl, hs, by simp, fun m hm hb => ?_⟩
          obtain ⟨g1, g2⟩ := mxI_min bs b
          have : m = mxI (fun b a => decide (b < a)) b bs := Int.le_antisymm (hb _ g1) (g2 m hm)
          rw [this]
          exact hQ _ μ H (.refl _ _) rs (.int _)
    · obtain ⟨a, ws, zs, _, _, _, e⟩ := getL_ok rs r1 h1
      cases e
  cases rv with
  | nil => cases ho
  | cons r1 r2 =>
    rename_i v vs x xs
    cases r2 with
    | nil => cases r1 <;> exact go _ _ (by constructor <;> assumption) ho
    | cons r2 r3 =>
      cases r3 with
      | cons _ _ => unfold minM mxM at ho; cases r1 <;> cases r2 <;> cases ho
      | nil =>
        unfold minM mxM at ho
        cases r1 <;> cases r2 <;> first
          | (cases ho; done)
          | (rename_i i j
             obtain rfl := pure_some ho
             refine .inl ⟨i, j, rfl, ?_⟩
             have e : (if decide (j < i) = true then j else i) = if j < i then j else i := by simp
             rw [← e]
             exact hQ _ μ H (.refl _ _) rs (.int _))
def XE.max : XA c → XE c := .cb (rMaxC c.K) maxM sim_max
def XE.min : XA c → XE c := .cb (rMinC c.K) minM sim_min
end
section
variable {X : Cx} {E : XK} {cl : Nat → Addr} {e : Expr} {es : List Expr} {pos p : Pos}
theorem cr_maxC (hc : X.calm = true) : CallR X (.builtin "max") (rMaxC X.K) := by
  intro pins s σ H xs us Q I r h
  rcases h with h | h
  · exact call_max2 hc pins s σ H xs us Q I r h
  · exact cr_max hc pins s σ H xs us Q I r h
theorem cr_minC (hc : X.calm = true) : CallR X (.builtin "min") (rMinC X.K) := by
  intro pins s σ H xs us Q I r h
  rcases h with h | h
  · exact call_min2 hc pins s σ H xs us Q I r h
  · exact cr_min hc pins s σ H xs us Q I r h
theorem b_max {x : Str} {r : XA (cX X cl)} (hc : X.calm = true) (hg : Gl X x) (hm : X.mg x = none) (hv : bootBuiltins x = some (.builtin "max")) (ha : PA X (e :: es) (r.t E)) (hn : x ≠ "__name__" := by decide) (hdb : (x == ("__debug__" : Str)) = false := by decide)
    (he : starEach (e :: es) X.env = (false, eval e X.env) :: starEach es X.env := by rfl) (hpl : (backTo pos (starEach es X.env)).any (·.1) = false := by rfl) : PE X (.Call (.Name x p) (e :: es) [] pos) ((XE.max r).t E) := pe_callB (cr_maxC hc) hg hm hv ha hn hdb he hpl
theorem b_min {x : Str} {r : XA (cX X cl)} (hc : X.calm = true) (hg : Gl X x) (hm : X.mg x = none) (hv : bootBuiltins x = some (.builtin "min")) (ha : PA X (e :: es) (r.t E)) (hn : x ≠ "__name__" := by decide) (hdb : (x == ("__debug__" : Str)) = false := by decide)
    (he : starEach (e :: es) X.env = (false, eval e X.env) :: starEach es X.env := by rfl) (hpl : (backTo pos (starEach es X.env)).any (·.1) = false := by rfl) : PE X (.Call (.Name x p) (e :: es) [] pos) ((XE.min r).t E) := pe_callB (cr_minC hc) hg hm hv ha hn hdb he hpl
theorem b_rev {a : XE (cX X cl)} {k : Nat} {p1 p2 p3 : Pos} (he : PE X e (a.t E)) : PE X (.Subscript e (.Slice none none (some (.UnaryOp .USub (.Constant (.int 1) k p1) p2)) p3) pos) ((XE.rev a).t E) := pe_rev he
end
/-! shifts -/
theorem shs_rev (k : Nat) (xs : List AV) : AV.shs k xs.reverse = (AV.shs k xs).reverse := by
  rw [shs_map, shs_map, List.map_reverse]
theorem fe_rev {a : Env → M AV} (ha : Fe a) : Fe (mRev a) := fun k ρ => fm_bind (ha k ρ) fun x y e => by
  subst e
  have go : ∀ x : AV, Fm k (RA k) (getL x >>= fun ys => M.new (.lst ys.reverse)) (getL (x.sh k) >>= fun ys => M.new (.lst ys.reverse)) := fun x => fm_bind (fm_getL x) fun ys zs e => by
    subst e
    refine fm_new ?_
    show AO.lst _ = AO.lst _
    rw [shs_rev]
  cases x with
  | tup xs =>
    refine fm_pure ?_
    show AV.tup _ = AV.tup _
    rw [shs_rev]
  | _ => exact go _
theorem fd_mx (f : Int → Int → Bool) : Fd (mxM f) := fun k xs => by
  have go : ∀ x : AV, Fm k (RA k) (getL x >>= fun ys => match intsOf ys with
    | some (a :: bs) => pure (.int (mxI f a bs))
    | _ => M.no) (getL (x.sh k) >>= fun ys => match intsOf ys with
    | some (a :: bs) => pure (.int (mxI f a bs))
    | _ => M.no) := fun x => fm_bind (fm_getL x) fun ys zs e => by
    subst e
    rw [intsOf_sh]
    split
    · exact fm_pure rfl
    · exact fm_no
  match xs with
  | [] => exact fm_no
  | x :: y :: z :: r => cases x <;> cases y <;> exact fm_no
  | [x] =>
    cases x <;> exact go _
  | [x, y] =>
    cases x <;> cases y <;> first | exact fm_pure rfl | exact fm_no
theorem fd_max : Fd maxM := fd_mx _
theorem fd_min : Fd minM := fd_mx _
/-! plain -/
@[simp] theorem ev_mrev {a : Env → M AV} {ρ : Env} {S : Store} : mRev a ρ S = (a ρ >>= revM) S := rfl
@[simp] theorem ev_revT (xs : List AV) : revM (.tup xs) = pure (.tup xs.reverse) := rfl
@[simp] theorem ev_max2 (i j : Int) : maxM [.int i, .int j] = pure (.int (if decide (j > i) then j else i)) := rfl
@[simp] theorem ev_min2 (i j : Int) : minM [.int i, .int j] = pure (.int (if decide (j < i) then j else i)) := rfl
end CI

set_option Elab.async false
set_option linter.all false
set_option maxRecDepth 100000
set_option maxHeartbeats 4000000
namespace CKP
open PySem PySem.Spec PyProof.Rows L2 Evl CI
def top (i : Nat) : Stmt := PySem.Challenge.pw_checkcut_k16_whole_loops_by_formula.main.body.getD i (.Pass ⟨0, 0, 0, 0⟩)
abbrev s_NoProgram_init : Stmt := inClass (top 2) 0
abbrev s_NoValues_init : Stmt := inClass (top 3) 0
abbrev s_NoSteps_init : Stmt := inClass (top 4) 0
abbrev s_is_integer : Stmt := top 9
abbrev s_is_between : Stmt := top 10
abbrev s_is_name : Stmt := top 11
abbrev s_is_free_name : Stmt := top 12
abbrev s_is_word : Stmt := top 13
abbrev s_Program_init : Stmt := inClass (top 20) 0
abbrev s_are_names : Stmt := top 21
abbrev s_check_parameters : Stmt := top 22
abbrev s_are_blocks : Stmt := top 23
abbrev s_check_blocks : Stmt := top 24
abbrev s_is_item : Stmt := top 25
abbrev s_is_row : Stmt := top 26
abbrev s_is_giving : Stmt := top 27
abbrev s_are_used : Stmt := top 28
abbrev s_is_end : Stmt := top 29
abbrev s_goals : Stmt := top 30
abbrev s_check_goals : Stmt := top 31
abbrev s_reached_without : Stmt := top 32
abbrev s_dominators : Stmt := top 33
abbrev s_givings : Stmt := top 34
abbrev s_is_usable : Stmt := top 35
abbrev s_used_in : Stmt := top 36
abbrev s_used_by : Stmt := top 37
abbrev s_check_uses : Stmt := top 38
abbrev s_Machine_init : Stmt := inClass (top 43) 0
abbrev s_Machine_look : Stmt := inClass (top 43) 1
abbrev s_Machine_is_left_out : Stmt := inClass (top 43) 2
abbrev s_Machine_finish : Stmt := inClass (top 43) 3
abbrev s_Machine_way_of : Stmt := inClass (top 43) 4
abbrev s_Machine_fails : Stmt := inClass (top 43) 5
abbrev s_Machine_do_row : Stmt := inClass (top 43) 6
abbrev s_Machine_told_lists : Stmt := inClass (top 43) 7
abbrev s_are_integers : Stmt := top 44
abbrev s_check_values : Stmt := top 45
abbrev s_run : Stmt := top 46
abbrev s__law_cell_at : Stmt := top 48
abbrev s__law_well : Stmt := top 49
abbrev s__law_draw : Stmt := top 50
abbrev s__law_one : Stmt := top 51
abbrev s__law_program : Stmt := top 52
abbrev s__law_sums : Stmt := top 53
abbrev s__law_greatest : Stmt := top 54
abbrev s__law_copies : Stmt := top 55
abbrev s__law_turns : Stmt := top 56
abbrev s__law_copied : Stmt := top 57
abbrev s__law_right : Stmt := top 58
abbrev s_law : Stmt := top 59
def d_NoProgram_init : He.DefD := ⟨("NoProgram", some "__init__"), "__init__", "NoProgram.__init__", defArgs s_NoProgram_init, defBody s_NoProgram_init, defScope s_NoProgram_init, [], []⟩
def d_NoValues_init : He.DefD := ⟨("NoValues", some "__init__"), "__init__", "NoValues.__init__", defArgs s_NoValues_init, defBody s_NoValues_init, defScope s_NoValues_init, [], []⟩
def d_NoSteps_init : He.DefD := ⟨("NoSteps", some "__init__"), "__init__", "NoSteps.__init__", defArgs s_NoSteps_init, defBody s_NoSteps_init, defScope s_NoSteps_init, [], []⟩
def d_is_integer : He.DefD := ⟨("is_integer", none), "is_integer", "is_integer", defArgs s_is_integer, defBody s_is_integer, defScope s_is_integer, [], []⟩
def d_is_between : He.DefD := ⟨("is_between", none), "is_between", "is_between", defArgs s_is_between, defBody s_is_between, defScope s_is_between, [], []⟩
def d_is_name : He.DefD := ⟨("is_name", none), "is_name", "is_name", defArgs s_is_name, defBody s_is_name, defScope s_is_name, [], []⟩
def d_is_free_name : He.DefD := ⟨("is_free_name", none), "is_free_name", "is_free_name", defArgs s_is_free_name, defBody s_is_free_name, defScope s_is_free_name, [], []⟩
def d_is_word : He.DefD := ⟨("is_word", none), "is_word", "is_word", defArgs s_is_word, defBody s_is_word, defScope s_is_word, [], []⟩
def d_Program_init : He.DefD := ⟨("Program", some "__init__"), "__init__", "Program.__init__", defArgs s_Program_init, defBody s_Program_init, defScope s_Program_init, [], []⟩
def d_are_names : He.DefD := ⟨("are_names", none), "are_names", "are_names", defArgs s_are_names, defBody s_are_names, defScope s_are_names, [], []⟩
def d_check_parameters : He.DefD := ⟨("check_parameters", none), "check_parameters", "check_parameters", defArgs s_check_parameters, defBody s_check_parameters, defScope s_check_parameters, [], []⟩
def d_are_blocks : He.DefD := ⟨("are_blocks", none), "are_blocks", "are_blocks", defArgs s_are_blocks, defBody s_are_blocks, defScope s_are_blocks, [], []⟩
def d_check_blocks : He.DefD := ⟨("check_blocks", none), "check_blocks", "check_blocks", defArgs s_check_blocks, defBody s_check_blocks, defScope s_check_blocks, [], []⟩
def d_is_item : He.DefD := ⟨("is_item", none), "is_item", "is_item", defArgs s_is_item, defBody s_is_item, defScope s_is_item, [], []⟩
def d_is_row : He.DefD := ⟨("is_row", none), "is_row", "is_row", defArgs s_is_row, defBody s_is_row, defScope s_is_row, [], []⟩
def d_is_giving : He.DefD := ⟨("is_giving", none), "is_giving", "is_giving", defArgs s_is_giving, defBody s_is_giving, defScope s_is_giving, [], []⟩
def d_are_used : He.DefD := ⟨("are_used", none), "are_used", "are_used", defArgs s_are_used, defBody s_are_used, defScope s_are_used, [], []⟩
def d_is_end : He.DefD := ⟨("is_end", none), "is_end", "is_end", defArgs s_is_end, defBody s_is_end, defScope s_is_end, [], []⟩
def d_goals : He.DefD := ⟨("goals", none), "goals", "goals", defArgs s_goals, defBody s_goals, defScope s_goals, [], []⟩
def d_check_goals : He.DefD := ⟨("check_goals", none), "check_goals", "check_goals", defArgs s_check_goals, defBody s_check_goals, defScope s_check_goals, [], []⟩
def d_reached_without : He.DefD := ⟨("reached_without", none), "reached_without", "reached_without", defArgs s_reached_without, defBody s_reached_without, defScope s_reached_without, [], []⟩
def d_dominators : He.DefD := ⟨("dominators", none), "dominators", "dominators", defArgs s_dominators, defBody s_dominators, defScope s_dominators, [], []⟩
def d_givings : He.DefD := ⟨("givings", none), "givings", "givings", defArgs s_givings, defBody s_givings, defScope s_givings, [], []⟩
def d_is_usable : He.DefD := ⟨("is_usable", none), "is_usable", "is_usable", defArgs s_is_usable, defBody s_is_usable, defScope s_is_usable, [], []⟩
def d_used_in : He.DefD := ⟨("used_in", none), "used_in", "used_in", defArgs s_used_in, defBody s_used_in, defScope s_used_in, [], []⟩
def d_used_by : He.DefD := ⟨("used_by", none), "used_by", "used_by", defArgs s_used_by, defBody s_used_by, defScope s_used_by, [], []⟩
def d_check_uses : He.DefD := ⟨("check_uses", none), "check_uses", "check_uses", defArgs s_check_uses, defBody s_check_uses, defScope s_check_uses, [], []⟩
def d_Machine_init : He.DefD := ⟨("Machine", some "__init__"), "__init__", "Machine.__init__", defArgs s_Machine_init, defBody s_Machine_init, defScope s_Machine_init, [], []⟩
def d_Machine_look : He.DefD := ⟨("Machine", some "look"), "look", "Machine.look", defArgs s_Machine_look, defBody s_Machine_look, defScope s_Machine_look, [], []⟩
def d_Machine_is_left_out : He.DefD := ⟨("Machine", some "is_left_out"), "is_left_out", "Machine.is_left_out", defArgs s_Machine_is_left_out, defBody s_Machine_is_left_out, defScope s_Machine_is_left_out, [], []⟩
def d_Machine_finish : He.DefD := ⟨("Machine", some "finish"), "finish", "Machine.finish", defArgs s_Machine_finish, defBody s_Machine_finish, defScope s_Machine_finish, [], []⟩
def d_Machine_way_of : He.DefD := ⟨("Machine", some "way_of"), "way_of", "Machine.way_of", defArgs s_Machine_way_of, defBody s_Machine_way_of, defScope s_Machine_way_of, [], []⟩
def d_Machine_fails : He.DefD := ⟨("Machine", some "fails"), "fails", "Machine.fails", defArgs s_Machine_fails, defBody s_Machine_fails, defScope s_Machine_fails, [], []⟩
def d_Machine_do_row : He.DefD := ⟨("Machine", some "do_row"), "do_row", "Machine.do_row", defArgs s_Machine_do_row, defBody s_Machine_do_row, defScope s_Machine_do_row, [], []⟩
def d_Machine_told_lists : He.DefD := ⟨("Machine", some "told_lists"), "told_lists", "Machine.told_lists", defArgs s_Machine_told_lists, defBody s_Machine_told_lists, defScope s_Machine_told_lists, [], []⟩
def d_are_integers : He.DefD := ⟨("are_integers", none), "are_integers", "are_integers", defArgs s_are_integers, defBody s_are_integers, defScope s_are_integers, [], []⟩
def d_check_values : He.DefD := ⟨("check_values", none), "check_values", "check_values", defArgs s_check_values, defBody s_check_values, defScope s_check_values, [], []⟩
def d_run : He.DefD := ⟨("run", none), "run", "run", defArgs s_run, defBody s_run, defScope s_run, [], [("steps", .int 200)]⟩
def d__law_cell_at : He.DefD := ⟨("_law_cell_at", none), "_law_cell_at", "_law_cell_at", defArgs s__law_cell_at, defBody s__law_cell_at, defScope s__law_cell_at, [], []⟩
def d__law_well : He.DefD := ⟨("_law_well", none), "_law_well", "_law_well", defArgs s__law_well, defBody s__law_well, defScope s__law_well, [], []⟩
def d__law_draw : He.DefD := ⟨("_law_draw", none), "_law_draw", "_law_draw", defArgs s__law_draw, defBody s__law_draw, defScope s__law_draw, [], []⟩
def d__law_one : He.DefD := ⟨("_law_one", none), "_law_one", "_law_one", defArgs s__law_one, defBody s__law_one, defScope s__law_one, [], []⟩
def d__law_program : He.DefD := ⟨("_law_program", none), "_law_program", "_law_program", defArgs s__law_program, defBody s__law_program, defScope s__law_program, [], []⟩
def d__law_sums : He.DefD := ⟨("_law_sums", none), "_law_sums", "_law_sums", defArgs s__law_sums, defBody s__law_sums, defScope s__law_sums, [], []⟩
def d__law_greatest : He.DefD := ⟨("_law_greatest", none), "_law_greatest", "_law_greatest", defArgs s__law_greatest, defBody s__law_greatest, defScope s__law_greatest, [], []⟩
def d__law_copies : He.DefD := ⟨("_law_copies", none), "_law_copies", "_law_copies", defArgs s__law_copies, defBody s__law_copies, defScope s__law_copies, [], []⟩
def d__law_turns : He.DefD := ⟨("_law_turns", none), "_law_turns", "_law_turns", defArgs s__law_turns, defBody s__law_turns, defScope s__law_turns, [], []⟩
def d__law_copied : He.DefD := ⟨("_law_copied", none), "_law_copied", "_law_copied", defArgs s__law_copied, defBody s__law_copied, defScope s__law_copied, [], []⟩
def d__law_right : He.DefD := ⟨("_law_right", none), "_law_right", "_law_right", defArgs s__law_right, defBody s__law_right, defScope s__law_right, [], []⟩
def d_law : He.DefD := ⟨("law", none), "law", "law", defArgs s_law, defBody s_law, defScope s_law, [], []⟩
def fn0 : List He.DefD := [d_NoProgram_init, d_NoValues_init, d_NoSteps_init, d_is_integer, d_is_between, d_is_name, d_is_free_name, d_is_word, d_Program_init, d_are_names, d_check_parameters, d_are_blocks, d_check_blocks, d_is_item, d_is_row, d_is_giving, d_are_used, d_is_end, d_goals, d_check_goals]
def fn1 : List He.DefD := [d_reached_without, d_dominators, d_givings, d_is_usable, d_used_in, d_used_by, d_check_uses, d_Machine_init, d_Machine_look, d_Machine_is_left_out, d_Machine_finish, d_Machine_way_of, d_Machine_fails, d_Machine_do_row, d_Machine_told_lists, d_are_integers, d_check_values, d_run, d__law_cell_at, d__law_well]
def fn2 : List He.DefD := [d__law_draw, d__law_one, d__law_program, d__law_sums, d__law_greatest, d__law_copies, d__law_turns, d__law_copied, d__law_right, d_law]
def fn : List He.DefD := fn0 ++ fn1 ++ fn2
def fa0 : List He.Fa := [.glo "is_integer", .glo "is_between", .glo "is_name", .glo "is_free_name", .glo "is_word", .glo "are_names", .glo "check_parameters", .glo "are_blocks", .glo "check_blocks", .glo "is_item", .glo "is_row", .glo "is_giving", .glo "are_used", .glo "is_end", .glo "goals", .glo "check_goals", .glo "reached_without", .glo "dominators", .glo "givings", .glo "is_usable", .glo "used_in", .glo "used_by", .glo "check_uses", .glo "are_integers", .glo "check_values", .glo "run", .glo "_law_cell_at", .glo "_law_well", .glo "_law_draw", .glo "_law_one"]
def fa1 : List He.Fa := [.glo "_law_program", .glo "_law_sums", .glo "_law_greatest", .glo "_law_copies", .glo "_law_turns", .glo "_law_copied", .glo "_law_right", .glo "law", .glo "CheckError", .glo "NoProgram", .glo "NoValues", .glo "NoSteps", .glo "TooLong", .glo "Program", .cls "Program", .mkr "Program", .noat "Program" "lists", .noat "Program" "numbers", .noat "Program" "blocks", .noat "Program" "parts", .noat "Program" "above", .noat "Program" "given", .noat "Program" "kept", .glo "Machine", .cls "Machine", .mkr "Machine", .meth "Machine" "look", .meth "Machine" "is_left_out", .meth "Machine" "finish", .meth "Machine" "way_of"]
def fa2 : List He.Fa := [.meth "Machine" "fails", .meth "Machine" "do_row", .meth "Machine" "told_lists", .noat "Machine" "program", .noat "Machine" "cells", .noat "Machine" "worth", .free "isinstance", .free "len", .free "all", .free "any", .free "enumerate", .free "zip", .free "range", .free "tuple", .free "list", .free "dict", .free "max", .free "min", .free "sum", .free "int", .free "bool", .free "str", .str "LETTERS" "abcdefghijklmnopqrstuvwxyz", .glo "KEPT", .int "MOST_BLOCKS" 6, .int "MOST_ROWS" 6, .int "MOST_PARAMS" 2, .int "GREATEST" 8, .glo "FORMS", .int "MOST_STEPS" 1000]
def fa3 : List He.Fa := [.int "USUAL_STEPS" 200, .glo "WAY_POINTS"]
def fa : List He.Fa := fa0 ++ fa1 ++ fa2 ++ fa3
def ts : List He.Tab := [((fun K => He.ga K "FORMS"), ["set", "move", "sum", "length", "get", "put", "low", "high"])]
def ex (K : PySem.W.Frag) : Bool := He.tupB K "KEPT" [.str "zero", .str "low"] && He.valsB K (He.ga K "FORMS") [("set", .str "gn"), ("move", .str "gun"), ("sum", .str "guu"), ("length", .str "gl"), ("get", .str "glu"), ("put", .str "luu"), ("low", .str "u"), ("high", .str "ul")] && He.tupB K "WAY_POINTS" [.str "first", .str "second"]
abbrev R : PySem.W.OpenRow := PySem.W.OpenLaw.row PySem.Challenge.rw_checkcut_k16_whole_loops_by_formula
def lo0 : List Str := ["CheckError", "NoProgram", "NoValues", "NoSteps", "TooLong", "LETTERS", "KEPT", "is_integer", "is_between", "is_name", "is_free_name", "is_word", "MOST_BLOCKS", "MOST_ROWS", "MOST_PARAMS", "GREATEST", "FORMS", "Program", "are_names", "check_parameters", "are_blocks", "check_blocks", "is_item", "is_row", "is_giving", "are_used", "is_end", "goals", "check_goals", "reached_without"]
def lo1 : List Str := ["dominators", "givings", "is_usable", "used_in", "used_by", "check_uses", "MOST_STEPS", "USUAL_STEPS", "WAY_POINTS", "Machine", "are_integers", "check_values", "run", "_law_cell_at", "_law_well", "_law_draw", "_law_one", "_law_program", "_law_sums", "_law_greatest", "_law_copies", "_law_turns", "_law_copied", "_law_right"]
def loose : List Str := lo0 ++ lo1
abbrev hk : PySem.W.Hook := He.hookX 5 fa fn ts [] ex
def ob (s : PySem.W.SharedT) : He.AlX := He.obsX 5 fa fn ts [] ex (HandSHeadRun.getT s)
theorem ob_eq (s : PySem.W.SharedT) : ob s = hk.obs s.abs := He.obsX_eq (HandSHeadRun.getT_eq s)
abbrev lawIx : Nat := 59
end CKP

set_option Elab.async false
set_option linter.all false
set_option maxRecDepth 100000
set_option maxHeartbeats 4000000
namespace CKP
open PySem PySem.Spec PyProof.Rows L2 Evl CI
def clA (K : PySem.W.Frag) : Nat → Addr
  | 0 => He.ga K "Program"
  | 1 => He.ga K "Machine"
  | _ => 0
abbrev ct (K : PySem.W.Frag) (w : World) : Ct := ⟨K, w, clA K⟩
def ks_KEPT : List Str := ["zero", "low"]
def k_KEPT : AV := .tup (ks_KEPT.map .str)
def es_FORMS : List (Str × Str) := [("set", "gn"), ("move", "gun"), ("sum", "guu"), ("length", "gl"), ("get", "glu"), ("put", "luu"), ("low", "u"), ("high", "ul")]
def ks_WAY_POINTS : List Str := ["first", "second"]
def k_WAY_POINTS : AV := .tup (ks_WAY_POINTS.map .str)
theorem ex_KEPT {K : PySem.W.Frag} (h : ex K = true) : He.tupB K "KEPT" [.str "zero", .str "low"] = true := by
  unfold ex at h
  simp only [Bool.and_eq_true] at h
  exact h.1.1
theorem ex_FORMS {K : PySem.W.Frag} (h : ex K = true) : He.valsB K (He.ga K "FORMS") [("set", .str "gn"), ("move", .str "gun"), ("sum", .str "guu"), ("length", .str "gl"), ("get", .str "glu"), ("put", .str "luu"), ("low", .str "u"), ("high", .str "ul")] = true := by
  unfold ex at h
  simp only [Bool.and_eq_true] at h
  exact h.1.2
theorem ex_WAY_POINTS {K : PySem.W.Frag} (h : ex K = true) : He.tupB K "WAY_POINTS" [.str "first", .str "second"] = true := by
  unfold ex at h
  simp only [Bool.and_eq_true] at h
  exact h.2
structure Md (P : PySem.Program) (w : World) (K : PySem.W.Frag) (mg : Str → Option Value) (base : Heap) : Prop where
  f_all : mg "all" = none
  f_any : mg "any" = none
  f_bool : mg "bool" = none
  f_dict : mg "dict" = none
  f_enumerate : mg "enumerate" = none
  f_int : mg "int" = none
  f_isinstance : mg "isinstance" = none
  f_len : mg "len" = none
  f_list : mg "list" = none
  f_max : mg "max" = none
  f_min : mg "min" = none
  f_range : mg "range" = none
  f_str : mg "str" = none
  f_sum : mg "sum" = none
  f_tuple : mg "tuple" = none
  f_zip : mg "zip" = none
  s_LETTERS : ∃ t, mg "LETTERS" = some (.str "abcdefghijklmnopqrstuvwxyz" t)
  g_KEPT : mg "KEPT" = some (.ref (He.ga K "KEPT"))
  t_KEPT : ∀ H, SqT K H (He.ga K "KEPT") (ks_KEPT.map V.str)
  i_MOST_BLOCKS : ∃ t, mg "MOST_BLOCKS" = some (.int 6 t)
  i_MOST_ROWS : ∃ t, mg "MOST_ROWS" = some (.int 6 t)
  i_MOST_PARAMS : ∃ t, mg "MOST_PARAMS" = some (.int 2 t)
  i_GREATEST : ∃ t, mg "GREATEST" = some (.int 8 t)
  g_FORMS : mg "FORMS" = some (.ref (He.ga K "FORMS"))
  w_FORMS : WD (ct K w) (He.ga K "FORMS") es_FORMS
  wk_FORMS : CITup.WK K w (He.ga K "FORMS") (es_FORMS.map (·.1))
  i_MOST_STEPS : ∃ t, mg "MOST_STEPS" = some (.int 1000 t)
  i_USUAL_STEPS : ∃ t, mg "USUAL_STEPS" = some (.int 200 t)
  g_WAY_POINTS : mg "WAY_POINTS" = some (.ref (He.ga K "WAY_POINTS"))
  t_WAY_POINTS : ∀ H, SqT K H (He.ga K "WAY_POINTS") (ks_WAY_POINTS.map V.str)
  g_Program : mg "Program" = some (.ref (He.ga K "Program"))
  cls_Program : Cls K (He.ga K "Program")
  mk_Program : Mk K (He.ga K "Program") (He.ma K (He.ga K "Program") "__init__")
  na_Program_lists : NoAttr K (He.ga K "Program") "lists"
  na_Program_numbers : NoAttr K (He.ga K "Program") "numbers"
  na_Program_blocks : NoAttr K (He.ga K "Program") "blocks"
  na_Program_parts : NoAttr K (He.ga K "Program") "parts"
  na_Program_above : NoAttr K (He.ga K "Program") "above"
  na_Program_given : NoAttr K (He.ga K "Program") "given"
  na_Program_kept : NoAttr K (He.ga K "Program") "kept"
  g_Machine : mg "Machine" = some (.ref (He.ga K "Machine"))
  cls_Machine : Cls K (He.ga K "Machine")
  mk_Machine : Mk K (He.ga K "Machine") (He.ma K (He.ga K "Machine") "__init__")
  na_Machine_program : NoAttr K (He.ga K "Machine") "program"
  na_Machine_cells : NoAttr K (He.ga K "Machine") "cells"
  na_Machine_worth : NoAttr K (He.ga K "Machine") "worth"
  g_is_integer : mg "is_integer" = some (.ref (He.ga K "is_integer"))
  d_is_integer : ∃ fd, FunD K "is_integer" "is_integer" (defArgs s_is_integer) (defBody s_is_integer) (defScope s_is_integer) [] [] (He.ga K "is_integer") fd
  g_is_between : mg "is_between" = some (.ref (He.ga K "is_between"))
  d_is_between : ∃ fd, FunD K "is_between" "is_between" (defArgs s_is_between) (defBody s_is_between) (defScope s_is_between) [] [] (He.ga K "is_between") fd
  g_is_name : mg "is_name" = some (.ref (He.ga K "is_name"))
  d_is_name : ∃ fd, FunD K "is_name" "is_name" (defArgs s_is_name) (defBody s_is_name) (defScope s_is_name) [] [] (He.ga K "is_name") fd
  g_is_free_name : mg "is_free_name" = some (.ref (He.ga K "is_free_name"))
  d_is_free_name : ∃ fd, FunD K "is_free_name" "is_free_name" (defArgs s_is_free_name) (defBody s_is_free_name) (defScope s_is_free_name) [] [] (He.ga K "is_free_name") fd
  g_is_word : mg "is_word" = some (.ref (He.ga K "is_word"))
  d_is_word : ∃ fd, FunD K "is_word" "is_word" (defArgs s_is_word) (defBody s_is_word) (defScope s_is_word) [] [] (He.ga K "is_word") fd
  d_Program_init : ∃ fd, FunD K "__init__" "Program.__init__" (defArgs s_Program_init) (defBody s_Program_init) (defScope s_Program_init) [] [] (He.ma K (He.ga K "Program") "__init__") fd
  g_are_names : mg "are_names" = some (.ref (He.ga K "are_names"))
  d_are_names : ∃ fd, FunD K "are_names" "are_names" (defArgs s_are_names) (defBody s_are_names) (defScope s_are_names) [] [] (He.ga K "are_names") fd
  g_check_parameters : mg "check_parameters" = some (.ref (He.ga K "check_parameters"))
  d_check_parameters : ∃ fd, FunD K "check_parameters" "check_parameters" (defArgs s_check_parameters) (defBody s_check_parameters) (defScope s_check_parameters) [] [] (He.ga K "check_parameters") fd
  g_are_blocks : mg "are_blocks" = some (.ref (He.ga K "are_blocks"))
  d_are_blocks : ∃ fd, FunD K "are_blocks" "are_blocks" (defArgs s_are_blocks) (defBody s_are_blocks) (defScope s_are_blocks) [] [] (He.ga K "are_blocks") fd
  g_check_blocks : mg "check_blocks" = some (.ref (He.ga K "check_blocks"))
  d_check_blocks : ∃ fd, FunD K "check_blocks" "check_blocks" (defArgs s_check_blocks) (defBody s_check_blocks) (defScope s_check_blocks) [] [] (He.ga K "check_blocks") fd
  g_is_item : mg "is_item" = some (.ref (He.ga K "is_item"))
  d_is_item : ∃ fd, FunD K "is_item" "is_item" (defArgs s_is_item) (defBody s_is_item) (defScope s_is_item) [] [] (He.ga K "is_item") fd
  g_is_row : mg "is_row" = some (.ref (He.ga K "is_row"))
  d_is_row : ∃ fd, FunD K "is_row" "is_row" (defArgs s_is_row) (defBody s_is_row) (defScope s_is_row) [] [] (He.ga K "is_row") fd
  g_is_giving : mg "is_giving" = some (.ref (He.ga K "is_giving"))
  d_is_giving : ∃ fd, FunD K "is_giving" "is_giving" (defArgs s_is_giving) (defBody s_is_giving) (defScope s_is_giving) [] [] (He.ga K "is_giving") fd
  g_are_used : mg "are_used" = some (.ref (He.ga K "are_used"))
  d_are_used : ∃ fd, FunD K "are_used" "are_used" (defArgs s_are_used) (defBody s_are_used) (defScope s_are_used) [] [] (He.ga K "are_used") fd
  g_is_end : mg "is_end" = some (.ref (He.ga K "is_end"))
  d_is_end : ∃ fd, FunD K "is_end" "is_end" (defArgs s_is_end) (defBody s_is_end) (defScope s_is_end) [] [] (He.ga K "is_end") fd
  g_goals : mg "goals" = some (.ref (He.ga K "goals"))
  d_goals : ∃ fd, FunD K "goals" "goals" (defArgs s_goals) (defBody s_goals) (defScope s_goals) [] [] (He.ga K "goals") fd
  g_check_goals : mg "check_goals" = some (.ref (He.ga K "check_goals"))
  d_check_goals : ∃ fd, FunD K "check_goals" "check_goals" (defArgs s_check_goals) (defBody s_check_goals) (defScope s_check_goals) [] [] (He.ga K "check_goals") fd
  g_reached_without : mg "reached_without" = some (.ref (He.ga K "reached_without"))
  d_reached_without : ∃ fd, FunD K "reached_without" "reached_without" (defArgs s_reached_without) (defBody s_reached_without) (defScope s_reached_without) [] [] (He.ga K "reached_without") fd
  g_dominators : mg "dominators" = some (.ref (He.ga K "dominators"))
  d_dominators : ∃ fd, FunD K "dominators" "dominators" (defArgs s_dominators) (defBody s_dominators) (defScope s_dominators) [] [] (He.ga K "dominators") fd
  g_givings : mg "givings" = some (.ref (He.ga K "givings"))
  d_givings : ∃ fd, FunD K "givings" "givings" (defArgs s_givings) (defBody s_givings) (defScope s_givings) [] [] (He.ga K "givings") fd
  g_is_usable : mg "is_usable" = some (.ref (He.ga K "is_usable"))
  d_is_usable : ∃ fd, FunD K "is_usable" "is_usable" (defArgs s_is_usable) (defBody s_is_usable) (defScope s_is_usable) [] [] (He.ga K "is_usable") fd
  g_used_in : mg "used_in" = some (.ref (He.ga K "used_in"))
  d_used_in : ∃ fd, FunD K "used_in" "used_in" (defArgs s_used_in) (defBody s_used_in) (defScope s_used_in) [] [] (He.ga K "used_in") fd
  g_used_by : mg "used_by" = some (.ref (He.ga K "used_by"))
  d_used_by : ∃ fd, FunD K "used_by" "used_by" (defArgs s_used_by) (defBody s_used_by) (defScope s_used_by) [] [] (He.ga K "used_by") fd
  g_check_uses : mg "check_uses" = some (.ref (He.ga K "check_uses"))
  d_check_uses : ∃ fd, FunD K "check_uses" "check_uses" (defArgs s_check_uses) (defBody s_check_uses) (defScope s_check_uses) [] [] (He.ga K "check_uses") fd
  d_Machine_init : ∃ fd, FunD K "__init__" "Machine.__init__" (defArgs s_Machine_init) (defBody s_Machine_init) (defScope s_Machine_init) [] [] (He.ma K (He.ga K "Machine") "__init__") fd
  me_Machine_look : Meth K (He.ga K "Machine") "look" (He.ma K (He.ga K "Machine") "look")
  d_Machine_look : ∃ fd, FunD K "look" "Machine.look" (defArgs s_Machine_look) (defBody s_Machine_look) (defScope s_Machine_look) [] [] (He.ma K (He.ga K "Machine") "look") fd
  me_Machine_is_left_out : Meth K (He.ga K "Machine") "is_left_out" (He.ma K (He.ga K "Machine") "is_left_out")
  d_Machine_is_left_out : ∃ fd, FunD K "is_left_out" "Machine.is_left_out" (defArgs s_Machine_is_left_out) (defBody s_Machine_is_left_out) (defScope s_Machine_is_left_out) [] [] (He.ma K (He.ga K "Machine") "is_left_out") fd
  me_Machine_finish : Meth K (He.ga K "Machine") "finish" (He.ma K (He.ga K "Machine") "finish")
  d_Machine_finish : ∃ fd, FunD K "finish" "Machine.finish" (defArgs s_Machine_finish) (defBody s_Machine_finish) (defScope s_Machine_finish) [] [] (He.ma K (He.ga K "Machine") "finish") fd
  me_Machine_way_of : Meth K (He.ga K "Machine") "way_of" (He.ma K (He.ga K "Machine") "way_of")
  d_Machine_way_of : ∃ fd, FunD K "way_of" "Machine.way_of" (defArgs s_Machine_way_of) (defBody s_Machine_way_of) (defScope s_Machine_way_of) [] [] (He.ma K (He.ga K "Machine") "way_of") fd
  me_Machine_fails : Meth K (He.ga K "Machine") "fails" (He.ma K (He.ga K "Machine") "fails")
  d_Machine_fails : ∃ fd, FunD K "fails" "Machine.fails" (defArgs s_Machine_fails) (defBody s_Machine_fails) (defScope s_Machine_fails) [] [] (He.ma K (He.ga K "Machine") "fails") fd
  me_Machine_do_row : Meth K (He.ga K "Machine") "do_row" (He.ma K (He.ga K "Machine") "do_row")
  d_Machine_do_row : ∃ fd, FunD K "do_row" "Machine.do_row" (defArgs s_Machine_do_row) (defBody s_Machine_do_row) (defScope s_Machine_do_row) [] [] (He.ma K (He.ga K "Machine") "do_row") fd
  me_Machine_told_lists : Meth K (He.ga K "Machine") "told_lists" (He.ma K (He.ga K "Machine") "told_lists")
  d_Machine_told_lists : ∃ fd, FunD K "told_lists" "Machine.told_lists" (defArgs s_Machine_told_lists) (defBody s_Machine_told_lists) (defScope s_Machine_told_lists) [] [] (He.ma K (He.ga K "Machine") "told_lists") fd
  g_are_integers : mg "are_integers" = some (.ref (He.ga K "are_integers"))
  d_are_integers : ∃ fd, FunD K "are_integers" "are_integers" (defArgs s_are_integers) (defBody s_are_integers) (defScope s_are_integers) [] [] (He.ga K "are_integers") fd
  g_check_values : mg "check_values" = some (.ref (He.ga K "check_values"))
  d_check_values : ∃ fd, FunD K "check_values" "check_values" (defArgs s_check_values) (defBody s_check_values) (defScope s_check_values) [] [] (He.ga K "check_values") fd
  g_run : mg "run" = some (.ref (He.ga K "run"))
  d_run : ∃ fd, FunD K "run" "run" (defArgs s_run) (defBody s_run) (defScope s_run) [] [("steps", V.int 200)] (He.ga K "run") fd
  g__law_cell_at : mg "_law_cell_at" = some (.ref (He.ga K "_law_cell_at"))
  d__law_cell_at : ∃ fd, FunD K "_law_cell_at" "_law_cell_at" (defArgs s__law_cell_at) (defBody s__law_cell_at) (defScope s__law_cell_at) [] [] (He.ga K "_law_cell_at") fd
  g__law_well : mg "_law_well" = some (.ref (He.ga K "_law_well"))
  d__law_well : ∃ fd, FunD K "_law_well" "_law_well" (defArgs s__law_well) (defBody s__law_well) (defScope s__law_well) [] [] (He.ga K "_law_well") fd
  g__law_draw : mg "_law_draw" = some (.ref (He.ga K "_law_draw"))
  d__law_draw : ∃ fd, FunD K "_law_draw" "_law_draw" (defArgs s__law_draw) (defBody s__law_draw) (defScope s__law_draw) [] [] (He.ga K "_law_draw") fd
  g__law_one : mg "_law_one" = some (.ref (He.ga K "_law_one"))
  d__law_one : ∃ fd, FunD K "_law_one" "_law_one" (defArgs s__law_one) (defBody s__law_one) (defScope s__law_one) [] [] (He.ga K "_law_one") fd
  g__law_program : mg "_law_program" = some (.ref (He.ga K "_law_program"))
  d__law_program : ∃ fd, FunD K "_law_program" "_law_program" (defArgs s__law_program) (defBody s__law_program) (defScope s__law_program) [] [] (He.ga K "_law_program") fd
  g__law_sums : mg "_law_sums" = some (.ref (He.ga K "_law_sums"))
  d__law_sums : ∃ fd, FunD K "_law_sums" "_law_sums" (defArgs s__law_sums) (defBody s__law_sums) (defScope s__law_sums) [] [] (He.ga K "_law_sums") fd
  g__law_greatest : mg "_law_greatest" = some (.ref (He.ga K "_law_greatest"))
  d__law_greatest : ∃ fd, FunD K "_law_greatest" "_law_greatest" (defArgs s__law_greatest) (defBody s__law_greatest) (defScope s__law_greatest) [] [] (He.ga K "_law_greatest") fd
  g__law_copies : mg "_law_copies" = some (.ref (He.ga K "_law_copies"))
  d__law_copies : ∃ fd, FunD K "_law_copies" "_law_copies" (defArgs s__law_copies) (defBody s__law_copies) (defScope s__law_copies) [] [] (He.ga K "_law_copies") fd
  g__law_turns : mg "_law_turns" = some (.ref (He.ga K "_law_turns"))
  d__law_turns : ∃ fd, FunD K "_law_turns" "_law_turns" (defArgs s__law_turns) (defBody s__law_turns) (defScope s__law_turns) [] [] (He.ga K "_law_turns") fd
  g__law_copied : mg "_law_copied" = some (.ref (He.ga K "_law_copied"))
  d__law_copied : ∃ fd, FunD K "_law_copied" "_law_copied" (defArgs s__law_copied) (defBody s__law_copied) (defScope s__law_copied) [] [] (He.ga K "_law_copied") fd
  g__law_right : mg "_law_right" = some (.ref (He.ga K "_law_right"))
  d__law_right : ∃ fd, FunD K "_law_right" "_law_right" (defArgs s__law_right) (defBody s__law_right) (defScope s__law_right) [] [] (He.ga K "_law_right") fd
  g_law : mg "law" = some (.ref (He.ga K "law"))
  d_law : ∃ fd, FunD K "law" "law" (defArgs s_law) (defBody s_law) (defScope s_law) [] [] (He.ga K "law") fd
set_option maxHeartbeats 40000000 in
theorem md_of {P : PySem.Program} {w : World} {K : PySem.W.Frag} {h h0 : Heap} {mg : Str → Option Value} {base : Heap} (X : K.In h) (G : h.Ns mainGlobals mg) (c : He.SaysX fa fn ts [] ex w h0 K) : Md P w K mg base where
  f_all := He.free_ok X G (c.t.d.fact 68 (f := .free "all") rfl)
  f_any := He.free_ok X G (c.t.d.fact 69 (f := .free "any") rfl)
  f_bool := He.free_ok X G (c.t.d.fact 80 (f := .free "bool") rfl)
  f_dict := He.free_ok X G (c.t.d.fact 75 (f := .free "dict") rfl)
  f_enumerate := He.free_ok X G (c.t.d.fact 70 (f := .free "enumerate") rfl)
  f_int := He.free_ok X G (c.t.d.fact 79 (f := .free "int") rfl)
  f_isinstance := He.free_ok X G (c.t.d.fact 66 (f := .free "isinstance") rfl)
  f_len := He.free_ok X G (c.t.d.fact 67 (f := .free "len") rfl)
  f_list := He.free_ok X G (c.t.d.fact 74 (f := .free "list") rfl)
  f_max := He.free_ok X G (c.t.d.fact 76 (f := .free "max") rfl)
  f_min := He.free_ok X G (c.t.d.fact 77 (f := .free "min") rfl)
  f_range := He.free_ok X G (c.t.d.fact 72 (f := .free "range") rfl)
  f_str := He.free_ok X G (c.t.d.fact 81 (f := .free "str") rfl)
  f_sum := He.free_ok X G (c.t.d.fact 78 (f := .free "sum") rfl)
  f_tuple := He.free_ok X G (c.t.d.fact 73 (f := .free "tuple") rfl)
  f_zip := He.free_ok X G (c.t.d.fact 71 (f := .free "zip") rfl)
  s_LETTERS := He.str_ok X G (c.t.d.fact 82 (f := .str "LETTERS" "abcdefghijklmnopqrstuvwxyz") rfl)
  g_KEPT := He.glo_ok X G (c.t.d.fact 83 (f := .glo "KEPT") rfl)
  t_KEPT := fun H => He.tupB_ok (ex_KEPT c.more) H
  i_MOST_BLOCKS := He.int_ok X G (c.t.d.fact 84 (f := .int "MOST_BLOCKS" 6) rfl)
  i_MOST_ROWS := He.int_ok X G (c.t.d.fact 85 (f := .int "MOST_ROWS" 6) rfl)
  i_MOST_PARAMS := He.int_ok X G (c.t.d.fact 86 (f := .int "MOST_PARAMS" 2) rfl)
  i_GREATEST := He.int_ok X G (c.t.d.fact 87 (f := .int "GREATEST" 8) rfl)
  g_FORMS := He.glo_ok X G (c.t.d.fact 88 (f := .glo "FORMS") rfl)
  w_FORMS := wd_of (tab_of c.t 0 (t := ((fun K => He.ga K "FORMS"), es_FORMS.map (·.1))) rfl) (ex_FORMS c.more)
  wk_FORMS := ⟨tab_of c.t 0 (t := ((fun K => He.ga K "FORMS"), es_FORMS.map (·.1))) rfl, by decide +kernel, by decide⟩
  i_MOST_STEPS := He.int_ok X G (c.t.d.fact 89 (f := .int "MOST_STEPS" 1000) rfl)
  i_USUAL_STEPS := He.int_ok X G (c.t.d.fact 90 (f := .int "USUAL_STEPS" 200) rfl)
  g_WAY_POINTS := He.glo_ok X G (c.t.d.fact 91 (f := .glo "WAY_POINTS") rfl)
  t_WAY_POINTS := fun H => He.tupB_ok (ex_WAY_POINTS c.more) H
  g_Program := He.glo_ok X G (c.t.d.fact 43 (f := .glo "Program") rfl)
  cls_Program := He.cls_ok (c.t.d.fact 44 (f := .cls "Program") rfl)
  mk_Program := He.mkr_ok (c.t.d.fact 45 (f := .mkr "Program") rfl)
  na_Program_lists := He.noat_ok (c.t.d.fact 46 (f := .noat "Program" "lists") rfl)
  na_Program_numbers := He.noat_ok (c.t.d.fact 47 (f := .noat "Program" "numbers") rfl)
  na_Program_blocks := He.noat_ok (c.t.d.fact 48 (f := .noat "Program" "blocks") rfl)
  na_Program_parts := He.noat_ok (c.t.d.fact 49 (f := .noat "Program" "parts") rfl)
  na_Program_above := He.noat_ok (c.t.d.fact 50 (f := .noat "Program" "above") rfl)
  na_Program_given := He.noat_ok (c.t.d.fact 51 (f := .noat "Program" "given") rfl)
  na_Program_kept := He.noat_ok (c.t.d.fact 52 (f := .noat "Program" "kept") rfl)
  g_Machine := He.glo_ok X G (c.t.d.fact 53 (f := .glo "Machine") rfl)
  cls_Machine := He.cls_ok (c.t.d.fact 54 (f := .cls "Machine") rfl)
  mk_Machine := He.mkr_ok (c.t.d.fact 55 (f := .mkr "Machine") rfl)
  na_Machine_program := He.noat_ok (c.t.d.fact 63 (f := .noat "Machine" "program") rfl)
  na_Machine_cells := He.noat_ok (c.t.d.fact 64 (f := .noat "Machine" "cells") rfl)
  na_Machine_worth := He.noat_ok (c.t.d.fact 65 (f := .noat "Machine" "worth") rfl)
  g_is_integer := He.glo_ok X G (c.t.d.fact 0 (f := .glo "is_integer") rfl)
  d_is_integer := c.t.d.def_ 3 (d := d_is_integer) rfl
  g_is_between := He.glo_ok X G (c.t.d.fact 1 (f := .glo "is_between") rfl)
  d_is_between := c.t.d.def_ 4 (d := d_is_between) rfl
  g_is_name := He.glo_ok X G (c.t.d.fact 2 (f := .glo "is_name") rfl)
  d_is_name := c.t.d.def_ 5 (d := d_is_name) rfl
  g_is_free_name := He.glo_ok X G (c.t.d.fact 3 (f := .glo "is_free_name") rfl)
  d_is_free_name := c.t.d.def_ 6 (d := d_is_free_name) rfl
  g_is_word := He.glo_ok X G (c.t.d.fact 4 (f := .glo "is_word") rfl)
  d_is_word := c.t.d.def_ 7 (d := d_is_word) rfl
  d_Program_init := c.t.d.def_ 8 (d := d_Program_init) rfl
  g_are_names := He.glo_ok X G (c.t.d.fact 5 (f := .glo "are_names") rfl)
  d_are_names := c.t.d.def_ 9 (d := d_are_names) rfl
  g_check_parameters := He.glo_ok X G (c.t.d.fact 6 (f := .glo "check_parameters") rfl)
  d_check_parameters := c.t.d.def_ 10 (d := d_check_parameters) rfl
  g_are_blocks := He.glo_ok X G (c.t.d.fact 7 (f := .glo "are_blocks") rfl)
  d_are_blocks := c.t.d.def_ 11 (d := d_are_blocks) rfl
  g_check_blocks := He.glo_ok X G (c.t.d.fact 8 (f := .glo "check_blocks") rfl)
  d_check_blocks := c.t.d.def_ 12 (d := d_check_blocks) rfl
  g_is_item := He.glo_ok X G (c.t.d.fact 9 (f := .glo "is_item") rfl)
  d_is_item := c.t.d.def_ 13 (d := d_is_item) rfl
  g_is_row := He.glo_ok X G (c.t.d.fact 10 (f := .glo "is_row") rfl)
  d_is_row := c.t.d.def_ 14 (d := d_is_row) rfl
  g_is_giving := He.glo_ok X G (c.t.d.fact 11 (f := .glo "is_giving") rfl)
  d_is_giving := c.t.d.def_ 15 (d := d_is_giving) rfl
  g_are_used := He.glo_ok X G (c.t.d.fact 12 (f := .glo "are_used") rfl)
  d_are_used := c.t.d.def_ 16 (d := d_are_used) rfl
  g_is_end := He.glo_ok X G (c.t.d.fact 13 (f := .glo "is_end") rfl)
  d_is_end := c.t.d.def_ 17 (d := d_is_end) rfl
  g_goals := He.glo_ok X G (c.t.d.fact 14 (f := .glo "goals") rfl)
  d_goals := c.t.d.def_ 18 (d := d_goals) rfl
  g_check_goals := He.glo_ok X G (c.t.d.fact 15 (f := .glo "check_goals") rfl)
  d_check_goals := c.t.d.def_ 19 (d := d_check_goals) rfl
  g_reached_without := He.glo_ok X G (c.t.d.fact 16 (f := .glo "reached_without") rfl)
  d_reached_without := c.t.d.def_ 20 (d := d_reached_without) rfl
  g_dominators := He.glo_ok X G (c.t.d.fact 17 (f := .glo "dominators") rfl)
  d_dominators := c.t.d.def_ 21 (d := d_dominators) rfl
  g_givings := He.glo_ok X G (c.t.d.fact 18 (f := .glo "givings") rfl)
  d_givings := c.t.d.def_ 22 (d := d_givings) rfl
  g_is_usable := He.glo_ok X G (c.t.d.fact 19 (f := .glo "is_usable") rfl)
  d_is_usable := c.t.d.def_ 23 (d := d_is_usable) rfl
  g_used_in := He.glo_ok X G (c.t.d.fact 20 (f := .glo "used_in") rfl)
  d_used_in := c.t.d.def_ 24 (d := d_used_in) rfl
  g_used_by := He.glo_ok X G (c.t.d.fact 21 (f := .glo "used_by") rfl)
  d_used_by := c.t.d.def_ 25 (d := d_used_by) rfl
  g_check_uses := He.glo_ok X G (c.t.d.fact 22 (f := .glo "check_uses") rfl)
  d_check_uses := c.t.d.def_ 26 (d := d_check_uses) rfl
  d_Machine_init := c.t.d.def_ 27 (d := d_Machine_init) rfl
  me_Machine_look := He.meth_ok (c.t.d.fact 56 (f := .meth "Machine" "look") rfl)
  d_Machine_look := c.t.d.def_ 28 (d := d_Machine_look) rfl
  me_Machine_is_left_out := He.meth_ok (c.t.d.fact 57 (f := .meth "Machine" "is_left_out") rfl)
  d_Machine_is_left_out := c.t.d.def_ 29 (d := d_Machine_is_left_out) rfl
  me_Machine_finish := He.meth_ok (c.t.d.fact 58 (f := .meth "Machine" "finish") rfl)
  d_Machine_finish := c.t.d.def_ 30 (d := d_Machine_finish) rfl
  me_Machine_way_of := He.meth_ok (c.t.d.fact 59 (f := .meth "Machine" "way_of") rfl)
  d_Machine_way_of := c.t.d.def_ 31 (d := d_Machine_way_of) rfl
  me_Machine_fails := He.meth_ok (c.t.d.fact 60 (f := .meth "Machine" "fails") rfl)
  d_Machine_fails := c.t.d.def_ 32 (d := d_Machine_fails) rfl
  me_Machine_do_row := He.meth_ok (c.t.d.fact 61 (f := .meth "Machine" "do_row") rfl)
  d_Machine_do_row := c.t.d.def_ 33 (d := d_Machine_do_row) rfl
  me_Machine_told_lists := He.meth_ok (c.t.d.fact 62 (f := .meth "Machine" "told_lists") rfl)
  d_Machine_told_lists := c.t.d.def_ 34 (d := d_Machine_told_lists) rfl
  g_are_integers := He.glo_ok X G (c.t.d.fact 23 (f := .glo "are_integers") rfl)
  d_are_integers := c.t.d.def_ 35 (d := d_are_integers) rfl
  g_check_values := He.glo_ok X G (c.t.d.fact 24 (f := .glo "check_values") rfl)
  d_check_values := c.t.d.def_ 36 (d := d_check_values) rfl
  g_run := He.glo_ok X G (c.t.d.fact 25 (f := .glo "run") rfl)
  d_run := c.t.d.def_ 37 (d := d_run) rfl
  g__law_cell_at := He.glo_ok X G (c.t.d.fact 26 (f := .glo "_law_cell_at") rfl)
  d__law_cell_at := c.t.d.def_ 38 (d := d__law_cell_at) rfl
  g__law_well := He.glo_ok X G (c.t.d.fact 27 (f := .glo "_law_well") rfl)
  d__law_well := c.t.d.def_ 39 (d := d__law_well) rfl
  g__law_draw := He.glo_ok X G (c.t.d.fact 28 (f := .glo "_law_draw") rfl)
  d__law_draw := c.t.d.def_ 40 (d := d__law_draw) rfl
  g__law_one := He.glo_ok X G (c.t.d.fact 29 (f := .glo "_law_one") rfl)
  d__law_one := c.t.d.def_ 41 (d := d__law_one) rfl
  g__law_program := He.glo_ok X G (c.t.d.fact 30 (f := .glo "_law_program") rfl)
  d__law_program := c.t.d.def_ 42 (d := d__law_program) rfl
  g__law_sums := He.glo_ok X G (c.t.d.fact 31 (f := .glo "_law_sums") rfl)
  d__law_sums := c.t.d.def_ 43 (d := d__law_sums) rfl
  g__law_greatest := He.glo_ok X G (c.t.d.fact 32 (f := .glo "_law_greatest") rfl)
  d__law_greatest := c.t.d.def_ 44 (d := d__law_greatest) rfl
  g__law_copies := He.glo_ok X G (c.t.d.fact 33 (f := .glo "_law_copies") rfl)
  d__law_copies := c.t.d.def_ 45 (d := d__law_copies) rfl
  g__law_turns := He.glo_ok X G (c.t.d.fact 34 (f := .glo "_law_turns") rfl)
  d__law_turns := c.t.d.def_ 46 (d := d__law_turns) rfl
  g__law_copied := He.glo_ok X G (c.t.d.fact 35 (f := .glo "_law_copied") rfl)
  d__law_copied := c.t.d.def_ 47 (d := d__law_copied) rfl
  g__law_right := He.glo_ok X G (c.t.d.fact 36 (f := .glo "_law_right") rfl)
  d__law_right := c.t.d.def_ 48 (d := d__law_right) rfl
  g_law := He.glo_ok X G (c.t.d.fact 37 (f := .glo "law") rfl)
  d_law := c.t.d.def_ 49 (d := d_law) rfl
section
variable {P : PySem.Program} {w : World} {K : PySem.W.Frag} {mg : Str → Option Value} {base : Heap}
/-! is_integer -/
def N_is_integer : List Str := ["thing"]
theorem sc_is_integer : FnScope N_is_integer ["thing"] (defScope s_is_integer) := ⟨rfl, rfl, rfl, by decide +kernel, rfl, by decide +kernel, by decide +kernel⟩
def mb_is_integer : CI.Env → M Fl :=
  (msRet (mAnd (mIsi "int" (mVar 0)) (mNot (mIsi "bool" (mVar 0)))))
def m_is_integer : List AV → M AV := fnM 1 1 mb_is_integer
theorem fr_is_integer : Fd m_is_integer := fd_fn (fs_ret (fe_and (fe_isi (fe_var 0)) (fe_not (fe_isi (fe_var 0)))))
def x_is_integer (M : Md P w K mg base) : XS (ct K w) :=
  (XS.ret (XE.and (XE.isi "int" (by decide) (XE.var 0)) (XE.not (XE.isi "bool" (by decide) (XE.var 0)))))
theorem xm_is_integer (M : Md P w K mg base) : (x_is_integer M).f = mb_is_integer := rfl
theorem ok_is_integer (M : Md P w K mg base) : CK.Ok P w K mg base 1 "is_integer" ["thing"] (spI (ct K w) m_is_integer) := by
  obtain ⟨fd, F⟩ := M.d_is_integer
  refine ⟨_, fd, M.g_is_integer, F.kp, F.bindsN fun _ _ _ _ _ _ us hl => match us, hl with | [_], _ => rfl, F.ok sc_is_integer (fun vs H Q E h => fn_len (b := mb_is_integer) h) (fun cdv A outer s H vs Q E hr h => ⟨(x_is_integer M).t E, PSs.nox ?_, fn_pure (b := x_is_integer M) (N := N_is_integer) (k := 1) (by rw [xm_is_integer]; exact h)⟩)⟩
  exact (b_sone (b_ret (b_and (b_isi rfl M.f_isinstance boot_isinstance (b_var 0) rfl M.f_int boot_int) (b_one (b_not (b_isi rfl M.f_isinstance boot_isinstance (b_var 0) rfl M.f_bool boot_bool))))))
/-! is_between -/
def N_is_between : List Str := ["thing", "least", "most"]
theorem sc_is_between : FnScope N_is_between ["thing", "least", "most"] (defScope s_is_between) := ⟨rfl, rfl, rfl, by decide +kernel, rfl, by decide +kernel, by decide +kernel⟩
def mb_is_between : CI.Env → M Fl :=
  (msRet (mAnd (mCb m_is_integer (mCons (mVar 0) mNil)) (mChain gLe gLe (mVar 1) (mVar 0) (mVar 2))))
def m_is_between : List AV → M AV := fnM 3 3 mb_is_between
theorem fr_is_between : Fd m_is_between := fd_fn (fs_ret (fe_and (fe_cb fr_is_integer (fa_cons (fe_var 0) fa_nil)) (fe_chain f2_le f2_le (fe_var 1) (fe_var 0) (fe_var 2))))
def x_is_between (M : Md P w K mg base) : XS (ct K w) :=
  (XS.ret (XE.and (XE.call m_is_integer (XA.cons (XE.var 0) XA.nil)) (XE.chain s2_le s2_le (XE.var 1) (XE.var 0) (XE.var 2))))
theorem xm_is_between (M : Md P w K mg base) : (x_is_between M).f = mb_is_between := rfl
theorem ok_is_between (M : Md P w K mg base) : CK.Ok P w K mg base 2 "is_between" ["thing", "least", "most"] (spI (ct K w) m_is_between) := by
  obtain ⟨fd, F⟩ := M.d_is_between
  refine ⟨_, fd, M.g_is_between, F.kp, F.bindsN fun _ _ _ _ _ _ us hl => match us, hl with | [_, _, _], _ => rfl, F.ok sc_is_between (fun vs H Q E h => fn_len (b := mb_is_between) h) (fun cdv A outer s H vs Q E hr h => ⟨(x_is_between M).t E, PSs.nox ?_, fn_pure (b := x_is_between M) (N := N_is_between) (k := 3) (by rw [xm_is_between]; exact h)⟩)⟩
  exact (b_sone (b_ret (b_and (b_call (ok_is_integer M) (hr.mono (by decide)) rfl (b_cons (b_var 0) b_nil)) (b_one (b_chain op_le op_le (b_var 1) (b_var 0) (b_var 2))))))
/-! is_name -/
def N_is_name : List Str := ["thing", "letter"]
theorem sc_is_name : FnScope N_is_name ["thing"] (defScope s_is_name) := ⟨rfl, rfl, rfl, by decide +kernel, rfl, by decide +kernel, by decide +kernel⟩
def mb_is_name : CI.Env → M Fl :=
  (msRet (mAnd (mIsi "str" (mVar 0)) (mAnd (mChain gLe gLe (mC (.int 1)) (mCb lenM (mCons (mVar 0) mNil)) (mC (.int 8))) (mCb allM (mCons (mLc (mIt itAny (mVar 0)) (mgName 1) mYes (mOp (inM false) (mVar 1) (mC (.str "abcdefghijklmnopqrstuvwxyz"))) [1]) mNil)))))
def m_is_name : List AV → M AV := fnM 2 1 mb_is_name
theorem fr_is_name : Fd m_is_name := fd_fn (fs_ret (fe_and (fe_isi (fe_var 0)) (fe_and (fe_chain f2_le f2_le (fe_c fun _ => rfl) (fe_cb fd_len (fa_cons (fe_var 0) fa_nil)) (fe_c fun _ => rfl)) (fe_cb fd_all (fa_cons (fe_lc (fi_it it_any (fe_var 0)) (fg_name 1) ft_yes (fe_op (f2_in false) (fe_var 1) (fe_c fun _ => rfl))) fa_nil)))))
def x_is_name (M : Md P w K mg base) : XS (ct K w) :=
  (XS.ret (XE.and (XE.isi "str" (by decide) (XE.var 0)) (XE.and (XE.chain s2_le s2_le (XE.int 1) (XE.len (XA.cons (XE.var 0) XA.nil)) (XE.int 8)) (XE.all (XA.cons (XE.lc (XI.any (XE.var 0)) (XG.name 1) XT.yes (XE.in false (XE.var 1) (XE.str "abcdefghijklmnopqrstuvwxyz")) [1] (by intro i h; exact h)) XA.nil)))))
theorem xm_is_name (M : Md P w K mg base) : (x_is_name M).f = mb_is_name := rfl
theorem ok_is_name (M : Md P w K mg base) : CK.Ok P w K mg base 1 "is_name" ["thing"] (spI (ct K w) m_is_name) := by
  obtain ⟨fd, F⟩ := M.d_is_name
  refine ⟨_, fd, M.g_is_name, F.kp, F.bindsN fun _ _ _ _ _ _ us hl => match us, hl with | [_], _ => rfl, F.ok sc_is_name (fun vs H Q E h => fn_len (b := mb_is_name) h) (fun cdv A outer s H vs Q E hr h => ⟨(x_is_name M).t E, PSs.nox ?_, fn_pure (b := x_is_name M) (N := N_is_name) (k := 1) (by rw [xm_is_name]; exact h)⟩)⟩
  exact (b_sone (b_ret (b_and (b_isi rfl M.f_isinstance boot_isinstance (b_var 0) rfl M.f_str boot_str) (b_and (b_chain op_le op_le b_int (b_len  rfl M.f_len boot_len (b_cons (b_var 0) b_nil)) b_int) (b_one (b_all rfl rfl M.f_all boot_all (b_cons (b_lc [("letter", 1)] rfl sc_is_name.nd (b_iany (b_var 0)) (blkOk_by (own := [("letter", 1)]) (N := N_is_name) (sc := defScope s_is_name) (by decide +kernel)) (fun _ _ _ _ _ => (b_gname (i := 1) sc_is_name.nd rfl (.inl rfl))) (fun _ _ _ _ _ => b_tsnil) (fun _ _ _ _ _ => (b_in (CK.hu1 hr) (b_var 1) (b_gstr rfl M.s_LETTERS)))) b_nil)))))))
/-! is_free_name -/
def N_is_free_name : List Str := ["thing"]
theorem sc_is_free_name : FnScope N_is_free_name ["thing"] (defScope s_is_free_name) := ⟨rfl, rfl, rfl, by decide +kernel, rfl, by decide +kernel, by decide +kernel⟩
def mb_is_free_name : CI.Env → M Fl :=
  (msRet (mAnd (mCb m_is_name (mCons (mVar 0) mNil)) (mOp (inM true) (mVar 0) (mC k_KEPT))))
def m_is_free_name : List AV → M AV := fnM 1 1 mb_is_free_name
theorem fr_is_free_name : Fd m_is_free_name := fd_fn (fs_ret (fe_and (fe_cb fr_is_name (fa_cons (fe_var 0) fa_nil)) (fe_op (f2_in true) (fe_var 0) (fe_c fun _ => rfl))))
def x_is_free_name (M : Md P w K mg base) : XS (ct K w) :=
  (XS.ret (XE.and (XE.call m_is_name (XA.cons (XE.var 0) XA.nil)) (XE.in true (XE.var 0) (XE.cst (.ref (He.ga K "KEPT")) k_KEPT (fun μ H => .tup (M.t_KEPT H) (strs_va ks_KEPT))))))
theorem xm_is_free_name (M : Md P w K mg base) : (x_is_free_name M).f = mb_is_free_name := rfl
theorem ok_is_free_name (M : Md P w K mg base) : CK.Ok P w K mg base 2 "is_free_name" ["thing"] (spI (ct K w) m_is_free_name) := by
  obtain ⟨fd, F⟩ := M.d_is_free_name
  refine ⟨_, fd, M.g_is_free_name, F.kp, F.bindsN fun _ _ _ _ _ _ us hl => match us, hl with | [_], _ => rfl, F.ok sc_is_free_name (fun vs H Q E h => fn_len (b := mb_is_free_name) h) (fun cdv A outer s H vs Q E hr h => ⟨(x_is_free_name M).t E, PSs.nox ?_, fn_pure (b := x_is_free_name M) (N := N_is_free_name) (k := 1) (by rw [xm_is_free_name]; exact h)⟩)⟩
  exact (b_sone (b_ret (b_and (b_call (ok_is_name M) (hr.mono (by decide)) rfl (b_cons (b_var 0) b_nil)) (b_one (b_nin (CK.hu1 hr) (b_var 0) (b_gref rfl M.g_KEPT))))))
/-! is_word -/
def N_is_word : List Str := ["thing", "words"]
theorem sc_is_word : FnScope N_is_word ["thing", "words"] (defScope s_is_word) := ⟨rfl, rfl, rfl, by decide +kernel, rfl, by decide +kernel, by decide +kernel⟩
def mb_is_word : CI.Env → M Fl :=
  (msRet (mAnd (mIsi "str" (mVar 0)) (mOp (inM false) (mVar 0) (mVar 1))))
def m_is_word : List AV → M AV := fnM 2 2 mb_is_word
theorem fr_is_word : Fd m_is_word := fd_fn (fs_ret (fe_and (fe_isi (fe_var 0)) (fe_op (f2_in false) (fe_var 0) (fe_var 1))))
def x_is_word (M : Md P w K mg base) : XS (ct K w) :=
  (XS.ret (XE.and (XE.isi "str" (by decide) (XE.var 0)) (XE.in false (XE.var 0) (XE.var 1))))
theorem xm_is_word (M : Md P w K mg base) : (x_is_word M).f = mb_is_word := rfl
theorem ok_is_word (M : Md P w K mg base) : CK.Ok P w K mg base 1 "is_word" ["thing", "words"] (spI (ct K w) m_is_word) := by
  obtain ⟨fd, F⟩ := M.d_is_word
  refine ⟨_, fd, M.g_is_word, F.kp, F.bindsN fun _ _ _ _ _ _ us hl => match us, hl with | [_, _], _ => rfl, F.ok sc_is_word (fun vs H Q E h => fn_len (b := mb_is_word) h) (fun cdv A outer s H vs Q E hr h => ⟨(x_is_word M).t E, PSs.nox ?_, fn_pure (b := x_is_word M) (N := N_is_word) (k := 2) (by rw [xm_is_word]; exact h)⟩)⟩
  exact (b_sone (b_ret (b_and (b_isi rfl M.f_isinstance boot_isinstance (b_var 0) rfl M.f_str boot_str) (b_one (b_in (CK.hu1 hr) (b_var 0) (b_var 1))))))
/-! are_names -/
def N_are_names : List Str := ["thing", "most", "name"]
theorem sc_are_names : FnScope N_are_names ["thing", "most"] (defScope s_are_names) := ⟨rfl, rfl, rfl, by decide +kernel, rfl, by decide +kernel, by decide +kernel⟩
def mb_are_names : CI.Env → M Fl :=
  (msSeq (msIte (mTOr (mTNot (mTest (mIsi "tuple" (mVar 0)))) (mTOr (mTest (mOp gGt (mCb lenM (mCons (mVar 0) mNil)) (mVar 1))) (mTNot (mTest (mCb allM (mCons (mLc (mIt itAny (mVar 0)) (mgName 2) mYes (mCb m_is_free_name (mCons (mVar 2) mNil)) [2]) mNil))))))
  (msRet (mC (.bl false)))
  msNext)
  (msRet (mOp gEq (mCb lenM (mCons (mDc (mIt itAny (mVar 0)) (mgName 2) mYes (mVar 2) (mC (.bl true)) [2]) mNil)) (mCb lenM (mCons (mVar 0) mNil)))))
def m_are_names : List AV → M AV := fnM 3 2 mb_are_names
theorem fr_are_names : Fd m_are_names := fd_fn (fs_seq (fs_ite (ft_or (ft_not (ft_test (fe_isi (fe_var 0)))) (ft_or (ft_test (fe_op f2_gt (fe_cb fd_len (fa_cons (fe_var 0) fa_nil)) (fe_var 1))) (ft_not (ft_test (fe_cb fd_all (fa_cons (fe_lc (fi_it it_any (fe_var 0)) (fg_name 2) ft_yes (fe_cb fr_is_free_name (fa_cons (fe_var 2) fa_nil))) fa_nil)))))) (fs_ret (fe_c fun _ => rfl)) fs_next) (fs_ret (fe_op f2_eq (fe_cb fd_len (fa_cons (fe_dc (fi_it it_any (fe_var 0)) (fg_name 2) ft_yes (fe_var 2) (fe_c fun _ => rfl)) fa_nil)) (fe_cb fd_len (fa_cons (fe_var 0) fa_nil)))))
def x_are_names (M : Md P w K mg base) : XS (ct K w) :=
  (XS.seq (XS.ite (XT.or (XT.not (XT.ofE (XE.isi "tuple" (by decide) (XE.var 0)))) (XT.or (XT.ofE (XE.gt (XE.len (XA.cons (XE.var 0) XA.nil)) (XE.var 1))) (XT.not (XT.ofE (XE.all (XA.cons (XE.lc (XI.any (XE.var 0)) (XG.name 2) XT.yes (XE.call m_is_free_name (XA.cons (XE.var 2) XA.nil)) [2] (by intro i h; exact h)) XA.nil))))))
  (XS.ret (XE.bl false))
  XS.next)
  (XS.ret (XE.eq (XE.len (XA.cons (XE.dc (XI.any (XE.var 0)) (XG.name 2) XT.yes (XE.var 2) (XE.bl true) [2] (by intro i h; exact h)) XA.nil)) (XE.len (XA.cons (XE.var 0) XA.nil)))))
theorem xm_are_names (M : Md P w K mg base) : (x_are_names M).f = mb_are_names := rfl
theorem ok_are_names (M : Md P w K mg base) : CK.Ok P w K mg base 3 "are_names" ["thing", "most"] (spI (ct K w) m_are_names) := by
  obtain ⟨fd, F⟩ := M.d_are_names
  refine ⟨_, fd, M.g_are_names, F.kp, F.bindsN fun _ _ _ _ _ _ us hl => match us, hl with | [_, _], _ => rfl, F.ok sc_are_names (fun vs H Q E h => fn_len (b := mb_are_names) h) (fun cdv A outer s H vs Q E hr h => ⟨(x_are_names M).t E, PSs.nox ?_, fn_pure (b := x_are_names M) (N := N_are_names) (k := 2) (by rw [xm_are_names]; exact h)⟩)⟩
  exact (b_scons (b_if (b_pt (b_wor (b_tnot (b_test (b_isi rfl M.f_isinstance boot_isinstance (b_var 0) rfl M.f_tuple boot_tuple))) (b_wor (b_tgt (b_len  rfl M.f_len boot_len (b_cons (b_var 0) b_nil)) (b_var 1)) (b_wor1 (b_tnot (b_test (b_all rfl rfl M.f_all boot_all (b_cons (b_lc [("name", 2)] rfl sc_are_names.nd (b_iany (b_var 0)) (blkOk_by (own := [("name", 2)]) (N := N_are_names) (sc := defScope s_are_names) (by decide +kernel)) (fun _ _ _ _ _ => (b_gname (i := 2) sc_are_names.nd rfl (.inl rfl))) (fun _ _ _ _ _ => b_tsnil) (fun _ _ _ _ _ => (b_call (ok_is_free_name M) (hr.mono (by decide)) rfl (b_cons (b_var 2) b_nil)))) b_nil))))))))
  (b_sone (b_ret b_bl))
  b_snil)
  (b_sone (b_ret (b_eq (CK.hu64 hr) (b_len  rfl M.f_len boot_len (b_cons (b_dc [("name", 2)] rfl sc_are_names.nd (b_iany (b_var 0)) (blkOk_by (own := [("name", 2)]) (N := N_are_names) (sc := defScope s_are_names) (by decide +kernel)) (fun _ _ _ _ _ => (b_gname (i := 2) sc_are_names.nd rfl (.inl rfl))) (fun _ _ _ _ _ => b_tsnil) (fun _ _ _ _ _ => (b_var 2)) (fun _ _ _ _ _ => b_bl)) b_nil)) (b_len  rfl M.f_len boot_len (b_cons (b_var 0) b_nil))))))
/-! check_parameters -/
def N_check_parameters : List Str := ["lists", "numbers", "name"]
theorem sc_check_parameters : FnScope N_check_parameters ["lists", "numbers"] (defScope s_check_parameters) := ⟨rfl, rfl, rfl, by decide +kernel, rfl, by decide +kernel, by decide +kernel⟩
def mb_check_parameters : CI.Env → M Fl :=
  (msSeq (msIte (mTNot (mTest (mCb m_are_names (mCons (mVar 0) (mCons (mC (.int 2)) mNil)))))
  msNever
  msNext)
  (msIte (mTOr (mTNot (mTest (mCb m_are_names (mCons (mVar 1) (mCons (mC (.int 2)) mNil))))) (mTest (mCb anyM (mCons (mLc (mIt itAny (mVar 1)) (mgName 2) mYes (mOp (inM false) (mVar 2) (mVar 0)) [2]) mNil))))
  msNever
  msNext))
def m_check_parameters : List AV → M AV := fnM 3 2 mb_check_parameters
theorem fr_check_parameters : Fd m_check_parameters := fd_fn (fs_seq (fs_ite (ft_not (ft_test (fe_cb fr_are_names (fa_cons (fe_var 0) (fa_cons (fe_c fun _ => rfl) fa_nil))))) fs_never fs_next) (fs_ite (ft_or (ft_not (ft_test (fe_cb fr_are_names (fa_cons (fe_var 1) (fa_cons (fe_c fun _ => rfl) fa_nil))))) (ft_test (fe_cb fd_any (fa_cons (fe_lc (fi_it it_any (fe_var 1)) (fg_name 2) ft_yes (fe_op (f2_in false) (fe_var 2) (fe_var 0))) fa_nil)))) fs_never fs_next))
def x_check_parameters (M : Md P w K mg base) : XS (ct K w) :=
  (XS.seq (XS.ite (XT.not (XT.ofE (XE.call m_are_names (XA.cons (XE.var 0) (XA.cons (XE.int 2) XA.nil)))))
  XS.never
  XS.next)
  (XS.ite (XT.or (XT.not (XT.ofE (XE.call m_are_names (XA.cons (XE.var 1) (XA.cons (XE.int 2) XA.nil))))) (XT.ofE (XE.any (XA.cons (XE.lc (XI.any (XE.var 1)) (XG.name 2) XT.yes (XE.in false (XE.var 2) (XE.var 0)) [2] (by intro i h; exact h)) XA.nil))))
  XS.never
  XS.next))
theorem xm_check_parameters (M : Md P w K mg base) : (x_check_parameters M).f = mb_check_parameters := rfl
theorem ok_check_parameters (M : Md P w K mg base) : CK.Ok P w K mg base 4 "check_parameters" ["lists", "numbers"] (spI (ct K w) m_check_parameters) := by
  obtain ⟨fd, F⟩ := M.d_check_parameters
  refine ⟨_, fd, M.g_check_parameters, F.kp, F.bindsN fun _ _ _ _ _ _ us hl => match us, hl with | [_, _], _ => rfl, F.ok sc_check_parameters (fun vs H Q E h => fn_len (b := mb_check_parameters) h) (fun cdv A outer s H vs Q E hr h => ⟨(x_check_parameters M).t E, PSs.nox ?_, fn_pure (b := x_check_parameters M) (N := N_check_parameters) (k := 2) (by rw [xm_check_parameters]; exact h)⟩)⟩
  exact (b_scons (b_if (b_tnot (b_test (b_call (ok_are_names M) (hr.mono (by decide)) rfl (b_cons (b_var 0) (b_cons b_int b_nil)))))
  (b_sone b_never)
  b_snil)
  (b_sone (b_if (b_pt (b_wor (b_tnot (b_test (b_call (ok_are_names M) (hr.mono (by decide)) rfl (b_cons (b_var 1) (b_cons b_int b_nil))))) (b_wor1 (b_test (b_any rfl rfl M.f_any boot_any (b_cons (b_lc [("name", 2)] rfl sc_check_parameters.nd (b_iany (b_var 1)) (blkOk_by (own := [("name", 2)]) (N := N_check_parameters) (sc := defScope s_check_parameters) (by decide +kernel)) (fun _ _ _ _ _ => (b_gname (i := 2) sc_check_parameters.nd rfl (.inl rfl))) (fun _ _ _ _ _ => b_tsnil) (fun _ _ _ _ _ => (b_in (CK.hu1 hr) (b_var 2) (b_var 0)))) b_nil))))))
  (b_sone b_never)
  b_snil)))
/-! are_blocks -/
def N_are_blocks : List Str := ["thing", "block"]
theorem sc_are_blocks : FnScope N_are_blocks ["thing"] (defScope s_are_blocks) := ⟨rfl, rfl, rfl, by decide +kernel, rfl, by decide +kernel, by decide +kernel⟩
def mb_are_blocks : CI.Env → M Fl :=
  (msSeq (msIte (mTOr (mTNot (mTest (mIsi "tuple" (mVar 0)))) (mTNot (mTest (mChain gLe gLe (mC (.int 1)) (mCb lenM (mCons (mVar 0) mNil)) (mC (.int 6))))))
  (msRet (mC (.bl false)))
  msNext)
  (msSeq (msIte (mTNot (mTest (mCb allM (mCons (mLc (mIt itAny (mVar 0)) (mgName 1) mYes (mAnd (mIsi "tuple" (mVar 1)) (mAnd (mOp gEq (mCb lenM (mCons (mVar 1) mNil)) (mC (.int 4))) (mCb m_is_name (mCons (mOp ixM (mVar 1) (mC (.int 0))) mNil)))) [1]) mNil))))
  (msRet (mC (.bl false)))
  msNext)
  (msRet (mOp gEq (mCb lenM (mCons (mDc (mIt itAny (mVar 0)) (mgName 1) mYes (mOp ixM (mVar 1) (mC (.int 0))) (mC (.bl true)) [1]) mNil)) (mCb lenM (mCons (mVar 0) mNil))))))
def m_are_blocks : List AV → M AV := fnM 2 1 mb_are_blocks
theorem fr_are_blocks : Fd m_are_blocks := fd_fn (fs_seq (fs_ite (ft_or (ft_not (ft_test (fe_isi (fe_var 0)))) (ft_not (ft_test (fe_chain f2_le f2_le (fe_c fun _ => rfl) (fe_cb fd_len (fa_cons (fe_var 0) fa_nil)) (fe_c fun _ => rfl))))) (fs_ret (fe_c fun _ => rfl)) fs_next) (fs_seq (fs_ite (ft_not (ft_test (fe_cb fd_all (fa_cons (fe_lc (fi_it it_any (fe_var 0)) (fg_name 1) ft_yes (fe_and (fe_isi (fe_var 1)) (fe_and (fe_op f2_eq (fe_cb fd_len (fa_cons (fe_var 1) fa_nil)) (fe_c fun _ => rfl)) (fe_cb fr_is_name (fa_cons (fe_op f2_ix (fe_var 1) (fe_c fun _ => rfl)) fa_nil))))) fa_nil)))) (fs_ret (fe_c fun _ => rfl)) fs_next) (fs_ret (fe_op f2_eq (fe_cb fd_len (fa_cons (fe_dc (fi_it it_any (fe_var 0)) (fg_name 1) ft_yes (fe_op f2_ix (fe_var 1) (fe_c fun _ => rfl)) (fe_c fun _ => rfl)) fa_nil)) (fe_cb fd_len (fa_cons (fe_var 0) fa_nil))))))
def x_are_blocks (M : Md P w K mg base) : XS (ct K w) :=
  (XS.seq (XS.ite (XT.or (XT.not (XT.ofE (XE.isi "tuple" (by decide) (XE.var 0)))) (XT.not (XT.ofE (XE.chain s2_le s2_le (XE.int 1) (XE.len (XA.cons (XE.var 0) XA.nil)) (XE.int 6)))))
  (XS.ret (XE.bl false))
  XS.next)
  (XS.seq (XS.ite (XT.not (XT.ofE (XE.all (XA.cons (XE.lc (XI.any (XE.var 0)) (XG.name 1) XT.yes (XE.and (XE.isi "tuple" (by decide) (XE.var 1)) (XE.and (XE.eq (XE.len (XA.cons (XE.var 1) XA.nil)) (XE.int 4)) (XE.call m_is_name (XA.cons (XE.ix (XE.var 1) (XE.int 0)) XA.nil)))) [1] (by intro i h; exact h)) XA.nil))))
  (XS.ret (XE.bl false))
  XS.next)
  (XS.ret (XE.eq (XE.len (XA.cons (XE.dc (XI.any (XE.var 0)) (XG.name 1) XT.yes (XE.ix (XE.var 1) (XE.int 0)) (XE.bl true) [1] (by intro i h; exact h)) XA.nil)) (XE.len (XA.cons (XE.var 0) XA.nil))))))
theorem xm_are_blocks (M : Md P w K mg base) : (x_are_blocks M).f = mb_are_blocks := rfl
theorem ok_are_blocks (M : Md P w K mg base) : CK.Ok P w K mg base 2 "are_blocks" ["thing"] (spI (ct K w) m_are_blocks) := by
  obtain ⟨fd, F⟩ := M.d_are_blocks
  refine ⟨_, fd, M.g_are_blocks, F.kp, F.bindsN fun _ _ _ _ _ _ us hl => match us, hl with | [_], _ => rfl, F.ok sc_are_blocks (fun vs H Q E h => fn_len (b := mb_are_blocks) h) (fun cdv A outer s H vs Q E hr h => ⟨(x_are_blocks M).t E, PSs.nox ?_, fn_pure (b := x_are_blocks M) (N := N_are_blocks) (k := 1) (by rw [xm_are_blocks]; exact h)⟩)⟩
  exact (b_scons (b_if (b_pt (b_wor (b_tnot (b_test (b_isi rfl M.f_isinstance boot_isinstance (b_var 0) rfl M.f_tuple boot_tuple))) (b_wor1 (b_tnot (b_tchain op_le op_le b_int (b_len  rfl M.f_len boot_len (b_cons (b_var 0) b_nil)) (b_gint rfl M.i_MOST_BLOCKS))))))
  (b_sone (b_ret b_bl))
  b_snil)
  (b_scons (b_if (b_tnot (b_test (b_all rfl rfl M.f_all boot_all (b_cons (b_lc [("block", 1)] rfl sc_are_blocks.nd (b_iany (b_var 0)) (blkOk_by (own := [("block", 1)]) (N := N_are_blocks) (sc := defScope s_are_blocks) (by decide +kernel)) (fun _ _ _ _ _ => (b_gname (i := 1) sc_are_blocks.nd rfl (.inl rfl))) (fun _ _ _ _ _ => b_tsnil) (fun _ _ _ _ _ => (b_and (b_isi rfl M.f_isinstance boot_isinstance (b_var 1) rfl M.f_tuple boot_tuple) (b_and (b_eq (CK.hu64 hr) (b_len  rfl M.f_len boot_len (b_cons (b_var 1) b_nil)) b_int) (b_one (b_call (ok_is_name M) (hr.mono (by decide)) rfl (b_cons (b_ix (CK.hu1 hr) (b_var 1) b_int) b_nil))))))) b_nil))))
  (b_sone (b_ret b_bl))
  b_snil)
  (b_sone (b_ret (b_eq (CK.hu64 hr) (b_len  rfl M.f_len boot_len (b_cons (b_dc [("block", 1)] rfl sc_are_blocks.nd (b_iany (b_var 0)) (blkOk_by (own := [("block", 1)]) (N := N_are_blocks) (sc := defScope s_are_blocks) (by decide +kernel)) (fun _ _ _ _ _ => (b_gname (i := 1) sc_are_blocks.nd rfl (.inl rfl))) (fun _ _ _ _ _ => b_tsnil) (fun _ _ _ _ _ => (b_ix (CK.hu1 hr) (b_var 1) b_int)) (fun _ _ _ _ _ => b_bl)) b_nil)) (b_len  rfl M.f_len boot_len (b_cons (b_var 0) b_nil)))))))
/-! is_giving -/
def N_is_giving : List Str := ["row"]
theorem sc_is_giving : FnScope N_is_giving ["row"] (defScope s_is_giving) := ⟨rfl, rfl, rfl, by decide +kernel, rfl, by decide +kernel, by decide +kernel⟩
def mb_is_giving : CI.Env → M Fl :=
  (msRet (mOp gEq (mOp ixM (mOp ixM (mC (.wd es_FORMS)) (mOp ixM (mVar 0) (mC (.int 0)))) (mC (.int 0))) (mC (.str "g"))))
def m_is_giving : List AV → M AV := fnM 1 1 mb_is_giving
theorem fr_is_giving : Fd m_is_giving := fd_fn (fs_ret (fe_op f2_eq (fe_op f2_ix (fe_op f2_ix (fe_c fun _ => rfl) (fe_op f2_ix (fe_var 0) (fe_c fun _ => rfl))) (fe_c fun _ => rfl)) (fe_c fun _ => rfl)))
def x_is_giving (M : Md P w K mg base) : XS (ct K w) :=
  (XS.ret (XE.eq (XE.ix (XE.ix (XE.cst (.ref (He.ga K "FORMS")) (.wd es_FORMS) (fun _ _ => .wd M.w_FORMS)) (XE.ix (XE.var 0) (XE.int 0))) (XE.int 0)) (XE.str "g")))
theorem xm_is_giving (M : Md P w K mg base) : (x_is_giving M).f = mb_is_giving := rfl
theorem ok_is_giving (M : Md P w K mg base) : CK.Ok P w K mg base 1 "is_giving" ["row"] (spI (ct K w) m_is_giving) := by
  obtain ⟨fd, F⟩ := M.d_is_giving
  refine ⟨_, fd, M.g_is_giving, F.kp, F.bindsN fun _ _ _ _ _ _ us hl => match us, hl with | [_], _ => rfl, F.ok sc_is_giving (fun vs H Q E h => fn_len (b := mb_is_giving) h) (fun cdv A outer s H vs Q E hr h => ⟨(x_is_giving M).t E, PSs.nox ?_, fn_pure (b := x_is_giving M) (N := N_is_giving) (k := 1) (by rw [xm_is_giving]; exact h)⟩)⟩
  exact (b_sone (b_ret (b_eq (CK.hu64 hr) (b_ix (CK.hu1 hr) (b_ix (CK.hu1 hr) (b_gref rfl M.g_FORMS) (b_ix (CK.hu1 hr) (b_var 0) b_int)) b_int) b_str)))
/-! are_used -/
def N_are_used : List Str := ["thing", "name"]
theorem sc_are_used : FnScope N_are_used ["thing"] (defScope s_are_used) := ⟨rfl, rfl, rfl, by decide +kernel, rfl, by decide +kernel, by decide +kernel⟩
def mb_are_used : CI.Env → M Fl :=
  (msRet (mAnd (mIsi "tuple" (mVar 0)) (mCb allM (mCons (mLc (mIt itAny (mVar 0)) (mgName 1) mYes (mCb m_is_name (mCons (mVar 1) mNil)) [1]) mNil))))
def m_are_used : List AV → M AV := fnM 2 1 mb_are_used
theorem fr_are_used : Fd m_are_used := fd_fn (fs_ret (fe_and (fe_isi (fe_var 0)) (fe_cb fd_all (fa_cons (fe_lc (fi_it it_any (fe_var 0)) (fg_name 1) ft_yes (fe_cb fr_is_name (fa_cons (fe_var 1) fa_nil))) fa_nil))))
def x_are_used (M : Md P w K mg base) : XS (ct K w) :=
  (XS.ret (XE.and (XE.isi "tuple" (by decide) (XE.var 0)) (XE.all (XA.cons (XE.lc (XI.any (XE.var 0)) (XG.name 1) XT.yes (XE.call m_is_name (XA.cons (XE.var 1) XA.nil)) [1] (by intro i h; exact h)) XA.nil))))
theorem xm_are_used (M : Md P w K mg base) : (x_are_used M).f = mb_are_used := rfl
theorem ok_are_used (M : Md P w K mg base) : CK.Ok P w K mg base 2 "are_used" ["thing"] (spI (ct K w) m_are_used) := by
  obtain ⟨fd, F⟩ := M.d_are_used
  refine ⟨_, fd, M.g_are_used, F.kp, F.bindsN fun _ _ _ _ _ _ us hl => match us, hl with | [_], _ => rfl, F.ok sc_are_used (fun vs H Q E h => fn_len (b := mb_are_used) h) (fun cdv A outer s H vs Q E hr h => ⟨(x_are_used M).t E, PSs.nox ?_, fn_pure (b := x_are_used M) (N := N_are_used) (k := 1) (by rw [xm_are_used]; exact h)⟩)⟩
  exact (b_sone (b_ret (b_and (b_isi rfl M.f_isinstance boot_isinstance (b_var 0) rfl M.f_tuple boot_tuple) (b_one (b_all rfl rfl M.f_all boot_all (b_cons (b_lc [("name", 1)] rfl sc_are_used.nd (b_iany (b_var 0)) (blkOk_by (own := [("name", 1)]) (N := N_are_used) (sc := defScope s_are_used) (by decide +kernel)) (fun _ _ _ _ _ => (b_gname (i := 1) sc_are_used.nd rfl (.inl rfl))) (fun _ _ _ _ _ => b_tsnil) (fun _ _ _ _ _ => (b_call (ok_is_name M) (hr.mono (by decide)) rfl (b_cons (b_var 1) b_nil)))) b_nil))))))
/-! is_end -/
def N_is_end : List Str := ["end", "at"]
theorem sc_is_end : FnScope N_is_end ["end"] (defScope s_is_end) := ⟨rfl, rfl, rfl, by decide +kernel, rfl, by decide +kernel, by decide +kernel⟩
def mb_is_end : CI.Env → M Fl :=
  (msSeq (msIte (mTOr (mTNot (mTest (mIsi "tuple" (mVar 0)))) (mTest (mOp gEq (mVar 0) (mTup mNil))))
  (msRet (mC (.bl false)))
  msNext)
  (msSeq (msIte (mTest (mCb m_is_word (mCons (mOp ixM (mVar 0) (mC (.int 0))) (mCons (mTup (mCons (mC (.str "go")) mNil)) mNil))))
  (msRet (mAnd (mOp gEq (mCb lenM (mCons (mVar 0) mNil)) (mC (.int 3))) (mAnd (mCb m_is_name (mCons (mOp ixM (mVar 0) (mC (.int 1))) mNil)) (mCb m_are_used (mCons (mOp ixM (mVar 0) (mC (.int 2))) mNil)))))
  msNext)
  (msSeq (msIte (mTest (mCb m_is_word (mCons (mOp ixM (mVar 0) (mC (.int 0))) (mCons (mTup (mCons (mC (.str "return")) mNil)) mNil))))
  (msRet (mAnd (mOp gEq (mCb lenM (mCons (mVar 0) mNil)) (mC (.int 2))) (mCb m_is_name (mCons (mOp ixM (mVar 0) (mC (.int 1))) mNil))))
  msNext)
  (msSeq (msIte (mTOr (mTNot (mTest (mCb m_is_word (mCons (mOp ixM (mVar 0) (mC (.int 0))) (mCons (mTup (mCons (mC (.str "less")) mNil)) mNil))))) (mTOr (mTest (mOp gNe (mCb lenM (mCons (mVar 0) mNil)) (mC (.int 7)))) (mTNot (mTest (mCb allM (mCons (mLc (mIt itAny (mTup (mCons (mC (.int 1)) (mCons (mC (.int 2)) (mCons (mC (.int 3)) (mCons (mC (.int 5)) mNil)))))) (mgName 1) mYes (mCb m_is_name (mCons (mOp ixM (mVar 0) (mVar 1)) mNil)) [1]) mNil))))))
  (msRet (mC (.bl false)))
  msNext)
  (msRet (mAnd (mCb m_are_used (mCons (mOp ixM (mVar 0) (mC (.int 4))) mNil)) (mCb m_are_used (mCons (mOp ixM (mVar 0) (mC (.int 6))) mNil))))))))
def m_is_end : List AV → M AV := fnM 2 1 mb_is_end
theorem fr_is_end : Fd m_is_end := fd_fn (fs_seq (fs_ite (ft_or (ft_not (ft_test (fe_isi (fe_var 0)))) (ft_test (fe_op f2_eq (fe_var 0) (fe_tup fa_nil)))) (fs_ret (fe_c fun _ => rfl)) fs_next) (fs_seq (fs_ite (ft_test (fe_cb fr_is_word (fa_cons (fe_op f2_ix (fe_var 0) (fe_c fun _ => rfl)) (fa_cons (fe_tup (fa_cons (fe_c fun _ => rfl) fa_nil)) fa_nil)))) (fs_ret (fe_and (fe_op f2_eq (fe_cb fd_len (fa_cons (fe_var 0) fa_nil)) (fe_c fun _ => rfl)) (fe_and (fe_cb fr_is_name (fa_cons (fe_op f2_ix (fe_var 0) (fe_c fun _ => rfl)) fa_nil)) (fe_cb fr_are_used (fa_cons (fe_op f2_ix (fe_var 0) (fe_c fun _ => rfl)) fa_nil))))) fs_next) (fs_seq (fs_ite (ft_test (fe_cb fr_is_word (fa_cons (fe_op f2_ix (fe_var 0) (fe_c fun _ => rfl)) (fa_cons (fe_tup (fa_cons (fe_c fun _ => rfl) fa_nil)) fa_nil)))) (fs_ret (fe_and (fe_op f2_eq (fe_cb fd_len (fa_cons (fe_var 0) fa_nil)) (fe_c fun _ => rfl)) (fe_cb fr_is_name (fa_cons (fe_op f2_ix (fe_var 0) (fe_c fun _ => rfl)) fa_nil)))) fs_next) (fs_seq (fs_ite (ft_or (ft_not (ft_test (fe_cb fr_is_word (fa_cons (fe_op f2_ix (fe_var 0) (fe_c fun _ => rfl)) (fa_cons (fe_tup (fa_cons (fe_c fun _ => rfl) fa_nil)) fa_nil))))) (ft_or (ft_test (fe_op f2_ne (fe_cb fd_len (fa_cons (fe_var 0) fa_nil)) (fe_c fun _ => rfl))) (ft_not (ft_test (fe_cb fd_all (fa_cons (fe_lc (fi_it it_any (fe_tup (fa_cons (fe_c fun _ => rfl) (fa_cons (fe_c fun _ => rfl) (fa_cons (fe_c fun _ => rfl) (fa_cons (fe_c fun _ => rfl) fa_nil)))))) (fg_name 1) ft_yes (fe_cb fr_is_name (fa_cons (fe_op f2_ix (fe_var 0) (fe_var 1)) fa_nil))) fa_nil)))))) (fs_ret (fe_c fun _ => rfl)) fs_next) (fs_ret (fe_and (fe_cb fr_are_used (fa_cons (fe_op f2_ix (fe_var 0) (fe_c fun _ => rfl)) fa_nil)) (fe_cb fr_are_used (fa_cons (fe_op f2_ix (fe_var 0) (fe_c fun _ => rfl)) fa_nil))))))))
def x_is_end (M : Md P w K mg base) : XS (ct K w) :=
  (XS.seq (XS.ite (XT.or (XT.not (XT.ofE (XE.isi "tuple" (by decide) (XE.var 0)))) (XT.ofE (XE.eq (XE.var 0) (XE.tup XA.nil))))
  (XS.ret (XE.bl false))
  XS.next)
  (XS.seq (XS.ite (XT.ofE (XE.call m_is_word (XA.cons (XE.ix (XE.var 0) (XE.int 0)) (XA.cons (XE.tup (XA.cons (XE.str "go") XA.nil)) XA.nil))))
  (XS.ret (XE.and (XE.eq (XE.len (XA.cons (XE.var 0) XA.nil)) (XE.int 3)) (XE.and (XE.call m_is_name (XA.cons (XE.ix (XE.var 0) (XE.int 1)) XA.nil)) (XE.call m_are_used (XA.cons (XE.ix (XE.var 0) (XE.int 2)) XA.nil)))))
  XS.next)
  (XS.seq (XS.ite (XT.ofE (XE.call m_is_word (XA.cons (XE.ix (XE.var 0) (XE.int 0)) (XA.cons (XE.tup (XA.cons (XE.str "return") XA.nil)) XA.nil))))
  (XS.ret (XE.and (XE.eq (XE.len (XA.cons (XE.var 0) XA.nil)) (XE.int 2)) (XE.call m_is_name (XA.cons (XE.ix (XE.var 0) (XE.int 1)) XA.nil))))
  XS.next)
  (XS.seq (XS.ite (XT.or (XT.not (XT.ofE (XE.call m_is_word (XA.cons (XE.ix (XE.var 0) (XE.int 0)) (XA.cons (XE.tup (XA.cons (XE.str "less") XA.nil)) XA.nil))))) (XT.or (XT.ofE (XE.ne (XE.len (XA.cons (XE.var 0) XA.nil)) (XE.int 7))) (XT.not (XT.ofE (XE.all (XA.cons (XE.lc (XI.any (XE.tup (XA.cons (XE.int 1) (XA.cons (XE.int 2) (XA.cons (XE.int 3) (XA.cons (XE.int 5) XA.nil)))))) (XG.name 1) XT.yes (XE.call m_is_name (XA.cons (XE.ix (XE.var 0) (XE.var 1)) XA.nil)) [1] (by intro i h; exact h)) XA.nil))))))
  (XS.ret (XE.bl false))
  XS.next)
  (XS.ret (XE.and (XE.call m_are_used (XA.cons (XE.ix (XE.var 0) (XE.int 4)) XA.nil)) (XE.call m_are_used (XA.cons (XE.ix (XE.var 0) (XE.int 6)) XA.nil))))))))
theorem xm_is_end (M : Md P w K mg base) : (x_is_end M).f = mb_is_end := rfl
theorem ok_is_end (M : Md P w K mg base) : CK.Ok P w K mg base 3 "is_end" ["end"] (spI (ct K w) m_is_end) := by
  obtain ⟨fd, F⟩ := M.d_is_end
  refine ⟨_, fd, M.g_is_end, F.kp, F.bindsN fun _ _ _ _ _ _ us hl => match us, hl with | [_], _ => rfl, F.ok sc_is_end (fun vs H Q E h => fn_len (b := mb_is_end) h) (fun cdv A outer s H vs Q E hr h => ⟨(x_is_end M).t E, PSs.nox ?_, fn_pure (b := x_is_end M) (N := N_is_end) (k := 1) (by rw [xm_is_end]; exact h)⟩)⟩
  exact (b_scons (b_if (b_pt (b_wor (b_tnot (b_test (b_isi rfl M.f_isinstance boot_isinstance (b_var 0) rfl M.f_tuple boot_tuple))) (b_wor1 (b_teq (CK.hu64 hr) (b_var 0) (b_tup b_nil)))))
  (b_sone (b_ret b_bl))
  b_snil)
  (b_scons (b_if (b_test (b_call (ok_is_word M) (hr.mono (by decide)) rfl (b_cons (b_ix (CK.hu1 hr) (b_var 0) b_int) (b_cons (b_tup (b_cons b_str b_nil)) b_nil))))
  (b_sone (b_ret (b_and (b_eq (CK.hu64 hr) (b_len  rfl M.f_len boot_len (b_cons (b_var 0) b_nil)) b_int) (b_and (b_call (ok_is_name M) (hr.mono (by decide)) rfl (b_cons (b_ix (CK.hu1 hr) (b_var 0) b_int) b_nil)) (b_one (b_call (ok_are_used M) (hr.mono (by decide)) rfl (b_cons (b_ix (CK.hu1 hr) (b_var 0) b_int) b_nil)))))))
  b_snil)
  (b_scons (b_if (b_test (b_call (ok_is_word M) (hr.mono (by decide)) rfl (b_cons (b_ix (CK.hu1 hr) (b_var 0) b_int) (b_cons (b_tup (b_cons b_str b_nil)) b_nil))))
  (b_sone (b_ret (b_and (b_eq (CK.hu64 hr) (b_len  rfl M.f_len boot_len (b_cons (b_var 0) b_nil)) b_int) (b_one (b_call (ok_is_name M) (hr.mono (by decide)) rfl (b_cons (b_ix (CK.hu1 hr) (b_var 0) b_int) b_nil))))))
  b_snil)
  (b_scons (b_if (b_pt (b_wor (b_tnot (b_test (b_call (ok_is_word M) (hr.mono (by decide)) rfl (b_cons (b_ix (CK.hu1 hr) (b_var 0) b_int) (b_cons (b_tup (b_cons b_str b_nil)) b_nil))))) (b_wor (b_tne (CK.hu64 hr) (b_len  rfl M.f_len boot_len (b_cons (b_var 0) b_nil)) b_int) (b_wor1 (b_tnot (b_test (b_all rfl rfl M.f_all boot_all (b_cons (b_lc [("at", 1)] rfl sc_is_end.nd (b_iany (b_tup (b_cons b_int (b_cons b_int (b_cons b_int (b_cons b_int b_nil)))))) (blkOk_by (own := [("at", 1)]) (N := N_is_end) (sc := defScope s_is_end) (by decide +kernel)) (fun _ _ _ _ _ => (b_gname (i := 1) sc_is_end.nd rfl (.inl rfl))) (fun _ _ _ _ _ => b_tsnil) (fun _ _ _ _ _ => (b_call (ok_is_name M) (hr.mono (by decide)) rfl (b_cons (b_ix (CK.hu1 hr) (b_var 0) (b_var 1)) b_nil)))) b_nil))))))))
  (b_sone (b_ret b_bl))
  b_snil)
  (b_sone (b_ret (b_and (b_call (ok_are_used M) (hr.mono (by decide)) rfl (b_cons (b_ix (CK.hu1 hr) (b_var 0) b_int) b_nil)) (b_one (b_call (ok_are_used M) (hr.mono (by decide)) rfl (b_cons (b_ix (CK.hu1 hr) (b_var 0) b_int) b_nil))))))))))
/-! is_item -/
def N_is_item : List Str := ["thing", "letter", "lists"]
theorem sc_is_item : FnScope N_is_item ["thing", "letter", "lists"] (defScope s_is_item) := ⟨rfl, rfl, rfl, by decide +kernel, rfl, by decide +kernel, by decide +kernel⟩
def mb_is_item : CI.Env → M Fl :=
  (msSeq (msIte (mTest (mOp gEq (mVar 1) (mC (.str "g"))))
  (msRet (mCb m_is_free_name (mCons (mVar 0) mNil)))
  msNext)
  (msSeq (msIte (mTest (mOp gEq (mVar 1) (mC (.str "u"))))
  (msRet (mCb m_is_name (mCons (mVar 0) mNil)))
  msNext)
  (msSeq (msIte (mTest (mOp gEq (mVar 1) (mC (.str "l"))))
  (msRet (mAnd (mCb m_is_name (mCons (mVar 0) mNil)) (mOp (inM false) (mVar 0) (mVar 2))))
  msNext)
  (msRet (mCb m_is_between (mCons (mVar 0) (mCons (mNeg (mC (.int 8))) (mCons (mC (.int 8)) mNil))))))))
def m_is_item : List AV → M AV := fnM 3 3 mb_is_item
theorem fr_is_item : Fd m_is_item := fd_fn (fs_seq (fs_ite (ft_test (fe_op f2_eq (fe_var 1) (fe_c fun _ => rfl))) (fs_ret (fe_cb fr_is_free_name (fa_cons (fe_var 0) fa_nil))) fs_next) (fs_seq (fs_ite (ft_test (fe_op f2_eq (fe_var 1) (fe_c fun _ => rfl))) (fs_ret (fe_cb fr_is_name (fa_cons (fe_var 0) fa_nil))) fs_next) (fs_seq (fs_ite (ft_test (fe_op f2_eq (fe_var 1) (fe_c fun _ => rfl))) (fs_ret (fe_and (fe_cb fr_is_name (fa_cons (fe_var 0) fa_nil)) (fe_op (f2_in false) (fe_var 0) (fe_var 2)))) fs_next) (fs_ret (fe_cb fr_is_between (fa_cons (fe_var 0) (fa_cons (fe_neg (fe_c fun _ => rfl)) (fa_cons (fe_c fun _ => rfl) fa_nil))))))))
def x_is_item (M : Md P w K mg base) : XS (ct K w) :=
  (XS.seq (XS.ite (XT.ofE (XE.eq (XE.var 1) (XE.str "g")))
  (XS.ret (XE.call m_is_free_name (XA.cons (XE.var 0) XA.nil)))
  XS.next)
  (XS.seq (XS.ite (XT.ofE (XE.eq (XE.var 1) (XE.str "u")))
  (XS.ret (XE.call m_is_name (XA.cons (XE.var 0) XA.nil)))
  XS.next)
  (XS.seq (XS.ite (XT.ofE (XE.eq (XE.var 1) (XE.str "l")))
  (XS.ret (XE.and (XE.call m_is_name (XA.cons (XE.var 0) XA.nil)) (XE.in false (XE.var 0) (XE.var 2))))
  XS.next)
  (XS.ret (XE.call m_is_between (XA.cons (XE.var 0) (XA.cons (XE.neg (XE.int 8)) (XA.cons (XE.int 8) XA.nil))))))))
theorem xm_is_item (M : Md P w K mg base) : (x_is_item M).f = mb_is_item := rfl
theorem ok_is_item (M : Md P w K mg base) : CK.Ok P w K mg base 3 "is_item" ["thing", "letter", "lists"] (spI (ct K w) m_is_item) := by
  obtain ⟨fd, F⟩ := M.d_is_item
  refine ⟨_, fd, M.g_is_item, F.kp, F.bindsN fun _ _ _ _ _ _ us hl => match us, hl with | [_, _, _], _ => rfl, F.ok sc_is_item (fun vs H Q E h => fn_len (b := mb_is_item) h) (fun cdv A outer s H vs Q E hr h => ⟨(x_is_item M).t E, PSs.nox ?_, fn_pure (b := x_is_item M) (N := N_is_item) (k := 3) (by rw [xm_is_item]; exact h)⟩)⟩
  exact (b_scons (b_if (b_teq (CK.hu64 hr) (b_var 1) b_str)
  (b_sone (b_ret (b_call (ok_is_free_name M) (hr.mono (by decide)) rfl (b_cons (b_var 0) b_nil))))
  b_snil)
  (b_scons (b_if (b_teq (CK.hu64 hr) (b_var 1) b_str)
  (b_sone (b_ret (b_call (ok_is_name M) (hr.mono (by decide)) rfl (b_cons (b_var 0) b_nil))))
  b_snil)
  (b_scons (b_if (b_teq (CK.hu64 hr) (b_var 1) b_str)
  (b_sone (b_ret (b_and (b_call (ok_is_name M) (hr.mono (by decide)) rfl (b_cons (b_var 0) b_nil)) (b_one (b_in (CK.hu1 hr) (b_var 0) (b_var 2))))))
  b_snil)
  (b_sone (b_ret (b_call (ok_is_between M) (hr.mono (by decide)) rfl (b_cons (b_var 0) (b_cons (b_neg (b_gint rfl M.i_GREATEST)) (b_cons (b_gint rfl M.i_GREATEST) b_nil)))))))))
/-! is_row -/
def N_is_row : List Str := ["row", "lists", "form", "thing", "letter"]
theorem sc_is_row : FnScope N_is_row ["row", "lists"] (defScope s_is_row) := ⟨rfl, rfl, rfl, by decide +kernel, rfl, by decide +kernel, by decide +kernel⟩
def mb_is_row : CI.Env → M Fl :=
  (msSeq (msIte (mTOr (mTNot (mTest (mIsi "tuple" (mVar 0)))) (mTOr (mTest (mOp gEq (mVar 0) (mTup mNil))) (mTNot (mTest (mCb m_is_word (mCons (mOp ixM (mVar 0) (mC (.int 0))) (mCons (mC (.tup ((es_FORMS.map (·.1)).map .str))) mNil)))))))
  (msRet (mC (.bl false)))
  msNext)
  (msSeq (msAsg (mOp ixM (mC (.wd es_FORMS)) (mOp ixM (mVar 0) (mC (.int 0)))) (mgName 2))
  (msSeq (msIte (mTest (mOp gNe (mCb lenM (mCons (mVar 0) mNil)) (mOp gAdd (mC (.int 1)) (mCb lenM (mCons (mVar 2) mNil)))))
  (msRet (mC (.bl false)))
  msNext)
  (msRet (mCb allM (mCons (mLc (mItA itZip (mCons (mSl (mVar 0) (mPart (mC (.int 1))) mNoP) (mCons (mVar 2) mNil))) (mgTup 2 (mgCons (mgName 3) (mgCons (mgName 4) mgNil))) mYes (mCb m_is_item (mCons (mVar 3) (mCons (mVar 4) (mCons (mVar 1) mNil)))) [3, 4]) mNil))))))
def m_is_row : List AV → M AV := fnM 5 2 mb_is_row
theorem fr_is_row : Fd m_is_row := fd_fn (fs_seq (fs_ite (ft_or (ft_not (ft_test (fe_isi (fe_var 0)))) (ft_or (ft_test (fe_op f2_eq (fe_var 0) (fe_tup fa_nil))) (ft_not (ft_test (fe_cb fr_is_word (fa_cons (fe_op f2_ix (fe_var 0) (fe_c fun _ => rfl)) (fa_cons (fe_c fun _ => rfl) fa_nil))))))) (fs_ret (fe_c fun _ => rfl)) fs_next) (fs_seq (fs_asg (fe_op f2_ix (fe_c fun _ => rfl) (fe_op f2_ix (fe_var 0) (fe_c fun _ => rfl))) (fg_name 2)) (fs_seq (fs_ite (ft_test (fe_op f2_ne (fe_cb fd_len (fa_cons (fe_var 0) fa_nil)) (fe_op f2_add (fe_c fun _ => rfl) (fe_cb fd_len (fa_cons (fe_var 2) fa_nil))))) (fs_ret (fe_c fun _ => rfl)) fs_next) (fs_ret (fe_cb fd_all (fa_cons (fe_lc (fi_itA it_zip (fa_cons (fe_sl (fe_var 0) (fo_of (fe_c fun _ => rfl)) fo_no) (fa_cons (fe_var 2) fa_nil))) (fg_tup (fgs_cons (fg_name 3) (fgs_cons (fg_name 4) fgs_nil))) ft_yes (fe_cb fr_is_item (fa_cons (fe_var 3) (fa_cons (fe_var 4) (fa_cons (fe_var 1) fa_nil))))) fa_nil))))))
def x_is_row (M : Md P w K mg base) : XS (ct K w) :=
  (XS.seq (XS.ite (XT.or (XT.not (XT.ofE (XE.isi "tuple" (by decide) (XE.var 0)))) (XT.or (XT.ofE (XE.eq (XE.var 0) (XE.tup XA.nil))) (XT.not (XT.ofE (XE.call m_is_word (XA.cons (XE.ix (XE.var 0) (XE.int 0)) (XA.cons (XE.tupW (He.ga K "FORMS") (es_FORMS.map (·.1)) M.wk_FORMS) XA.nil)))))))
  (XS.ret (XE.bl false))
  XS.next)
  (XS.seq (XS.asg (XE.ix (XE.cst (.ref (He.ga K "FORMS")) (.wd es_FORMS) (fun _ _ => .wd M.w_FORMS)) (XE.ix (XE.var 0) (XE.int 0))) (XG.name 2))
  (XS.seq (XS.ite (XT.ofE (XE.ne (XE.len (XA.cons (XE.var 0) XA.nil)) (XE.add (XE.int 1) (XE.len (XA.cons (XE.var 2) XA.nil)))))
  (XS.ret (XE.bl false))
  XS.next)
  (XS.ret (XE.all (XA.cons (XE.lc (XI.zip (XA.cons (XE.sl (XE.var 0) (XO.of (XE.int 1)) XO.no) (XA.cons (XE.var 2) XA.nil))) (XG.tup 2 (XGs.cons (XG.name 3) (XGs.cons (XG.name 4) XGs.nil))) XT.yes (XE.call m_is_item (XA.cons (XE.var 3) (XA.cons (XE.var 4) (XA.cons (XE.var 1) XA.nil)))) [3, 4] (by intro i h; exact h)) XA.nil))))))
theorem xm_is_row (M : Md P w K mg base) : (x_is_row M).f = mb_is_row := rfl
theorem ok_is_row (M : Md P w K mg base) : CK.Ok P w K mg base 4 "is_row" ["row", "lists"] (spI (ct K w) m_is_row) := by
  obtain ⟨fd, F⟩ := M.d_is_row
  refine ⟨_, fd, M.g_is_row, F.kp, F.bindsN fun _ _ _ _ _ _ us hl => match us, hl with | [_, _], _ => rfl, F.ok sc_is_row (fun vs H Q E h => fn_len (b := mb_is_row) h) (fun cdv A outer s H vs Q E hr h => ⟨(x_is_row M).t E, PSs.nox ?_, fn_pure (b := x_is_row M) (N := N_is_row) (k := 2) (by rw [xm_is_row]; exact h)⟩)⟩
  exact (b_scons (b_if (b_pt (b_wor (b_tnot (b_test (b_isi rfl M.f_isinstance boot_isinstance (b_var 0) rfl M.f_tuple boot_tuple))) (b_wor (b_teq (CK.hu64 hr) (b_var 0) (b_tup b_nil)) (b_wor1 (b_tnot (b_test (b_call (ok_is_word M) (hr.mono (by decide)) rfl (b_cons (b_ix (CK.hu1 hr) (b_var 0) b_int) (b_cons (b_tupW rfl rfl M.f_tuple boot_tuple rfl M.g_FORMS) b_nil)))))))))
  (b_sone (b_ret b_bl))
  b_snil)
  (b_scons (b_set (j := 2) sc_is_row.nd rfl (.inl rfl) (b_ix (CK.hu1 hr) (b_gref rfl M.g_FORMS) (b_ix (CK.hu1 hr) (b_var 0) b_int)))
  (b_scons (b_if (b_tne (CK.hu64 hr) (b_len  rfl M.f_len boot_len (b_cons (b_var 0) b_nil)) (b_add b_int (b_len  rfl M.f_len boot_len (b_cons (b_var 2) b_nil))))
  (b_sone (b_ret b_bl))
  b_snil)
  (b_sone (b_ret (b_all rfl rfl M.f_all boot_all (b_cons (b_lc [("thing", 3), ("letter", 4)] rfl sc_is_row.nd (b_izip rfl M.f_zip (b_cons (b_sl (b_var 0) (b_pof b_int) b_pno) (b_cons (b_var 2) b_nil))) (blkOk_by (own := [("thing", 3), ("letter", 4)]) (N := N_is_row) (sc := defScope s_is_row) (by decide +kernel)) (fun _ _ _ _ _ => (b_gtup rfl (b_gcons (b_gname (i := 3) sc_is_row.nd rfl (.inl rfl)) (b_gcons (b_gname (i := 4) sc_is_row.nd rfl (.inl rfl)) b_gnil)))) (fun _ _ _ _ _ => b_tsnil) (fun _ _ _ _ _ => (b_call (ok_is_item M) (hr.mono (by decide)) rfl (b_cons (b_var 3) (b_cons (b_var 4) (b_cons (b_var 1) b_nil)))))) b_nil)))))))
/-! check_blocks -/
def N_check_blocks : List Str := ["lists", "numbers", "blocks", "known", "place", "name", "params", "rows", "end", "index", "row", "one"]
theorem sc_check_blocks : FnScope N_check_blocks ["lists", "numbers", "blocks"] (defScope s_check_blocks) := ⟨rfl, rfl, rfl, by decide +kernel, rfl, by decide +kernel, by decide +kernel⟩
def mb_check_blocks : CI.Env → M Fl :=
  (msSeq (msIte (mTNot (mTest (mCb m_are_blocks (mCons (mVar 2) mNil))))
  msNever
  msNext)
  (msSeq (msAsg (mDc (mIt itAny (mOp gAdd (mVar 0) (mVar 1))) (mgName 5) mYes (mVar 5) (mC (.bl true)) [5]) (mgName 3))
  (msLoop (mItA itEnum (mCons (mVar 2) mNil)) (mgTup 2 (mgCons (mgName 4) (mgCons (mgTup 4 (mgCons (mgName 5) (mgCons (mgName 6) (mgCons (mgName 7) (mgCons (mgName 8) mgNil))))) mgNil)))
  (msSeq (msIte (mTOr (mTNot (mTest (mCb m_are_names (mCons (mVar 6) (mCons (mIfe (mTest (mOp gEq (mVar 4) (mC (.int 0)))) (mC (.int 0)) (mC (.int 2))) mNil))))) (mTest (mCb anyM (mCons (mLc (mIt itAny (mVar 6)) (mgName 11) mYes (mOp (inM false) (mVar 11) (mVar 3)) [11]) mNil))))
  msNever
  msNext)
  (msSeq (msDrop (mBm updM okD (mVar 3) (mCons (mDc (mIt itAny (mVar 6)) (mgName 11) mYes (mVar 11) (mC (.bl true)) [11]) mNil)))
  (msSeq (msIte (mTOr (mTNot (mTest (mIsi "tuple" (mVar 7)))) (mTest (mOp gGt (mCb lenM (mCons (mVar 7) mNil)) (mC (.int 6)))))
  msNever
  msNext)
  (msSeq (msLoop (mItA itEnum (mCons (mVar 7) mNil)) (mgTup 2 (mgCons (mgName 9) (mgCons (mgName 10) mgNil)))
  (msSeq (msIte (mTOr (mTNot (mTest (mCb m_is_row (mCons (mVar 10) (mCons (mVar 0) mNil))))) (mTAnd (mTest (mCb m_is_giving (mCons (mVar 10) mNil))) (mTest (mOp (inM false) (mOp ixM (mVar 10) (mC (.int 1))) (mVar 3)))))
  msNever
  msNext)
  (msIte (mTest (mCb m_is_giving (mCons (mVar 10) mNil)))
  (msAsg (mC (.bl true)) (mgSub (mVar 3) (mOp ixM (mVar 10) (mC (.int 1)))))
  msNext)))
  (msIte (mTNot (mTest (mCb m_is_end (mCons (mVar 8) mNil))))
  msNever
  msNext))))))))
def m_check_blocks : List AV → M AV := fnM 12 3 mb_check_blocks
theorem fr_check_blocks : Fd m_check_blocks := fd_fn (fs_seq (fs_ite (ft_not (ft_test (fe_cb fr_are_blocks (fa_cons (fe_var 2) fa_nil)))) fs_never fs_next) (fs_seq (fs_asg (fe_dc (fi_it it_any (fe_op f2_add (fe_var 0) (fe_var 1))) (fg_name 5) ft_yes (fe_var 5) (fe_c fun _ => rfl)) (fg_name 3)) (fs_loop (fi_itA it_enum (fa_cons (fe_var 2) fa_nil)) (fg_tup (fgs_cons (fg_name 4) (fgs_cons (fg_tup (fgs_cons (fg_name 5) (fgs_cons (fg_name 6) (fgs_cons (fg_name 7) (fgs_cons (fg_name 8) fgs_nil))))) fgs_nil))) (fs_seq (fs_ite (ft_or (ft_not (ft_test (fe_cb fr_are_names (fa_cons (fe_var 6) (fa_cons (fe_ife (ft_test (fe_op f2_eq (fe_var 4) (fe_c fun _ => rfl))) (fe_c fun _ => rfl) (fe_c fun _ => rfl)) fa_nil))))) (ft_test (fe_cb fd_any (fa_cons (fe_lc (fi_it it_any (fe_var 6)) (fg_name 11) ft_yes (fe_op (f2_in false) (fe_var 11) (fe_var 3))) fa_nil)))) fs_never fs_next) (fs_seq (fs_drop (fe_bm (fun _ x xs => fm_updM x xs) fu_okD (fe_var 3) (fa_cons (fe_dc (fi_it it_any (fe_var 6)) (fg_name 11) ft_yes (fe_var 11) (fe_c fun _ => rfl)) fa_nil))) (fs_seq (fs_ite (ft_or (ft_not (ft_test (fe_isi (fe_var 7)))) (ft_test (fe_op f2_gt (fe_cb fd_len (fa_cons (fe_var 7) fa_nil)) (fe_c fun _ => rfl)))) fs_never fs_next) (fs_seq (fs_loop (fi_itA it_enum (fa_cons (fe_var 7) fa_nil)) (fg_tup (fgs_cons (fg_name 9) (fgs_cons (fg_name 10) fgs_nil))) (fs_seq (fs_ite (ft_or (ft_not (ft_test (fe_cb fr_is_row (fa_cons (fe_var 10) (fa_cons (fe_var 0) fa_nil))))) (ft_and (ft_test (fe_cb fr_is_giving (fa_cons (fe_var 10) fa_nil))) (ft_test (fe_op (f2_in false) (fe_op f2_ix (fe_var 10) (fe_c fun _ => rfl)) (fe_var 3))))) fs_never fs_next) (fs_ite (ft_test (fe_cb fr_is_giving (fa_cons (fe_var 10) fa_nil))) (fs_asg (fe_c fun _ => rfl) (fg_sub (fe_var 3) (fe_op f2_ix (fe_var 10) (fe_c fun _ => rfl)))) fs_next))) (fs_ite (ft_not (ft_test (fe_cb fr_is_end (fa_cons (fe_var 8) fa_nil)))) fs_never fs_next))))))))
def x_check_blocks (M : Md P w K mg base) : XS (ct K w) :=
  (XS.seq (XS.ite (XT.not (XT.ofE (XE.call m_are_blocks (XA.cons (XE.var 2) XA.nil))))
  XS.never
  XS.next)
  (XS.seq (XS.asg (XE.dc (XI.any (XE.add (XE.var 0) (XE.var 1))) (XG.name 5) XT.yes (XE.var 5) (XE.bl true) [5] (by intro i h; exact h)) (XG.name 3))
  (XS.loop (XI.enum (XA.cons (XE.var 2) XA.nil)) (XG.tup 2 (XGs.cons (XG.name 4) (XGs.cons (XG.tup 4 (XGs.cons (XG.name 5) (XGs.cons (XG.name 6) (XGs.cons (XG.name 7) (XGs.cons (XG.name 8) XGs.nil))))) XGs.nil)))
  (XS.seq (XS.ite (XT.or (XT.not (XT.ofE (XE.call m_are_names (XA.cons (XE.var 6) (XA.cons (XE.ife (XT.ofE (XE.eq (XE.var 4) (XE.int 0))) (XE.int 0) (XE.int 2)) XA.nil))))) (XT.ofE (XE.any (XA.cons (XE.lc (XI.any (XE.var 6)) (XG.name 11) XT.yes (XE.in false (XE.var 11) (XE.var 3)) [11] (by intro i h; exact h)) XA.nil))))
  XS.never
  XS.next)
  (XS.seq (XS.drop (XE.dupd (XE.var 3) (XA.cons (XE.dc (XI.any (XE.var 6)) (XG.name 11) XT.yes (XE.var 11) (XE.bl true) [11] (by intro i h; exact h)) XA.nil)))
  (XS.seq (XS.ite (XT.or (XT.not (XT.ofE (XE.isi "tuple" (by decide) (XE.var 7)))) (XT.ofE (XE.gt (XE.len (XA.cons (XE.var 7) XA.nil)) (XE.int 6))))
  XS.never
  XS.next)
  (XS.seq (XS.loop (XI.enum (XA.cons (XE.var 7) XA.nil)) (XG.tup 2 (XGs.cons (XG.name 9) (XGs.cons (XG.name 10) XGs.nil)))
  (XS.seq (XS.ite (XT.or (XT.not (XT.ofE (XE.call m_is_row (XA.cons (XE.var 10) (XA.cons (XE.var 0) XA.nil))))) (XT.and (XT.ofE (XE.call m_is_giving (XA.cons (XE.var 10) XA.nil))) (XT.ofE (XE.in false (XE.ix (XE.var 10) (XE.int 1)) (XE.var 3)))))
  XS.never
  XS.next)
  (XS.ite (XT.ofE (XE.call m_is_giving (XA.cons (XE.var 10) XA.nil)))
  (XS.asg (XE.bl true) (XG.sub (XE.var 3) (XE.ix (XE.var 10) (XE.int 1))))
  XS.next)))
  (XS.ite (XT.not (XT.ofE (XE.call m_is_end (XA.cons (XE.var 8) XA.nil))))
  XS.never
  XS.next))))))))
theorem xm_check_blocks (M : Md P w K mg base) : (x_check_blocks M).f = mb_check_blocks := rfl
theorem ok_check_blocks (M : Md P w K mg base) : CK.Ok P w K mg base 5 "check_blocks" ["lists", "numbers", "blocks"] (spI (ct K w) m_check_blocks) := by
  obtain ⟨fd, F⟩ := M.d_check_blocks
  refine ⟨_, fd, M.g_check_blocks, F.kp, F.bindsN fun _ _ _ _ _ _ us hl => match us, hl with | [_, _, _], _ => rfl, F.ok sc_check_blocks (fun vs H Q E h => fn_len (b := mb_check_blocks) h) (fun cdv A outer s H vs Q E hr h => ⟨(x_check_blocks M).t E, PSs.nox ?_, fn_pure (b := x_check_blocks M) (N := N_check_blocks) (k := 3) (by rw [xm_check_blocks]; exact h)⟩)⟩
  exact (b_scons (b_if (b_tnot (b_test (b_call (ok_are_blocks M) (hr.mono (by decide)) rfl (b_cons (b_var 2) b_nil))))
  (b_sone b_never)
  b_snil)
  (b_scons (b_set (j := 3) sc_check_blocks.nd rfl (.inr rfl) (b_dc [("name", 5)] rfl sc_check_blocks.nd (b_iany (b_add (b_var 0) (b_var 1))) (blkOk_by (own := [("name", 5)]) (N := N_check_blocks) (sc := defScope s_check_blocks) (by decide +kernel)) (fun _ _ _ _ _ => (b_gname (i := 5) sc_check_blocks.nd rfl (.inl rfl))) (fun _ _ _ _ _ => b_tsnil) (fun _ _ _ _ _ => (b_var 5)) (fun _ _ _ _ _ => b_bl)))
  (b_sone (b_for PassesOwn.never rfl (b_ienum rfl M.f_enumerate (b_cons (b_var 2) b_nil)) (b_gtup rfl (b_gcons (b_gname (i := 4) sc_check_blocks.nd rfl (.inl rfl)) (b_gcons (b_gtup rfl (b_gcons (b_gname (i := 5) sc_check_blocks.nd rfl (.inl rfl)) (b_gcons (b_gname (i := 6) sc_check_blocks.nd rfl (.inl rfl)) (b_gcons (b_gname (i := 7) sc_check_blocks.nd rfl (.inl rfl)) (b_gcons (b_gname (i := 8) sc_check_blocks.nd rfl (.inl rfl)) b_gnil))))) b_gnil)))
  (b_scons (b_if (b_pt (b_wor (b_tnot (b_test (b_call (ok_are_names M) (hr.mono (by decide)) rfl (b_cons (b_var 6) (b_cons (b_ife (b_teq (CK.hu64 hr) (b_var 4) b_int) b_int (b_gint rfl M.i_MOST_PARAMS)) b_nil))))) (b_wor1 (b_test (b_any rfl rfl M.f_any boot_any (b_cons (b_lc [("one", 11)] rfl sc_check_blocks.nd (b_iany (b_var 6)) (blkOk_by (own := [("one", 11)]) (N := N_check_blocks) (sc := defScope s_check_blocks) (by decide +kernel)) (fun _ _ _ _ _ => (b_gname (i := 11) sc_check_blocks.nd rfl (.inl rfl))) (fun _ _ _ _ _ => b_tsnil) (fun _ _ _ _ _ => (b_in (CK.hu1 hr) (b_var 11) (b_var 3)))) b_nil))))))
  (b_sone b_never)
  b_snil)
  (b_scons (b_expr (b_dupd (b_var 3) (b_cons (b_dc [("one", 11)] rfl sc_check_blocks.nd (b_iany (b_var 6)) (blkOk_by (own := [("one", 11)]) (N := N_check_blocks) (sc := defScope s_check_blocks) (by decide +kernel)) (fun _ _ _ _ _ => (b_gname (i := 11) sc_check_blocks.nd rfl (.inl rfl))) (fun _ _ _ _ _ => b_tsnil) (fun _ _ _ _ _ => (b_var 11)) (fun _ _ _ _ _ => b_bl)) b_nil)))
  (b_scons (b_if (b_pt (b_wor (b_tnot (b_test (b_isi rfl M.f_isinstance boot_isinstance (b_var 7) rfl M.f_tuple boot_tuple))) (b_wor1 (b_tgt (b_len  rfl M.f_len boot_len (b_cons (b_var 7) b_nil)) (b_gint rfl M.i_MOST_ROWS)))))
  (b_sone b_never)
  b_snil)
  (b_scons (b_for PassesOwn.never rfl (b_ienum rfl M.f_enumerate (b_cons (b_var 7) b_nil)) (b_gtup rfl (b_gcons (b_gname (i := 9) sc_check_blocks.nd rfl (.inl rfl)) (b_gcons (b_gname (i := 10) sc_check_blocks.nd rfl (.inl rfl)) b_gnil)))
  (b_scons (b_if (b_pt (b_wor (b_tnot (b_test (b_call (ok_is_row M) (hr.mono (by decide)) rfl (b_cons (b_var 10) (b_cons (b_var 0) b_nil))))) (b_wor1 (b_pt (b_wand (b_test (b_call (ok_is_giving M) (hr.mono (by decide)) rfl (b_cons (b_var 10) b_nil))) (b_wand1 (b_tin (CK.hu1 hr) (b_ix (CK.hu1 hr) (b_var 10) b_int) (b_var 3))))))))
  (b_sone b_never)
  b_snil)
  (b_sone (b_if (b_test (b_call (ok_is_giving M) (hr.mono (by decide)) rfl (b_cons (b_var 10) b_nil)))
  (b_sone (b_asg b_bl (b_gsub (CK.hu1 hr) (b_var 3) (b_ix (CK.hu1 hr) (b_var 10) b_int))))
  b_snil))))
  (b_sone (b_if (b_tnot (b_test (b_call (ok_is_end M) (hr.mono (by decide)) rfl (b_cons (b_var 8) b_nil))))
  (b_sone b_never)
  b_snil))))))))))
/-! goals -/
def N_goals : List Str := ["end"]
theorem sc_goals : FnScope N_goals ["end"] (defScope s_goals) := ⟨rfl, rfl, rfl, by decide +kernel, rfl, by decide +kernel, by decide +kernel⟩
def mb_goals : CI.Env → M Fl :=
  (msSeq (msIte (mTest (mOp gEq (mOp ixM (mVar 0) (mC (.int 0))) (mC (.str "go"))))
  (msRet (mLst (mCons (mTup (mCons (mOp ixM (mVar 0) (mC (.int 1))) (mCons (mOp ixM (mVar 0) (mC (.int 2))) mNil))) mNil)))
  msNext)
  (msRet (mIfe (mTest (mOp gEq (mOp ixM (mVar 0) (mC (.int 0))) (mC (.str "less")))) (mLst (mCons (mTup (mCons (mOp ixM (mVar 0) (mC (.int 3))) (mCons (mOp ixM (mVar 0) (mC (.int 4))) mNil))) (mCons (mTup (mCons (mOp ixM (mVar 0) (mC (.int 5))) (mCons (mOp ixM (mVar 0) (mC (.int 6))) mNil))) mNil))) (mLst mNil))))
def m_goals : List AV → M AV := fnM 1 1 mb_goals
theorem fr_goals : Fd m_goals := fd_fn (fs_seq (fs_ite (ft_test (fe_op f2_eq (fe_op f2_ix (fe_var 0) (fe_c fun _ => rfl)) (fe_c fun _ => rfl))) (fs_ret (fe_lst (fa_cons (fe_tup (fa_cons (fe_op f2_ix (fe_var 0) (fe_c fun _ => rfl)) (fa_cons (fe_op f2_ix (fe_var 0) (fe_c fun _ => rfl)) fa_nil))) fa_nil))) fs_next) (fs_ret (fe_ife (ft_test (fe_op f2_eq (fe_op f2_ix (fe_var 0) (fe_c fun _ => rfl)) (fe_c fun _ => rfl))) (fe_lst (fa_cons (fe_tup (fa_cons (fe_op f2_ix (fe_var 0) (fe_c fun _ => rfl)) (fa_cons (fe_op f2_ix (fe_var 0) (fe_c fun _ => rfl)) fa_nil))) (fa_cons (fe_tup (fa_cons (fe_op f2_ix (fe_var 0) (fe_c fun _ => rfl)) (fa_cons (fe_op f2_ix (fe_var 0) (fe_c fun _ => rfl)) fa_nil))) fa_nil))) (fe_lst fa_nil))))
def x_goals (M : Md P w K mg base) : XS (ct K w) :=
  (XS.seq (XS.ite (XT.ofE (XE.eq (XE.ix (XE.var 0) (XE.int 0)) (XE.str "go")))
  (XS.ret (XE.lst (XA.cons (XE.tup (XA.cons (XE.ix (XE.var 0) (XE.int 1)) (XA.cons (XE.ix (XE.var 0) (XE.int 2)) XA.nil))) XA.nil)))
  XS.next)
  (XS.ret (XE.ife (XT.ofE (XE.eq (XE.ix (XE.var 0) (XE.int 0)) (XE.str "less"))) (XE.lst (XA.cons (XE.tup (XA.cons (XE.ix (XE.var 0) (XE.int 3)) (XA.cons (XE.ix (XE.var 0) (XE.int 4)) XA.nil))) (XA.cons (XE.tup (XA.cons (XE.ix (XE.var 0) (XE.int 5)) (XA.cons (XE.ix (XE.var 0) (XE.int 6)) XA.nil))) XA.nil))) (XE.lst XA.nil))))
theorem xm_goals (M : Md P w K mg base) : (x_goals M).f = mb_goals := rfl
theorem ok_goals (M : Md P w K mg base) : CK.Ok P w K mg base 1 "goals" ["end"] (spI (ct K w) m_goals) := by
  obtain ⟨fd, F⟩ := M.d_goals
  refine ⟨_, fd, M.g_goals, F.kp, F.bindsN fun _ _ _ _ _ _ us hl => match us, hl with | [_], _ => rfl, F.ok sc_goals (fun vs H Q E h => fn_len (b := mb_goals) h) (fun cdv A outer s H vs Q E hr h => ⟨(x_goals M).t E, PSs.nox ?_, fn_pure (b := x_goals M) (N := N_goals) (k := 1) (by rw [xm_goals]; exact h)⟩)⟩
  exact (b_scons (b_if (b_teq (CK.hu64 hr) (b_ix (CK.hu1 hr) (b_var 0) b_int) b_str)
  (b_sone (b_ret (b_lst (b_cons (b_tup (b_cons (b_ix (CK.hu1 hr) (b_var 0) b_int) (b_cons (b_ix (CK.hu1 hr) (b_var 0) b_int) b_nil))) b_nil))))
  b_snil)
  (b_sone (b_ret (b_ife (b_teq (CK.hu64 hr) (b_ix (CK.hu1 hr) (b_var 0) b_int) b_str) (b_lst (b_cons (b_tup (b_cons (b_ix (CK.hu1 hr) (b_var 0) b_int) (b_cons (b_ix (CK.hu1 hr) (b_var 0) b_int) b_nil))) (b_cons (b_tup (b_cons (b_ix (CK.hu1 hr) (b_var 0) b_int) (b_cons (b_ix (CK.hu1 hr) (b_var 0) b_int) b_nil))) b_nil))) (b_lst b_nil)))))
/-! check_goals -/
def N_check_goals : List Str := ["program", "name", "params", "rows", "end", "goal", "args"]
theorem sc_check_goals : FnScope N_check_goals ["program"] (defScope s_check_goals) := ⟨rfl, rfl, rfl, by decide +kernel, rfl, by decide +kernel, by decide +kernel⟩
def mb_check_goals : CI.Env → M Fl :=
  (msLoop (mIt itAny (mFld 0 "blocks" (mVar 0))) (mgTup 4 (mgCons (mgName 1) (mgCons (mgName 2) (mgCons (mgName 3) (mgCons (mgName 4) mgNil)))))
  (msLoop (mIt itAny (mCb m_goals (mCons (mVar 4) mNil))) (mgTup 2 (mgCons (mgName 5) (mgCons (mgName 6) mgNil)))
  (msSeq (msIte (mTOr (mTest (mOp (inM true) (mVar 5) (mFld 0 "parts" (mVar 0)))) (mTest (mOp gEq (mVar 5) (mOp ixM (mOp ixM (mFld 0 "blocks" (mVar 0)) (mC (.int 0))) (mC (.int 0))))))
  msNever
  msNext)
  (msIte (mTest (mOp gNe (mCb lenM (mCons (mOp ixM (mOp ixM (mFld 0 "parts" (mVar 0)) (mVar 5)) (mC (.int 1))) mNil)) (mCb lenM (mCons (mVar 6) mNil))))
  msNever
  msNext))))
def m_check_goals : List AV → M AV := fnM 7 1 mb_check_goals
theorem fr_check_goals : Fd m_check_goals := fd_fn (fs_loop (fi_it it_any (fe_fld (fe_var 0))) (fg_tup (fgs_cons (fg_name 1) (fgs_cons (fg_name 2) (fgs_cons (fg_name 3) (fgs_cons (fg_name 4) fgs_nil))))) (fs_loop (fi_it it_any (fe_cb fr_goals (fa_cons (fe_var 4) fa_nil))) (fg_tup (fgs_cons (fg_name 5) (fgs_cons (fg_name 6) fgs_nil))) (fs_seq (fs_ite (ft_or (ft_test (fe_op (f2_in true) (fe_var 5) (fe_fld (fe_var 0)))) (ft_test (fe_op f2_eq (fe_var 5) (fe_op f2_ix (fe_op f2_ix (fe_fld (fe_var 0)) (fe_c fun _ => rfl)) (fe_c fun _ => rfl))))) fs_never fs_next) (fs_ite (ft_test (fe_op f2_ne (fe_cb fd_len (fa_cons (fe_op f2_ix (fe_op f2_ix (fe_fld (fe_var 0)) (fe_var 5)) (fe_c fun _ => rfl)) fa_nil)) (fe_cb fd_len (fa_cons (fe_var 6) fa_nil)))) fs_never fs_next))))
def x_check_goals (M : Md P w K mg base) : XS (ct K w) :=
  (XS.loop (XI.any (XE.fld 0 "blocks" M.cls_Program M.na_Program_blocks (XE.var 0))) (XG.tup 4 (XGs.cons (XG.name 1) (XGs.cons (XG.name 2) (XGs.cons (XG.name 3) (XGs.cons (XG.name 4) XGs.nil)))))
  (XS.loop (XI.any (XE.call m_goals (XA.cons (XE.var 4) XA.nil))) (XG.tup 2 (XGs.cons (XG.name 5) (XGs.cons (XG.name 6) XGs.nil)))
  (XS.seq (XS.ite (XT.or (XT.ofE (XE.in true (XE.var 5) (XE.fld 0 "parts" M.cls_Program M.na_Program_parts (XE.var 0)))) (XT.ofE (XE.eq (XE.var 5) (XE.ix (XE.ix (XE.fld 0 "blocks" M.cls_Program M.na_Program_blocks (XE.var 0)) (XE.int 0)) (XE.int 0)))))
  XS.never
  XS.next)
  (XS.ite (XT.ofE (XE.ne (XE.len (XA.cons (XE.ix (XE.ix (XE.fld 0 "parts" M.cls_Program M.na_Program_parts (XE.var 0)) (XE.var 5)) (XE.int 1)) XA.nil)) (XE.len (XA.cons (XE.var 6) XA.nil))))
  XS.never
  XS.next))))
theorem xm_check_goals (M : Md P w K mg base) : (x_check_goals M).f = mb_check_goals := rfl
theorem ok_check_goals (M : Md P w K mg base) : CK.Ok P w K mg base 2 "check_goals" ["program"] (spI (ct K w) m_check_goals) := by
  obtain ⟨fd, F⟩ := M.d_check_goals
  refine ⟨_, fd, M.g_check_goals, F.kp, F.bindsN fun _ _ _ _ _ _ us hl => match us, hl with | [_], _ => rfl, F.ok sc_check_goals (fun vs H Q E h => fn_len (b := mb_check_goals) h) (fun cdv A outer s H vs Q E hr h => ⟨(x_check_goals M).t E, PSs.nox ?_, fn_pure (b := x_check_goals M) (N := N_check_goals) (k := 1) (by rw [xm_check_goals]; exact h)⟩)⟩
  exact (b_sone (b_for PassesOwn.never rfl (b_iany (b_fld (b_var 0))) (b_gtup rfl (b_gcons (b_gname (i := 1) sc_check_goals.nd rfl (.inl rfl)) (b_gcons (b_gname (i := 2) sc_check_goals.nd rfl (.inl rfl)) (b_gcons (b_gname (i := 3) sc_check_goals.nd rfl (.inl rfl)) (b_gcons (b_gname (i := 4) sc_check_goals.nd rfl (.inl rfl)) b_gnil)))))
  (b_sone (b_for PassesOwn.never rfl (b_iany (b_call (ok_goals M) (hr.mono (by decide)) rfl (b_cons (b_var 4) b_nil))) (b_gtup rfl (b_gcons (b_gname (i := 5) sc_check_goals.nd rfl (.inl rfl)) (b_gcons (b_gname (i := 6) sc_check_goals.nd rfl (.inl rfl)) b_gnil)))
  (b_scons (b_if (b_pt (b_wor (b_tnin (CK.hu1 hr) (b_var 5) (b_fld (b_var 0))) (b_wor1 (b_teq (CK.hu64 hr) (b_var 5) (b_ix (CK.hu1 hr) (b_ix (CK.hu1 hr) (b_fld (b_var 0)) b_int) b_int)))))
  (b_sone b_never)
  b_snil)
  (b_sone (b_if (b_tne (CK.hu64 hr) (b_len  rfl M.f_len boot_len (b_cons (b_ix (CK.hu1 hr) (b_ix (CK.hu1 hr) (b_fld (b_var 0)) (b_var 5)) b_int) b_nil)) (b_len  rfl M.f_len boot_len (b_cons (b_var 6) b_nil)))
  (b_sone b_never)
  b_snil)))))))
/-! reached_without -/
def N_reached_without : List Str := ["program", "left_out", "found", "waiting", "name", "goal", "args"]
theorem sc_reached_without : FnScope N_reached_without ["program", "left_out"] (defScope s_reached_without) := ⟨rfl, rfl, rfl, by decide +kernel, rfl, by decide +kernel, by decide +kernel⟩
def mb_reached_without : CI.Env → M Fl :=
  (msSeq (msPar 2 3 (mCons mDict0 (mCons (mLst (mCons (mOp ixM (mOp ixM (mFld 0 "blocks" (mVar 0)) (mC (.int 0))) (mC (.int 0))) mNil)) mNil)))
  (msSeq (msWhil (mTest (mOp gNe (mVar 3) (mLst mNil)))
  (msSeq (msAsg (mBm0 popM okL (mVar 3)) (mgName 4))
  (msIte (mTAnd (mTest (mOp gNe (mVar 4) (mVar 1))) (mTest (mOp (inM true) (mVar 4) (mVar 2))))
  (msSeq (msAsg (mC (.bl true)) (mgSub (mVar 2) (mVar 4)))
  (msDrop (mBm extM okL (mVar 3) (mCons (mLc (mIt itAny (mCb m_goals (mCons (mOp ixM (mOp ixM (mFld 0 "parts" (mVar 0)) (mVar 4)) (mC (.int 3))) mNil))) (mgTup 2 (mgCons (mgName 5) (mgCons (mgName 6) mgNil))) mYes (mVar 5) [5, 6]) mNil))))
  msNext)))
  (msRet (mVar 2))))
def m_reached_without : List AV → M AV := fnM 7 2 mb_reached_without
theorem fr_reached_without : Fd m_reached_without := fd_fn (fs_seq (fs_par (fa_cons fe_dict0 (fa_cons (fe_lst (fa_cons (fe_op f2_ix (fe_op f2_ix (fe_fld (fe_var 0)) (fe_c fun _ => rfl)) (fe_c fun _ => rfl)) fa_nil)) fa_nil))) (fs_seq (fs_whil (ft_test (fe_op f2_ne (fe_var 3) (fe_lst fa_nil))) (fs_seq (fs_asg (fe_bm0 (fun _ x xs => fm_pop x xs) fu_okL (fe_var 3)) (fg_name 4)) (fs_ite (ft_and (ft_test (fe_op f2_ne (fe_var 4) (fe_var 1))) (ft_test (fe_op (f2_in true) (fe_var 4) (fe_var 2)))) (fs_seq (fs_asg (fe_c fun _ => rfl) (fg_sub (fe_var 2) (fe_var 4))) (fs_drop (fe_bm (fun _ x xs => fm_ext x xs) fu_okL (fe_var 3) (fa_cons (fe_lc (fi_it it_any (fe_cb fr_goals (fa_cons (fe_op f2_ix (fe_op f2_ix (fe_fld (fe_var 0)) (fe_var 4)) (fe_c fun _ => rfl)) fa_nil))) (fg_tup (fgs_cons (fg_name 5) (fgs_cons (fg_name 6) fgs_nil))) ft_yes (fe_var 5)) fa_nil)))) fs_next))) (fs_ret (fe_var 2))))
def x_reached_without (M : Md P w K mg base) : XS (ct K w) :=
  (XS.seq (XS.par 2 3 (XA.cons XE.dict0 (XA.cons (XE.lst (XA.cons (XE.ix (XE.ix (XE.fld 0 "blocks" M.cls_Program M.na_Program_blocks (XE.var 0)) (XE.int 0)) (XE.int 0)) XA.nil)) XA.nil)))
  (XS.seq (XS.whil (XT.ofE (XE.ne (XE.var 3) (XE.lst XA.nil)))
  (XS.seq (XS.asg (XE.pop (XE.var 3)) (XG.name 4))
  (XS.ite (XT.and (XT.ofE (XE.ne (XE.var 4) (XE.var 1))) (XT.ofE (XE.in true (XE.var 4) (XE.var 2))))
  (XS.seq (XS.asg (XE.bl true) (XG.sub (XE.var 2) (XE.var 4)))
  (XS.drop (XE.extend (XE.var 3) (XA.cons (XE.lc (XI.any (XE.call m_goals (XA.cons (XE.ix (XE.ix (XE.fld 0 "parts" M.cls_Program M.na_Program_parts (XE.var 0)) (XE.var 4)) (XE.int 3)) XA.nil))) (XG.tup 2 (XGs.cons (XG.name 5) (XGs.cons (XG.name 6) XGs.nil))) XT.yes (XE.var 5) [5, 6] (by intro i h; exact h)) XA.nil))))
  XS.next)))
  (XS.ret (XE.var 2))))
theorem xm_reached_without (M : Md P w K mg base) : (x_reached_without M).f = mb_reached_without := rfl
theorem ok_reached_without (M : Md P w K mg base) : CK.Ok P w K mg base 2 "reached_without" ["program", "left_out"] (spI (ct K w) m_reached_without) := by
  obtain ⟨fd, F⟩ := M.d_reached_without
  refine ⟨_, fd, M.g_reached_without, F.kp, F.bindsN fun _ _ _ _ _ _ us hl => match us, hl with | [_, _], _ => rfl, F.ok sc_reached_without (fun vs H Q E h => fn_len (b := mb_reached_without) h) (fun cdv A outer s H vs Q E hr h => ⟨(x_reached_without M).t E, PSs.nox ?_, fn_pure (b := x_reached_without M) (N := N_reached_without) (k := 2) (by rw [xm_reached_without]; exact h)⟩)⟩
  exact (b_scons (b_par (i := 2) (j := 3) rfl sc_reached_without.nd rfl rfl (by decide) rfl rfl (b_cons b_dict0 (b_cons (b_lst (b_cons (b_ix (CK.hu1 hr) (b_ix (CK.hu1 hr) (b_fld (b_var 0)) b_int) b_int) b_nil)) b_nil)))
  (b_scons (b_while PassesOwn.never (b_tne (CK.hu64 hr) (b_var 3) (b_lst b_nil))
  (b_scons (b_set (j := 4) sc_reached_without.nd rfl (.inl rfl) (b_pop (b_var 3)))
  (b_sone (b_if (b_pt (b_wand (b_tne (CK.hu64 hr) (b_var 4) (b_var 1)) (b_wand1 (b_tnin (CK.hu1 hr) (b_var 4) (b_var 2)))))
  (b_scons (b_asg b_bl (b_gsub (CK.hu1 hr) (b_var 2) (b_var 4)))
  (b_sone (b_expr (b_extend (b_var 3) (b_cons (b_lc [("goal", 5), ("args", 6)] rfl sc_reached_without.nd (b_iany (b_call (ok_goals M) (hr.mono (by decide)) rfl (b_cons (b_ix (CK.hu1 hr) (b_ix (CK.hu1 hr) (b_fld (b_var 0)) (b_var 4)) b_int) b_nil))) (blkOk_by (own := [("goal", 5), ("args", 6)]) (N := N_reached_without) (sc := defScope s_reached_without) (by decide +kernel)) (fun _ _ _ _ _ => (b_gtup rfl (b_gcons (b_gname (i := 5) sc_reached_without.nd rfl (.inl rfl)) (b_gcons (b_gname (i := 6) sc_reached_without.nd rfl (.inl rfl)) b_gnil)))) (fun _ _ _ _ _ => b_tsnil) (fun _ _ _ _ _ => (b_var 5))) b_nil)))))
  b_snil))))
  (b_sone (b_ret (b_var 2)))))
/-! dominators -/
def N_dominators : List Str := ["program", "found", "block", "reached", "name"]
theorem sc_dominators : FnScope N_dominators ["program"] (defScope s_dominators) := ⟨rfl, rfl, rfl, by decide +kernel, rfl, by decide +kernel, by decide +kernel⟩
def mb_dominators : CI.Env → M Fl :=
  (msSeq (msAsg (mDc (mIt itAny (mFld 0 "blocks" (mVar 0))) (mgName 2) mYes (mOp ixM (mVar 2) (mC (.int 0))) (mLst mNil) [2]) (mgName 1))
  (msSeq (msLoop (mIt itAny (mFld 0 "blocks" (mVar 0))) (mgName 2)
  (msSeq (msAsg (mCb m_reached_without (mCons (mVar 0) (mCons (mOp ixM (mVar 2) (mC (.int 0))) mNil))) (mgName 3))
  (msKeys 1 (mgName 4)
  (msIte (mTAnd (mTest (mOp gNe (mVar 4) (mOp ixM (mVar 2) (mC (.int 0))))) (mTest (mOp (inM true) (mVar 4) (mVar 3))))
  (msDrop (mBm appM okL (mOp ixM (mVar 1) (mVar 4)) (mCons (mOp ixM (mVar 2) (mC (.int 0))) mNil)))
  msNext))))
  (msRet (mVar 1))))
def m_dominators : List AV → M AV := fnM 5 1 mb_dominators
theorem fr_dominators : Fd m_dominators := fd_fn (fs_seq (fs_asg (fe_dc (fi_it it_any (fe_fld (fe_var 0))) (fg_name 2) ft_yes (fe_op f2_ix (fe_var 2) (fe_c fun _ => rfl)) (fe_lst fa_nil)) (fg_name 1)) (fs_seq (fs_loop (fi_it it_any (fe_fld (fe_var 0))) (fg_name 2) (fs_seq (fs_asg (fe_cb fr_reached_without (fa_cons (fe_var 0) (fa_cons (fe_op f2_ix (fe_var 2) (fe_c fun _ => rfl)) fa_nil))) (fg_name 3)) (fs_keys (fg_name 4) (fs_ite (ft_and (ft_test (fe_op f2_ne (fe_var 4) (fe_op f2_ix (fe_var 2) (fe_c fun _ => rfl)))) (ft_test (fe_op (f2_in true) (fe_var 4) (fe_var 3)))) (fs_drop (fe_bm (fun _ x xs => fm_app x xs) fu_okL (fe_op f2_ix (fe_var 1) (fe_var 4)) (fa_cons (fe_op f2_ix (fe_var 2) (fe_c fun _ => rfl)) fa_nil))) fs_next)))) (fs_ret (fe_var 1))))
def x_dominators (M : Md P w K mg base) : XS (ct K w) :=
  (XS.seq (XS.asg (XE.dc (XI.any (XE.fld 0 "blocks" M.cls_Program M.na_Program_blocks (XE.var 0))) (XG.name 2) XT.yes (XE.ix (XE.var 2) (XE.int 0)) (XE.lst XA.nil) [2] (by intro i h; exact h)) (XG.name 1))
  (XS.seq (XS.loop (XI.any (XE.fld 0 "blocks" M.cls_Program M.na_Program_blocks (XE.var 0))) (XG.name 2)
  (XS.seq (XS.asg (XE.call m_reached_without (XA.cons (XE.var 0) (XA.cons (XE.ix (XE.var 2) (XE.int 0)) XA.nil))) (XG.name 3))
  (XS.keys 1 (XG.name 4)
  (XS.ite (XT.and (XT.ofE (XE.ne (XE.var 4) (XE.ix (XE.var 2) (XE.int 0)))) (XT.ofE (XE.in true (XE.var 4) (XE.var 3))))
  (XS.drop (XE.append (XE.ix (XE.var 1) (XE.var 4)) (XA.cons (XE.ix (XE.var 2) (XE.int 0)) XA.nil)))
  XS.next))))
  (XS.ret (XE.var 1))))
theorem xm_dominators (M : Md P w K mg base) : (x_dominators M).f = mb_dominators := rfl
theorem ok_dominators (M : Md P w K mg base) : CK.Ok P w K mg base 3 "dominators" ["program"] (spI (ct K w) m_dominators) := by
  obtain ⟨fd, F⟩ := M.d_dominators
  refine ⟨_, fd, M.g_dominators, F.kp, F.bindsN fun _ _ _ _ _ _ us hl => match us, hl with | [_], _ => rfl, F.ok sc_dominators (fun vs H Q E h => fn_len (b := mb_dominators) h) (fun cdv A outer s H vs Q E hr h => ⟨(x_dominators M).t E, PSs.nox ?_, fn_pure (b := x_dominators M) (N := N_dominators) (k := 1) (by rw [xm_dominators]; exact h)⟩)⟩
  exact (b_scons (b_setDc (j := 1) [("block", 2)] rfl sc_dominators.nd rfl rfl (sw_trueD rfl rfl rfl (by decide +kernel)) (b_iany (b_fld (b_var 0))) (blkOk_by (own := [("block", 2)]) (N := N_dominators) (sc := defScope s_dominators) (by decide +kernel)) (fun _ _ _ _ _ => (b_gname (i := 2) sc_dominators.nd rfl (.inl rfl))) (fun _ _ _ _ _ => b_tsnil) (fun _ _ _ _ _ => (b_ix (CK.hu1 hr) (b_var 2) b_int)) (fun _ _ _ _ _ => (b_lst b_nil)))
  (b_scons (b_for PassesOwn.never rfl (b_iany (b_fld (b_var 0))) (b_gname (i := 2) sc_dominators.nd rfl (.inl rfl))
  (b_scons (b_set (j := 3) sc_dominators.nd rfl (.inl rfl) (b_call (ok_reached_without M) (hr.mono (by decide)) rfl (b_cons (b_var 0) (b_cons (b_ix (CK.hu1 hr) (b_var 2) b_int) b_nil))))
  (b_sone (b_keys PassesOwn.never rfl (pv 1) (b_gname (i := 4) sc_dominators.nd rfl (.inl rfl))
  (b_sone (b_if (b_pt (b_wand (b_tne (CK.hu64 hr) (b_var 4) (b_ix (CK.hu1 hr) (b_var 2) b_int)) (b_wand1 (b_tnin (CK.hu1 hr) (b_var 4) (b_var 3)))))
  (b_sone (b_expr (b_append (b_ix (CK.hu1 hr) (b_var 1) (b_var 4)) (b_cons (b_ix (CK.hu1 hr) (b_var 2) b_int) b_nil))))
  b_snil))))))
  (b_sone (b_ret (b_var 1)))))
/-! givings -/
def N_givings : List Str := ["program", "found", "name", "params", "rows", "end", "one", "index", "row"]
theorem sc_givings : FnScope N_givings ["program"] (defScope s_givings) := ⟨rfl, rfl, rfl, by decide +kernel, rfl, by decide +kernel, by decide +kernel⟩
def mb_givings : CI.Env → M Fl :=
  (msSeq (msAsg (mDc (mIt itAny (mFld 0 "numbers" (mVar 0))) (mgName 2) mYes (mVar 2) (mC .non) [2]) (mgName 1))
  (msSeq (msLoop (mIt itAny (mFld 0 "blocks" (mVar 0))) (mgTup 4 (mgCons (mgName 2) (mgCons (mgName 3) (mgCons (mgName 4) (mgCons (mgName 5) mgNil)))))
  (msSeq (msDrop (mBm updM okD (mVar 1) (mCons (mDc (mIt itAny (mVar 3)) (mgName 6) mYes (mVar 6) (mTup (mCons (mVar 2) (mCons (mC (.int 0)) mNil))) [6]) mNil)))
  (msDrop (mBm updM okD (mVar 1) (mCons (mDc (mItA itEnum (mCons (mVar 4) mNil)) (mgTup 2 (mgCons (mgName 7) (mgCons (mgName 8) mgNil))) (mTest (mCb m_is_giving (mCons (mVar 8) mNil))) (mOp ixM (mVar 8) (mC (.int 1))) (mTup (mCons (mVar 2) (mCons (mOp gAdd (mVar 7) (mC (.int 1))) mNil))) [7, 8]) mNil)))))
  (msRet (mVar 1))))
def m_givings : List AV → M AV := fnM 9 1 mb_givings
theorem fr_givings : Fd m_givings := fd_fn (fs_seq (fs_asg (fe_dc (fi_it it_any (fe_fld (fe_var 0))) (fg_name 2) ft_yes (fe_var 2) (fe_c fun _ => rfl)) (fg_name 1)) (fs_seq (fs_loop (fi_it it_any (fe_fld (fe_var 0))) (fg_tup (fgs_cons (fg_name 2) (fgs_cons (fg_name 3) (fgs_cons (fg_name 4) (fgs_cons (fg_name 5) fgs_nil))))) (fs_seq (fs_drop (fe_bm (fun _ x xs => fm_updM x xs) fu_okD (fe_var 1) (fa_cons (fe_dc (fi_it it_any (fe_var 3)) (fg_name 6) ft_yes (fe_var 6) (fe_tup (fa_cons (fe_var 2) (fa_cons (fe_c fun _ => rfl) fa_nil)))) fa_nil))) (fs_drop (fe_bm (fun _ x xs => fm_updM x xs) fu_okD (fe_var 1) (fa_cons (fe_dc (fi_itA it_enum (fa_cons (fe_var 4) fa_nil)) (fg_tup (fgs_cons (fg_name 7) (fgs_cons (fg_name 8) fgs_nil))) (ft_test (fe_cb fr_is_giving (fa_cons (fe_var 8) fa_nil))) (fe_op f2_ix (fe_var 8) (fe_c fun _ => rfl)) (fe_tup (fa_cons (fe_var 2) (fa_cons (fe_op f2_add (fe_var 7) (fe_c fun _ => rfl)) fa_nil)))) fa_nil))))) (fs_ret (fe_var 1))))
def x_givings (M : Md P w K mg base) : XS (ct K w) :=
  (XS.seq (XS.asg (XE.dc (XI.any (XE.fld 0 "numbers" M.cls_Program M.na_Program_numbers (XE.var 0))) (XG.name 2) XT.yes (XE.var 2) XE.non [2] (by intro i h; exact h)) (XG.name 1))
  (XS.seq (XS.loop (XI.any (XE.fld 0 "blocks" M.cls_Program M.na_Program_blocks (XE.var 0))) (XG.tup 4 (XGs.cons (XG.name 2) (XGs.cons (XG.name 3) (XGs.cons (XG.name 4) (XGs.cons (XG.name 5) XGs.nil)))))
  (XS.seq (XS.drop (XE.dupd (XE.var 1) (XA.cons (XE.dc (XI.any (XE.var 3)) (XG.name 6) XT.yes (XE.var 6) (XE.tup (XA.cons (XE.var 2) (XA.cons (XE.int 0) XA.nil))) [6] (by intro i h; exact h)) XA.nil)))
  (XS.drop (XE.dupd (XE.var 1) (XA.cons (XE.dc (XI.enum (XA.cons (XE.var 4) XA.nil)) (XG.tup 2 (XGs.cons (XG.name 7) (XGs.cons (XG.name 8) XGs.nil))) (XT.ofE (XE.call m_is_giving (XA.cons (XE.var 8) XA.nil))) (XE.ix (XE.var 8) (XE.int 1)) (XE.tup (XA.cons (XE.var 2) (XA.cons (XE.add (XE.var 7) (XE.int 1)) XA.nil))) [7, 8] (by intro i h; exact h)) XA.nil)))))
  (XS.ret (XE.var 1))))
theorem xm_givings (M : Md P w K mg base) : (x_givings M).f = mb_givings := rfl
theorem ok_givings (M : Md P w K mg base) : CK.Ok P w K mg base 2 "givings" ["program"] (spI (ct K w) m_givings) := by
  obtain ⟨fd, F⟩ := M.d_givings
  refine ⟨_, fd, M.g_givings, F.kp, F.bindsN fun _ _ _ _ _ _ us hl => match us, hl with | [_], _ => rfl, F.ok sc_givings (fun vs H Q E h => fn_len (b := mb_givings) h) (fun cdv A outer s H vs Q E hr h => ⟨(x_givings M).t E, PSs.nox ?_, fn_pure (b := x_givings M) (N := N_givings) (k := 1) (by rw [xm_givings]; exact h)⟩)⟩
  exact (b_scons (b_setDc (j := 1) [("name", 2)] rfl sc_givings.nd rfl rfl (sw_trueD rfl rfl rfl (by decide +kernel)) (b_iany (b_fld (b_var 0))) (blkOk_by (own := [("name", 2)]) (N := N_givings) (sc := defScope s_givings) (by decide +kernel)) (fun _ _ _ _ _ => (b_gname (i := 2) sc_givings.nd rfl (.inl rfl))) (fun _ _ _ _ _ => b_tsnil) (fun _ _ _ _ _ => (b_var 2)) (fun _ _ _ _ _ => b_non))
  (b_scons (b_for PassesOwn.never rfl (b_iany (b_fld (b_var 0))) (b_gtup rfl (b_gcons (b_gname (i := 2) sc_givings.nd rfl (.inr rfl)) (b_gcons (b_gname (i := 3) sc_givings.nd rfl (.inl rfl)) (b_gcons (b_gname (i := 4) sc_givings.nd rfl (.inl rfl)) (b_gcons (b_gname (i := 5) sc_givings.nd rfl (.inl rfl)) b_gnil)))))
  (b_scons (b_expr (b_dupd (b_var 1) (b_cons (b_dc [("one", 6)] rfl sc_givings.nd (b_iany (b_var 3)) (blkOk_by (own := [("one", 6)]) (N := N_givings) (sc := defScope s_givings) (by decide +kernel)) (fun _ _ _ _ _ => (b_gname (i := 6) sc_givings.nd rfl (.inl rfl))) (fun _ _ _ _ _ => b_tsnil) (fun _ _ _ _ _ => (b_var 6)) (fun _ _ _ _ _ => (b_tup (b_cons (b_var 2) (b_cons b_int b_nil))))) b_nil)))
  (b_sone (b_expr (b_dupd (b_var 1) (b_cons (b_dc [("index", 7), ("row", 8)] rfl sc_givings.nd (b_ienum rfl M.f_enumerate (b_cons (b_var 4) b_nil)) (blkOk_by (own := [("index", 7), ("row", 8)]) (N := N_givings) (sc := defScope s_givings) (by decide +kernel)) (fun _ _ _ _ _ => (b_gtup rfl (b_gcons (b_gname (i := 7) sc_givings.nd rfl (.inl rfl)) (b_gcons (b_gname (i := 8) sc_givings.nd rfl (.inl rfl)) b_gnil)))) (fun _ _ _ _ _ => (b_tsone (b_test (b_call (ok_is_giving M) (hr.mono (by decide)) rfl (b_cons (b_var 8) b_nil))))) (fun _ _ _ _ _ => (b_ix (CK.hu1 hr) (b_var 8) b_int)) (fun _ _ _ _ _ => (b_tup (b_cons (b_var 2) (b_cons (b_add (b_var 7) b_int) b_nil))))) b_nil))))))
  (b_sone (b_ret (b_var 1)))))
/-! is_usable -/
def N_is_usable : List Str := ["program", "name", "block", "index", "place"]
theorem sc_is_usable : FnScope N_is_usable ["program", "name", "block", "index"] (defScope s_is_usable) := ⟨rfl, rfl, rfl, by decide +kernel, rfl, by decide +kernel, by decide +kernel⟩
def mb_is_usable : CI.Env → M Fl :=
  (msSeq (msIte (mTest (mOp (inM true) (mVar 1) (mFld 0 "given" (mVar 0))))
  (msRet (mC (.bl false)))
  msNext)
  (msSeq (msAsg (mOp ixM (mFld 0 "given" (mVar 0)) (mVar 1)) (mgName 4))
  (msSeq (msIte (mTOr (mTest (mOp (isN false) (mVar 4) (mC .non))) (mTest (mOp (inM false) (mOp ixM (mVar 4) (mC (.int 0))) (mOp ixM (mFld 0 "above" (mVar 0)) (mVar 2)))))
  (msRet (mC (.bl true)))
  msNext)
  (msRet (mAnd (mOp gEq (mOp ixM (mVar 4) (mC (.int 0))) (mVar 2)) (mOp gLe (mOp ixM (mVar 4) (mC (.int 1))) (mVar 3)))))))
def m_is_usable : List AV → M AV := fnM 5 4 mb_is_usable
theorem fr_is_usable : Fd m_is_usable := fd_fn (fs_seq (fs_ite (ft_test (fe_op (f2_in true) (fe_var 1) (fe_fld (fe_var 0)))) (fs_ret (fe_c fun _ => rfl)) fs_next) (fs_seq (fs_asg (fe_op f2_ix (fe_fld (fe_var 0)) (fe_var 1)) (fg_name 4)) (fs_seq (fs_ite (ft_or (ft_test (fe_op (f2_isN false) (fe_var 4) (fe_c fun _ => rfl))) (ft_test (fe_op (f2_in false) (fe_op f2_ix (fe_var 4) (fe_c fun _ => rfl)) (fe_op f2_ix (fe_fld (fe_var 0)) (fe_var 2))))) (fs_ret (fe_c fun _ => rfl)) fs_next) (fs_ret (fe_and (fe_op f2_eq (fe_op f2_ix (fe_var 4) (fe_c fun _ => rfl)) (fe_var 2)) (fe_op f2_le (fe_op f2_ix (fe_var 4) (fe_c fun _ => rfl)) (fe_var 3)))))))
def x_is_usable (M : Md P w K mg base) : XS (ct K w) :=
  (XS.seq (XS.ite (XT.ofE (XE.in true (XE.var 1) (XE.fld 0 "given" M.cls_Program M.na_Program_given (XE.var 0))))
  (XS.ret (XE.bl false))
  XS.next)
  (XS.seq (XS.asg (XE.ix (XE.fld 0 "given" M.cls_Program M.na_Program_given (XE.var 0)) (XE.var 1)) (XG.name 4))
  (XS.seq (XS.ite (XT.or (XT.ofE (XE.isNone (XE.var 4))) (XT.ofE (XE.in false (XE.ix (XE.var 4) (XE.int 0)) (XE.ix (XE.fld 0 "above" M.cls_Program M.na_Program_above (XE.var 0)) (XE.var 2)))))
  (XS.ret (XE.bl true))
  XS.next)
  (XS.ret (XE.and (XE.eq (XE.ix (XE.var 4) (XE.int 0)) (XE.var 2)) (XE.le (XE.ix (XE.var 4) (XE.int 1)) (XE.var 3)))))))
theorem xm_is_usable (M : Md P w K mg base) : (x_is_usable M).f = mb_is_usable := rfl
theorem ok_is_usable (M : Md P w K mg base) : CK.Ok P w K mg base 1 "is_usable" ["program", "name", "block", "index"] (spI (ct K w) m_is_usable) := by
  obtain ⟨fd, F⟩ := M.d_is_usable
  refine ⟨_, fd, M.g_is_usable, F.kp, F.bindsN fun _ _ _ _ _ _ us hl => match us, hl with | [_, _, _, _], _ => rfl, F.ok sc_is_usable (fun vs H Q E h => fn_len (b := mb_is_usable) h) (fun cdv A outer s H vs Q E hr h => ⟨(x_is_usable M).t E, PSs.nox ?_, fn_pure (b := x_is_usable M) (N := N_is_usable) (k := 4) (by rw [xm_is_usable]; exact h)⟩)⟩
  exact (b_scons (b_if (b_tnin (CK.hu1 hr) (b_var 1) (b_fld (b_var 0)))
  (b_sone (b_ret b_bl))
  b_snil)
  (b_scons (b_set (j := 4) sc_is_usable.nd rfl (.inl rfl) (b_ix (CK.hu1 hr) (b_fld (b_var 0)) (b_var 1)))
  (b_scons (b_if (b_pt (b_wor (b_tisN (b_var 4)) (b_wor1 (b_tin (CK.hu1 hr) (b_ix (CK.hu1 hr) (b_var 4) b_int) (b_ix (CK.hu1 hr) (b_fld (b_var 0)) (b_var 2))))))
  (b_sone (b_ret b_bl))
  b_snil)
  (b_sone (b_ret (b_and (b_eq (CK.hu64 hr) (b_ix (CK.hu1 hr) (b_var 4) b_int) (b_var 2)) (b_one (b_le (b_ix (CK.hu1 hr) (b_var 4) b_int) (b_var 3)))))))))
/-! used_by -/
def N_used_by : List Str := ["end", "found", "goal", "args"]
theorem sc_used_by : FnScope N_used_by ["end"] (defScope s_used_by) := ⟨rfl, rfl, rfl, by decide +kernel, rfl, by decide +kernel, by decide +kernel⟩
def mb_used_by : CI.Env → M Fl :=
  (msSeq (msAsg (mIfe (mTest (mOp gEq (mOp ixM (mVar 0) (mC (.int 0))) (mC (.str "go")))) (mLst mNil) (mCb listM (mCons (mIfe (mTest (mOp gEq (mOp ixM (mVar 0) (mC (.int 0))) (mC (.str "less")))) (mSl (mVar 0) (mPart (mC (.int 1))) (mPart (mC (.int 3)))) (mSl (mVar 0) (mPart (mC (.int 1))) (mPart (mC (.int 2))))) mNil))) (mgName 1))
  (msSeq (msLoop (mIt itAny (mCb m_goals (mCons (mVar 0) mNil))) (mgTup 2 (mgCons (mgName 2) (mgCons (mgName 3) mgNil)))
  (msDrop (mBm extM okL (mVar 1) (mCons (mVar 3) mNil))))
  (msRet (mVar 1))))
def m_used_by : List AV → M AV := fnM 4 1 mb_used_by
theorem fr_used_by : Fd m_used_by := fd_fn (fs_seq (fs_asg (fe_ife (ft_test (fe_op f2_eq (fe_op f2_ix (fe_var 0) (fe_c fun _ => rfl)) (fe_c fun _ => rfl))) (fe_lst fa_nil) (fe_cb fd_list (fa_cons (fe_ife (ft_test (fe_op f2_eq (fe_op f2_ix (fe_var 0) (fe_c fun _ => rfl)) (fe_c fun _ => rfl))) (fe_sl (fe_var 0) (fo_of (fe_c fun _ => rfl)) (fo_of (fe_c fun _ => rfl))) (fe_sl (fe_var 0) (fo_of (fe_c fun _ => rfl)) (fo_of (fe_c fun _ => rfl)))) fa_nil))) (fg_name 1)) (fs_seq (fs_loop (fi_it it_any (fe_cb fr_goals (fa_cons (fe_var 0) fa_nil))) (fg_tup (fgs_cons (fg_name 2) (fgs_cons (fg_name 3) fgs_nil))) (fs_drop (fe_bm (fun _ x xs => fm_ext x xs) fu_okL (fe_var 1) (fa_cons (fe_var 3) fa_nil)))) (fs_ret (fe_var 1))))
def x_used_by (M : Md P w K mg base) : XS (ct K w) :=
  (XS.seq (XS.asg (XE.ife (XT.ofE (XE.eq (XE.ix (XE.var 0) (XE.int 0)) (XE.str "go"))) (XE.lst XA.nil) (XE.list1 (XA.cons (XE.ife (XT.ofE (XE.eq (XE.ix (XE.var 0) (XE.int 0)) (XE.str "less"))) (XE.sl (XE.var 0) (XO.of (XE.int 1)) (XO.of (XE.int 3))) (XE.sl (XE.var 0) (XO.of (XE.int 1)) (XO.of (XE.int 2)))) XA.nil))) (XG.name 1))
  (XS.seq (XS.loop (XI.any (XE.call m_goals (XA.cons (XE.var 0) XA.nil))) (XG.tup 2 (XGs.cons (XG.name 2) (XGs.cons (XG.name 3) XGs.nil)))
  (XS.drop (XE.extend (XE.var 1) (XA.cons (XE.var 3) XA.nil))))
  (XS.ret (XE.var 1))))
theorem xm_used_by (M : Md P w K mg base) : (x_used_by M).f = mb_used_by := rfl
theorem ok_used_by (M : Md P w K mg base) : CK.Ok P w K mg base 2 "used_by" ["end"] (spI (ct K w) m_used_by) := by
  obtain ⟨fd, F⟩ := M.d_used_by
  refine ⟨_, fd, M.g_used_by, F.kp, F.bindsN fun _ _ _ _ _ _ us hl => match us, hl with | [_], _ => rfl, F.ok sc_used_by (fun vs H Q E h => fn_len (b := mb_used_by) h) (fun cdv A outer s H vs Q E hr h => ⟨(x_used_by M).t E, PSs.nox ?_, fn_pure (b := x_used_by M) (N := N_used_by) (k := 1) (by rw [xm_used_by]; exact h)⟩)⟩
  exact (b_scons (b_set (j := 1) sc_used_by.nd rfl (.inl rfl) (b_ife (b_teq (CK.hu64 hr) (b_ix (CK.hu1 hr) (b_var 0) b_int) b_str) (b_lst b_nil) (b_list1 rfl M.f_list boot_list (b_cons (b_ife (b_teq (CK.hu64 hr) (b_ix (CK.hu1 hr) (b_var 0) b_int) b_str) (b_sl (b_var 0) (b_pof b_int) (b_pof b_int)) (b_sl (b_var 0) (b_pof b_int) (b_pof b_int))) b_nil))))
  (b_scons (b_for PassesOwn.never rfl (b_iany (b_call (ok_goals M) (hr.mono (by decide)) rfl (b_cons (b_var 0) b_nil))) (b_gtup rfl (b_gcons (b_gname (i := 2) sc_used_by.nd rfl (.inl rfl)) (b_gcons (b_gname (i := 3) sc_used_by.nd rfl (.inl rfl)) b_gnil)))
  (b_sone (b_expr (b_extend (b_var 1) (b_cons (b_var 3) b_nil)))))
  (b_sone (b_ret (b_var 1)))))
/-! used_in -/
def N_used_in : List Str := ["row", "thing", "letter"]
theorem sc_used_in : FnScope N_used_in ["row"] (defScope s_used_in) := ⟨rfl, rfl, rfl, by decide +kernel, rfl, by decide +kernel, by decide +kernel⟩
def mb_used_in : CI.Env → M Fl :=
  (msRet (mLc (mItA itZip (mCons (mSl (mVar 0) (mPart (mC (.int 1))) mNoP) (mCons (mOp ixM (mC (.wd es_FORMS)) (mOp ixM (mVar 0) (mC (.int 0)))) mNil))) (mgTup 2 (mgCons (mgName 1) (mgCons (mgName 2) mgNil))) (mTest (mOp gEq (mVar 2) (mC (.str "u")))) (mVar 1) [1, 2]))
def m_used_in : List AV → M AV := fnM 3 1 mb_used_in
theorem fr_used_in : Fd m_used_in := fd_fn (fs_ret (fe_lc (fi_itA it_zip (fa_cons (fe_sl (fe_var 0) (fo_of (fe_c fun _ => rfl)) fo_no) (fa_cons (fe_op f2_ix (fe_c fun _ => rfl) (fe_op f2_ix (fe_var 0) (fe_c fun _ => rfl))) fa_nil))) (fg_tup (fgs_cons (fg_name 1) (fgs_cons (fg_name 2) fgs_nil))) (ft_test (fe_op f2_eq (fe_var 2) (fe_c fun _ => rfl))) (fe_var 1)))
def x_used_in (M : Md P w K mg base) : XS (ct K w) :=
  (XS.ret (XE.lc (XI.zip (XA.cons (XE.sl (XE.var 0) (XO.of (XE.int 1)) XO.no) (XA.cons (XE.ix (XE.cst (.ref (He.ga K "FORMS")) (.wd es_FORMS) (fun _ _ => .wd M.w_FORMS)) (XE.ix (XE.var 0) (XE.int 0))) XA.nil))) (XG.tup 2 (XGs.cons (XG.name 1) (XGs.cons (XG.name 2) XGs.nil))) (XT.ofE (XE.eq (XE.var 2) (XE.str "u"))) (XE.var 1) [1, 2] (by intro i h; exact h)))
theorem xm_used_in (M : Md P w K mg base) : (x_used_in M).f = mb_used_in := rfl
theorem ok_used_in (M : Md P w K mg base) : CK.Ok P w K mg base 1 "used_in" ["row"] (spI (ct K w) m_used_in) := by
  obtain ⟨fd, F⟩ := M.d_used_in
  refine ⟨_, fd, M.g_used_in, F.kp, F.bindsN fun _ _ _ _ _ _ us hl => match us, hl with | [_], _ => rfl, F.ok sc_used_in (fun vs H Q E h => fn_len (b := mb_used_in) h) (fun cdv A outer s H vs Q E hr h => ⟨(x_used_in M).t E, PSs.nox ?_, fn_pure (b := x_used_in M) (N := N_used_in) (k := 1) (by rw [xm_used_in]; exact h)⟩)⟩
  exact (b_sone (b_ret (b_lc [("thing", 1), ("letter", 2)] rfl sc_used_in.nd (b_izip rfl M.f_zip (b_cons (b_sl (b_var 0) (b_pof b_int) b_pno) (b_cons (b_ix (CK.hu1 hr) (b_gref rfl M.g_FORMS) (b_ix (CK.hu1 hr) (b_var 0) b_int)) b_nil))) (blkOk_by (own := [("thing", 1), ("letter", 2)]) (N := N_used_in) (sc := defScope s_used_in) (by decide +kernel)) (fun _ _ _ _ _ => (b_gtup rfl (b_gcons (b_gname (i := 1) sc_used_in.nd rfl (.inl rfl)) (b_gcons (b_gname (i := 2) sc_used_in.nd rfl (.inl rfl)) b_gnil)))) (fun _ _ _ _ _ => (b_tsone (b_teq (CK.hu64 hr) (b_var 2) b_str))) (fun _ _ _ _ _ => (b_var 1)))))
/-! check_uses -/
def N_check_uses : List Str := ["program", "name", "params", "rows", "end", "index", "row", "one"]
theorem sc_check_uses : FnScope N_check_uses ["program"] (defScope s_check_uses) := ⟨rfl, rfl, rfl, by decide +kernel, rfl, by decide +kernel, by decide +kernel⟩
def mb_check_uses : CI.Env → M Fl :=
  (msLoop (mIt itAny (mFld 0 "blocks" (mVar 0))) (mgTup 4 (mgCons (mgName 1) (mgCons (mgName 2) (mgCons (mgName 3) (mgCons (mgName 4) mgNil)))))
  (msSeq (msLoop (mItA itEnum (mCons (mVar 3) mNil)) (mgTup 2 (mgCons (mgName 5) (mgCons (mgName 6) mgNil)))
  (msIte (mTNot (mTest (mCb allM (mCons (mLc (mIt itAny (mCb m_used_in (mCons (mVar 6) mNil))) (mgName 7) mYes (mCb m_is_usable (mCons (mVar 0) (mCons (mVar 7) (mCons (mVar 1) (mCons (mVar 5) mNil))))) [7]) mNil))))
  msNever
  msNext))
  (msIte (mTNot (mTest (mCb allM (mCons (mLc (mIt itAny (mCb m_used_by (mCons (mVar 4) mNil))) (mgName 7) mYes (mCb m_is_usable (mCons (mVar 0) (mCons (mVar 7) (mCons (mVar 1) (mCons (mCb lenM (mCons (mVar 3) mNil)) mNil))))) [7]) mNil))))
  msNever
  msNext)))
def m_check_uses : List AV → M AV := fnM 8 1 mb_check_uses
theorem fr_check_uses : Fd m_check_uses := fd_fn (fs_loop (fi_it it_any (fe_fld (fe_var 0))) (fg_tup (fgs_cons (fg_name 1) (fgs_cons (fg_name 2) (fgs_cons (fg_name 3) (fgs_cons (fg_name 4) fgs_nil))))) (fs_seq (fs_loop (fi_itA it_enum (fa_cons (fe_var 3) fa_nil)) (fg_tup (fgs_cons (fg_name 5) (fgs_cons (fg_name 6) fgs_nil))) (fs_ite (ft_not (ft_test (fe_cb fd_all (fa_cons (fe_lc (fi_it it_any (fe_cb fr_used_in (fa_cons (fe_var 6) fa_nil))) (fg_name 7) ft_yes (fe_cb fr_is_usable (fa_cons (fe_var 0) (fa_cons (fe_var 7) (fa_cons (fe_var 1) (fa_cons (fe_var 5) fa_nil)))))) fa_nil)))) fs_never fs_next)) (fs_ite (ft_not (ft_test (fe_cb fd_all (fa_cons (fe_lc (fi_it it_any (fe_cb fr_used_by (fa_cons (fe_var 4) fa_nil))) (fg_name 7) ft_yes (fe_cb fr_is_usable (fa_cons (fe_var 0) (fa_cons (fe_var 7) (fa_cons (fe_var 1) (fa_cons (fe_cb fd_len (fa_cons (fe_var 3) fa_nil)) fa_nil)))))) fa_nil)))) fs_never fs_next)))
def x_check_uses (M : Md P w K mg base) : XS (ct K w) :=
  (XS.loop (XI.any (XE.fld 0 "blocks" M.cls_Program M.na_Program_blocks (XE.var 0))) (XG.tup 4 (XGs.cons (XG.name 1) (XGs.cons (XG.name 2) (XGs.cons (XG.name 3) (XGs.cons (XG.name 4) XGs.nil)))))
  (XS.seq (XS.loop (XI.enum (XA.cons (XE.var 3) XA.nil)) (XG.tup 2 (XGs.cons (XG.name 5) (XGs.cons (XG.name 6) XGs.nil)))
  (XS.ite (XT.not (XT.ofE (XE.all (XA.cons (XE.lc (XI.any (XE.call m_used_in (XA.cons (XE.var 6) XA.nil))) (XG.name 7) XT.yes (XE.call m_is_usable (XA.cons (XE.var 0) (XA.cons (XE.var 7) (XA.cons (XE.var 1) (XA.cons (XE.var 5) XA.nil))))) [7] (by intro i h; exact h)) XA.nil))))
  XS.never
  XS.next))
  (XS.ite (XT.not (XT.ofE (XE.all (XA.cons (XE.lc (XI.any (XE.call m_used_by (XA.cons (XE.var 4) XA.nil))) (XG.name 7) XT.yes (XE.call m_is_usable (XA.cons (XE.var 0) (XA.cons (XE.var 7) (XA.cons (XE.var 1) (XA.cons (XE.len (XA.cons (XE.var 3) XA.nil)) XA.nil))))) [7] (by intro i h; exact h)) XA.nil))))
  XS.never
  XS.next)))
theorem xm_check_uses (M : Md P w K mg base) : (x_check_uses M).f = mb_check_uses := rfl
theorem ok_check_uses (M : Md P w K mg base) : CK.Ok P w K mg base 3 "check_uses" ["program"] (spI (ct K w) m_check_uses) := by
  obtain ⟨fd, F⟩ := M.d_check_uses
  refine ⟨_, fd, M.g_check_uses, F.kp, F.bindsN fun _ _ _ _ _ _ us hl => match us, hl with | [_], _ => rfl, F.ok sc_check_uses (fun vs H Q E h => fn_len (b := mb_check_uses) h) (fun cdv A outer s H vs Q E hr h => ⟨(x_check_uses M).t E, PSs.nox ?_, fn_pure (b := x_check_uses M) (N := N_check_uses) (k := 1) (by rw [xm_check_uses]; exact h)⟩)⟩
  exact (b_sone (b_for PassesOwn.never rfl (b_iany (b_fld (b_var 0))) (b_gtup rfl (b_gcons (b_gname (i := 1) sc_check_uses.nd rfl (.inr rfl)) (b_gcons (b_gname (i := 2) sc_check_uses.nd rfl (.inl rfl)) (b_gcons (b_gname (i := 3) sc_check_uses.nd rfl (.inr rfl)) (b_gcons (b_gname (i := 4) sc_check_uses.nd rfl (.inl rfl)) b_gnil)))))
  (b_scons (b_for PassesOwn.never rfl (b_ienum rfl M.f_enumerate (b_cons (b_var 3) b_nil)) (b_gtup rfl (b_gcons (b_gname (i := 5) sc_check_uses.nd rfl (.inr rfl)) (b_gcons (b_gname (i := 6) sc_check_uses.nd rfl (.inl rfl)) b_gnil)))
  (b_sone (b_if (b_tnot (b_test (b_all rfl rfl M.f_all boot_all (b_cons (b_lc [("one", 7)] rfl sc_check_uses.nd (b_iany (b_call (ok_used_in M) (hr.mono (by decide)) rfl (b_cons (b_var 6) b_nil))) (blkOk_by (own := [("one", 7)]) (N := N_check_uses) (sc := defScope s_check_uses) (by decide +kernel)) (fun _ _ _ _ _ => (b_gname (i := 7) sc_check_uses.nd rfl (.inl rfl))) (fun _ _ _ _ _ => b_tsnil) (fun _ _ _ _ _ => (b_call (ok_is_usable M) (hr.mono (by decide)) rfl (b_cons (b_var 0) (b_cons (b_var 7) (b_cons (b_var 1) (b_cons (b_var 5) b_nil))))))) b_nil))))
  (b_sone b_never)
  b_snil)))
  (b_sone (b_if (b_tnot (b_test (b_all rfl rfl M.f_all boot_all (b_cons (b_lc [("one", 7)] rfl sc_check_uses.nd (b_iany (b_call (ok_used_by M) (hr.mono (by decide)) rfl (b_cons (b_var 4) b_nil))) (blkOk_by (own := [("one", 7)]) (N := N_check_uses) (sc := defScope s_check_uses) (by decide +kernel)) (fun _ _ _ _ _ => (b_gname (i := 7) sc_check_uses.nd rfl (.inl rfl))) (fun _ _ _ _ _ => b_tsnil) (fun _ _ _ _ _ => (b_call (ok_is_usable M) (hr.mono (by decide)) rfl (b_cons (b_var 0) (b_cons (b_var 7) (b_cons (b_var 1) (b_cons (b_len  rfl M.f_len boot_len (b_cons (b_var 3) b_nil)) b_nil))))))) b_nil))))
  (b_sone b_never)
  b_snil)))))
/-! Program_init -/
def N_Program_init : List Str := ["self", "lists", "numbers", "blocks", "block"]
theorem sc_Program_init : FnScope N_Program_init ["self", "lists", "numbers", "blocks"] (defScope s_Program_init) := ⟨rfl, rfl, rfl, by decide +kernel, rfl, by decide +kernel, by decide +kernel⟩
def mb_Program_init : CI.Env → M Fl :=
  (msSeq (msDrop (mCb m_check_parameters (mCons (mVar 1) (mCons (mVar 2) mNil))))
  (msSeq (msDrop (mCb m_check_blocks (mCons (mVar 1) (mCons (mVar 2) (mCons (mVar 3) mNil)))))
  (msSeq (msSetf 0 "lists" (mVar 0) (mVar 1))
  (msSeq (msSetf 0 "numbers" (mVar 0) (mVar 2))
  (msSeq (msSetf 0 "blocks" (mVar 0) (mVar 3))
  (msSeq (msSetf 0 "parts" (mVar 0) (mDc (mIt itAny (mVar 3)) (mgName 4) mYes (mOp ixM (mVar 4) (mC (.int 0))) (mVar 4) [4]))
  (msSeq (msDrop (mCb m_check_goals (mCons (mVar 0) mNil)))
  (msSeq (msSetf 0 "above" (mVar 0) (mCb m_dominators (mCons (mVar 0) mNil)))
  (msSeq (msSetf 0 "given" (mVar 0) (mCb m_givings (mCons (mVar 0) mNil)))
  (msSeq (msSetf 0 "kept" (mVar 0) mDict0)
  (msDrop (mCb m_check_uses (mCons (mVar 0) mNil)))))))))))))
def m_Program_init : List AV → M AV := fnM 5 4 mb_Program_init
theorem fr_Program_init : Fd m_Program_init := fd_fn (fs_seq (fs_drop (fe_cb fr_check_parameters (fa_cons (fe_var 1) (fa_cons (fe_var 2) fa_nil)))) (fs_seq (fs_drop (fe_cb fr_check_blocks (fa_cons (fe_var 1) (fa_cons (fe_var 2) (fa_cons (fe_var 3) fa_nil))))) (fs_seq (fs_setf (fe_var 0) (fe_var 1)) (fs_seq (fs_setf (fe_var 0) (fe_var 2)) (fs_seq (fs_setf (fe_var 0) (fe_var 3)) (fs_seq (fs_setf (fe_var 0) (fe_dc (fi_it it_any (fe_var 3)) (fg_name 4) ft_yes (fe_op f2_ix (fe_var 4) (fe_c fun _ => rfl)) (fe_var 4))) (fs_seq (fs_drop (fe_cb fr_check_goals (fa_cons (fe_var 0) fa_nil))) (fs_seq (fs_setf (fe_var 0) (fe_cb fr_dominators (fa_cons (fe_var 0) fa_nil))) (fs_seq (fs_setf (fe_var 0) (fe_cb fr_givings (fa_cons (fe_var 0) fa_nil))) (fs_seq (fs_setf (fe_var 0) fe_dict0) (fs_drop (fe_cb fr_check_uses (fa_cons (fe_var 0) fa_nil)))))))))))))
def x_Program_init (M : Md P w K mg base) : XS (ct K w) :=
  (XS.seq (XS.drop (XE.call m_check_parameters (XA.cons (XE.var 1) (XA.cons (XE.var 2) XA.nil))))
  (XS.seq (XS.drop (XE.call m_check_blocks (XA.cons (XE.var 1) (XA.cons (XE.var 2) (XA.cons (XE.var 3) XA.nil)))))
  (XS.seq (XS.setf 0 "lists" M.cls_Program M.na_Program_lists (XE.var 0) (XE.var 1))
  (XS.seq (XS.setf 0 "numbers" M.cls_Program M.na_Program_numbers (XE.var 0) (XE.var 2))
  (XS.seq (XS.setf 0 "blocks" M.cls_Program M.na_Program_blocks (XE.var 0) (XE.var 3))
  (XS.seq (XS.setf 0 "parts" M.cls_Program M.na_Program_parts (XE.var 0) (XE.dc (XI.any (XE.var 3)) (XG.name 4) XT.yes (XE.ix (XE.var 4) (XE.int 0)) (XE.var 4) [4] (by intro i h; exact h)))
  (XS.seq (XS.drop (XE.call m_check_goals (XA.cons (XE.var 0) XA.nil)))
  (XS.seq (XS.setf 0 "above" M.cls_Program M.na_Program_above (XE.var 0) (XE.call m_dominators (XA.cons (XE.var 0) XA.nil)))
  (XS.seq (XS.setf 0 "given" M.cls_Program M.na_Program_given (XE.var 0) (XE.call m_givings (XA.cons (XE.var 0) XA.nil)))
  (XS.seq (XS.setf 0 "kept" M.cls_Program M.na_Program_kept (XE.var 0) XE.dict0)
  (XS.drop (XE.call m_check_uses (XA.cons (XE.var 0) XA.nil)))))))))))))
theorem xm_Program_init (M : Md P w K mg base) : (x_Program_init M).f = mb_Program_init := rfl
theorem ok_Program_init (M : Md P w K mg base) : CK.OkI P w K mg base (He.ga K "Program") 6 "Program" ["self", "lists", "numbers", "blocks"] (spI (ct K w) m_Program_init) := by
  obtain ⟨fd, F⟩ := M.d_Program_init
  refine ⟨_, fd, M.g_Program, M.mk_Program, F.bindsN fun _ _ _ _ _ _ us hl => match us, hl with | [_, _, _, _], _ => rfl, F.ok sc_Program_init (fun vs H Q E h => fn_len (b := mb_Program_init) h) (fun cdv A outer s H vs Q E hr h => ⟨(x_Program_init M).t E, PSs.nox ?_, fn_pure (b := x_Program_init M) (N := N_Program_init) (k := 4) (by rw [xm_Program_init]; exact h)⟩)⟩
  exact (b_scons (b_expr (b_call (ok_check_parameters M) (hr.mono (by decide)) rfl (b_cons (b_var 1) (b_cons (b_var 2) b_nil))))
  (b_scons (b_expr (b_call (ok_check_blocks M) (hr.mono (by decide)) rfl (b_cons (b_var 1) (b_cons (b_var 2) (b_cons (b_var 3) b_nil)))))
  (b_scons (b_setf (b_var 0) (b_var 1))
  (b_scons (b_setf (b_var 0) (b_var 2))
  (b_scons (b_setf (b_var 0) (b_var 3))
  (b_scons (b_setf (b_var 0) (b_dc [("block", 4)] rfl sc_Program_init.nd (b_iany (b_var 3)) (blkOk_by (own := [("block", 4)]) (N := N_Program_init) (sc := defScope s_Program_init) (by decide +kernel)) (fun _ _ _ _ _ => (b_gname (i := 4) sc_Program_init.nd rfl (.inl rfl))) (fun _ _ _ _ _ => b_tsnil) (fun _ _ _ _ _ => (b_ix (CK.hu1 hr) (b_var 4) b_int)) (fun _ _ _ _ _ => (b_var 4))))
  (b_scons (b_expr (b_call (ok_check_goals M) (hr.mono (by decide)) rfl (b_cons (b_var 0) b_nil)))
  (b_scons (b_setf (b_var 0) (b_call (ok_dominators M) (hr.mono (by decide)) rfl (b_cons (b_var 0) b_nil)))
  (b_scons (b_setf (b_var 0) (b_call (ok_givings M) (hr.mono (by decide)) rfl (b_cons (b_var 0) b_nil)))
  (b_scons (b_setf (b_var 0) b_dict0)
  (b_sone (b_expr (b_call (ok_check_uses M) (hr.mono (by decide)) rfl (b_cons (b_var 0) b_nil))))))))))))))
/-! Machine_init -/
def N_Machine_init : List Str := ["self", "program", "lists", "numbers", "name", "one"]
theorem sc_Machine_init : FnScope N_Machine_init ["self", "program", "lists", "numbers"] (defScope s_Machine_init) := ⟨rfl, rfl, rfl, by decide +kernel, rfl, by decide +kernel, by decide +kernel⟩
def mb_Machine_init : CI.Env → M Fl :=
  (msSeq (msSetf 1 "program" (mVar 0) (mVar 1))
  (msSeq (msSetf 1 "cells" (mVar 0) (mDc (mItA itZip (mCons (mFld 0 "lists" (mVar 1)) (mCons (mVar 2) mNil))) (mgTup 2 (mgCons (mgName 4) (mgCons (mgName 5) mgNil))) mYes (mVar 4) (mCb listM (mCons (mVar 5) mNil)) [4, 5]))
  (msSetf 1 "worth" (mVar 0) (mCb dzM (mCons (mFld 0 "numbers" (mVar 1)) (mCons (mVar 3) mNil))))))
def m_Machine_init : List AV → M AV := fnM 6 4 mb_Machine_init
theorem fr_Machine_init : Fd m_Machine_init := fd_fn (fs_seq (fs_setf (fe_var 0) (fe_var 1)) (fs_seq (fs_setf (fe_var 0) (fe_dc (fi_itA it_zip (fa_cons (fe_fld (fe_var 1)) (fa_cons (fe_var 2) fa_nil))) (fg_tup (fgs_cons (fg_name 4) (fgs_cons (fg_name 5) fgs_nil))) ft_yes (fe_var 4) (fe_cb fd_list (fa_cons (fe_var 5) fa_nil)))) (fs_setf (fe_var 0) (fe_cb fd_dz (fa_cons (fe_fld (fe_var 1)) (fa_cons (fe_var 3) fa_nil))))))
def x_Machine_init (M : Md P w K mg base) : XS (ct K w) :=
  (XS.seq (XS.setf 1 "program" M.cls_Machine M.na_Machine_program (XE.var 0) (XE.var 1))
  (XS.seq (XS.setf 1 "cells" M.cls_Machine M.na_Machine_cells (XE.var 0) (XE.dc (XI.zip (XA.cons (XE.fld 0 "lists" M.cls_Program M.na_Program_lists (XE.var 1)) (XA.cons (XE.var 2) XA.nil))) (XG.tup 2 (XGs.cons (XG.name 4) (XGs.cons (XG.name 5) XGs.nil))) XT.yes (XE.var 4) (XE.list1 (XA.cons (XE.var 5) XA.nil)) [4, 5] (by intro i h; exact h)))
  (XS.setf 1 "worth" M.cls_Machine M.na_Machine_worth (XE.var 0) (XE.dzip (XA.cons (XE.fld 0 "numbers" M.cls_Program M.na_Program_numbers (XE.var 1)) (XA.cons (XE.var 3) XA.nil))))))
theorem xm_Machine_init (M : Md P w K mg base) : (x_Machine_init M).f = mb_Machine_init := rfl
theorem ok_Machine_init (M : Md P w K mg base) : CK.OkI P w K mg base (He.ga K "Machine") 1 "Machine" ["self", "program", "lists", "numbers"] (spI (ct K w) m_Machine_init) := by
  obtain ⟨fd, F⟩ := M.d_Machine_init
  refine ⟨_, fd, M.g_Machine, M.mk_Machine, F.bindsN fun _ _ _ _ _ _ us hl => match us, hl with | [_, _, _, _], _ => rfl, F.ok sc_Machine_init (fun vs H Q E h => fn_len (b := mb_Machine_init) h) (fun cdv A outer s H vs Q E hr h => ⟨(x_Machine_init M).t E, PSs.nox ?_, fn_pure (b := x_Machine_init M) (N := N_Machine_init) (k := 4) (by rw [xm_Machine_init]; exact h)⟩)⟩
  exact (b_scons (b_setf (b_var 0) (b_var 1))
  (b_scons (b_setf (b_var 0) (b_dc [("name", 4), ("one", 5)] rfl sc_Machine_init.nd (b_izip rfl M.f_zip (b_cons (b_fld (b_var 1)) (b_cons (b_var 2) b_nil))) (blkOk_by (own := [("name", 4), ("one", 5)]) (N := N_Machine_init) (sc := defScope s_Machine_init) (by decide +kernel)) (fun _ _ _ _ _ => (b_gtup rfl (b_gcons (b_gname (i := 4) sc_Machine_init.nd rfl (.inl rfl)) (b_gcons (b_gname (i := 5) sc_Machine_init.nd rfl (.inl rfl)) b_gnil)))) (fun _ _ _ _ _ => b_tsnil) (fun _ _ _ _ _ => (b_var 4)) (fun _ _ _ _ _ => (b_list1 rfl M.f_list boot_list (b_cons (b_var 5) b_nil)))))
  (b_sone (b_setf (b_var 0) (b_dzip rfl rfl M.f_dict rfl M.f_zip (b_cons (b_fld (b_var 1)) (b_cons (b_var 3) b_nil)))))))
/-! Machine_look -/
def N_Machine_look : List Str := ["self", "point"]
theorem sc_Machine_look : FnScope N_Machine_look ["self", "point"] (defScope s_Machine_look) := ⟨rfl, rfl, rfl, by decide +kernel, rfl, by decide +kernel, by decide +kernel⟩
def mb_Machine_look : CI.Env → M Fl :=
  (msRet (mC .non))
def m_Machine_look : List AV → M AV := fnM 2 2 mb_Machine_look
theorem fr_Machine_look : Fd m_Machine_look := fd_fn (fs_ret (fe_c fun _ => rfl))
def x_Machine_look (M : Md P w K mg base) : XS (ct K w) :=
  (XS.ret XE.non)
theorem xm_Machine_look (M : Md P w K mg base) : (x_Machine_look M).f = mb_Machine_look := rfl
theorem ok_Machine_look (M : Md P w K mg base) : CK.OkM P w K mg base (He.ga K "Machine") 1 "look" ["self", "point"] (spI (ct K w) m_Machine_look) := by
  obtain ⟨fd, F⟩ := M.d_Machine_look
  refine ⟨_, fd, M.me_Machine_look, F.bindsN fun _ _ _ _ _ _ us hl => match us, hl with | [_, _], _ => rfl, F.ok sc_Machine_look (fun vs H Q E h => fn_len (b := mb_Machine_look) h) (fun cdv A outer s H vs Q E hr h => ⟨(x_Machine_look M).t E, PSs.nox ?_, fn_pure (b := x_Machine_look M) (N := N_Machine_look) (k := 2) (by rw [xm_Machine_look]; exact h)⟩)⟩
  exact (b_sone (b_ret b_non))
/-! Machine_is_left_out -/
def N_Machine_is_left_out : List Str := ["self", "check"]
theorem sc_Machine_is_left_out : FnScope N_Machine_is_left_out ["self", "check"] (defScope s_Machine_is_left_out) := ⟨rfl, rfl, rfl, by decide +kernel, rfl, by decide +kernel, by decide +kernel⟩
def mb_Machine_is_left_out : CI.Env → M Fl :=
  (msRet (mC (.bl false)))
def m_Machine_is_left_out : List AV → M AV := fnM 2 2 mb_Machine_is_left_out
theorem fr_Machine_is_left_out : Fd m_Machine_is_left_out := fd_fn (fs_ret (fe_c fun _ => rfl))
def x_Machine_is_left_out (M : Md P w K mg base) : XS (ct K w) :=
  (XS.ret (XE.bl false))
theorem xm_Machine_is_left_out (M : Md P w K mg base) : (x_Machine_is_left_out M).f = mb_Machine_is_left_out := rfl
theorem ok_Machine_is_left_out (M : Md P w K mg base) : CK.OkM P w K mg base (He.ga K "Machine") 1 "is_left_out" ["self", "check"] (spI (ct K w) m_Machine_is_left_out) := by
  obtain ⟨fd, F⟩ := M.d_Machine_is_left_out
  refine ⟨_, fd, M.me_Machine_is_left_out, F.bindsN fun _ _ _ _ _ _ us hl => match us, hl with | [_, _], _ => rfl, F.ok sc_Machine_is_left_out (fun vs H Q E h => fn_len (b := mb_Machine_is_left_out) h) (fun cdv A outer s H vs Q E hr h => ⟨(x_Machine_is_left_out M).t E, PSs.nox ?_, fn_pure (b := x_Machine_is_left_out M) (N := N_Machine_is_left_out) (k := 2) (by rw [xm_Machine_is_left_out]; exact h)⟩)⟩
  exact (b_sone (b_ret b_bl))
/-! Machine_way_of -/
def N_Machine_way_of : List Str := ["self", "end"]
theorem sc_Machine_way_of : FnScope N_Machine_way_of ["self", "end"] (defScope s_Machine_way_of) := ⟨rfl, rfl, rfl, by decide +kernel, rfl, by decide +kernel, by decide +kernel⟩
def mb_Machine_way_of : CI.Env → M Fl :=
  (msRet (mIfe (mTOr (mTest (mOp gEq (mOp ixM (mVar 1) (mC (.int 0))) (mC (.str "go")))) (mTest (mOp gLt (mOp ixM (mFld 1 "worth" (mVar 0)) (mOp ixM (mVar 1) (mC (.int 1)))) (mOp ixM (mFld 1 "worth" (mVar 0)) (mOp ixM (mVar 1) (mC (.int 2))))))) (mC (.int 0)) (mC (.int 1))))
def m_Machine_way_of : List AV → M AV := fnM 2 2 mb_Machine_way_of
theorem fr_Machine_way_of : Fd m_Machine_way_of := fd_fn (fs_ret (fe_ife (ft_or (ft_test (fe_op f2_eq (fe_op f2_ix (fe_var 1) (fe_c fun _ => rfl)) (fe_c fun _ => rfl))) (ft_test (fe_op f2_lt (fe_op f2_ix (fe_fld (fe_var 0)) (fe_op f2_ix (fe_var 1) (fe_c fun _ => rfl))) (fe_op f2_ix (fe_fld (fe_var 0)) (fe_op f2_ix (fe_var 1) (fe_c fun _ => rfl)))))) (fe_c fun _ => rfl) (fe_c fun _ => rfl)))
def x_Machine_way_of (M : Md P w K mg base) : XS (ct K w) :=
  (XS.ret (XE.ife (XT.or (XT.ofE (XE.eq (XE.ix (XE.var 1) (XE.int 0)) (XE.str "go"))) (XT.ofE (XE.lt (XE.ix (XE.fld 1 "worth" M.cls_Machine M.na_Machine_worth (XE.var 0)) (XE.ix (XE.var 1) (XE.int 1))) (XE.ix (XE.fld 1 "worth" M.cls_Machine M.na_Machine_worth (XE.var 0)) (XE.ix (XE.var 1) (XE.int 2)))))) (XE.int 0) (XE.int 1)))
theorem xm_Machine_way_of (M : Md P w K mg base) : (x_Machine_way_of M).f = mb_Machine_way_of := rfl
theorem ok_Machine_way_of (M : Md P w K mg base) : CK.OkM P w K mg base (He.ga K "Machine") 1 "way_of" ["self", "end"] (spI (ct K w) m_Machine_way_of) := by
  obtain ⟨fd, F⟩ := M.d_Machine_way_of
  refine ⟨_, fd, M.me_Machine_way_of, F.bindsN fun _ _ _ _ _ _ us hl => match us, hl with | [_, _], _ => rfl, F.ok sc_Machine_way_of (fun vs H Q E h => fn_len (b := mb_Machine_way_of) h) (fun cdv A outer s H vs Q E hr h => ⟨(x_Machine_way_of M).t E, PSs.nox ?_, fn_pure (b := x_Machine_way_of M) (N := N_Machine_way_of) (k := 2) (by rw [xm_Machine_way_of]; exact h)⟩)⟩
  exact (b_sone (b_ret (b_ife (b_pt (b_wor (b_teq (CK.hu64 hr) (b_ix (CK.hu1 hr) (b_var 1) b_int) b_str) (b_wor1 (b_tlt (b_ix (CK.hu1 hr) (b_fld (b_var 0)) (b_ix (CK.hu1 hr) (b_var 1) b_int)) (b_ix (CK.hu1 hr) (b_fld (b_var 0)) (b_ix (CK.hu1 hr) (b_var 1) b_int)))))) b_int b_int)))
/-! Machine_fails -/
def N_Machine_fails : List Str := ["self", "place", "row", "index", "name"]
theorem sc_Machine_fails : FnScope N_Machine_fails ["self", "place", "row"] (defScope s_Machine_fails) := ⟨rfl, rfl, rfl, by decide +kernel, rfl, by decide +kernel, by decide +kernel⟩
def mb_Machine_fails : CI.Env → M Fl :=
  (msSeq (msIte (mTest (mOp (inM false) (mOp ixM (mVar 2) (mC (.int 0))) (mTup (mCons (mC (.str "get")) (mCons (mC (.str "put")) mNil)))))
  (msSeq (msAsg (mIfe (mTest (mOp gEq (mOp ixM (mVar 2) (mC (.int 0))) (mC (.str "get")))) (mTup (mCons (mOp ixM (mVar 2) (mC (.int 3))) (mCons (mOp ixM (mVar 2) (mC (.int 2))) mNil))) (mTup (mCons (mOp ixM (mVar 2) (mC (.int 2))) (mCons (mOp ixM (mVar 2) (mC (.int 1))) mNil)))) (mgTup 2 (mgCons (mgName 3) (mgCons (mgName 4) mgNil))))
  (msRet (mNot (mChain gLe gLt (mC (.int 0)) (mOp ixM (mFld 1 "worth" (mVar 0)) (mVar 3)) (mCb lenM (mCons (mOp ixM (mFld 1 "cells" (mVar 0)) (mVar 4)) mNil))))))
  msNext)
  (msSeq (msIte (mTOr (mTest (mOp (inM true) (mOp ixM (mVar 2) (mC (.int 0))) (mTup (mCons (mC (.str "low")) (mCons (mC (.str "high")) mNil))))) (mTest (mMeth 1 "is_left_out" m_Machine_is_left_out (mVar 0) (mCons (mVar 1) mNil))))
  (msRet (mC (.bl false)))
  msNext)
  (msRet (mIfe (mTest (mOp gEq (mOp ixM (mVar 2) (mC (.int 0))) (mC (.str "low")))) (mOp gLt (mOp ixM (mFld 1 "worth" (mVar 0)) (mOp ixM (mVar 2) (mC (.int 1)))) (mC (.int 0))) (mOp gGe (mOp ixM (mFld 1 "worth" (mVar 0)) (mOp ixM (mVar 2) (mC (.int 1)))) (mCb lenM (mCons (mOp ixM (mFld 1 "cells" (mVar 0)) (mOp ixM (mVar 2) (mC (.int 2)))) mNil)))))))
def m_Machine_fails : List AV → M AV := fnM 5 3 mb_Machine_fails
theorem fr_Machine_fails : Fd m_Machine_fails := fd_fn (fs_seq (fs_ite (ft_test (fe_op (f2_in false) (fe_op f2_ix (fe_var 2) (fe_c fun _ => rfl)) (fe_tup (fa_cons (fe_c fun _ => rfl) (fa_cons (fe_c fun _ => rfl) fa_nil))))) (fs_seq (fs_asg (fe_ife (ft_test (fe_op f2_eq (fe_op f2_ix (fe_var 2) (fe_c fun _ => rfl)) (fe_c fun _ => rfl))) (fe_tup (fa_cons (fe_op f2_ix (fe_var 2) (fe_c fun _ => rfl)) (fa_cons (fe_op f2_ix (fe_var 2) (fe_c fun _ => rfl)) fa_nil))) (fe_tup (fa_cons (fe_op f2_ix (fe_var 2) (fe_c fun _ => rfl)) (fa_cons (fe_op f2_ix (fe_var 2) (fe_c fun _ => rfl)) fa_nil)))) (fg_tup (fgs_cons (fg_name 3) (fgs_cons (fg_name 4) fgs_nil)))) (fs_ret (fe_not (fe_chain f2_le f2_lt (fe_c fun _ => rfl) (fe_op f2_ix (fe_fld (fe_var 0)) (fe_var 3)) (fe_cb fd_len (fa_cons (fe_op f2_ix (fe_fld (fe_var 0)) (fe_var 4)) fa_nil)))))) fs_next) (fs_seq (fs_ite (ft_or (ft_test (fe_op (f2_in true) (fe_op f2_ix (fe_var 2) (fe_c fun _ => rfl)) (fe_tup (fa_cons (fe_c fun _ => rfl) (fa_cons (fe_c fun _ => rfl) fa_nil))))) (ft_test (fe_meth (fu_ins _ _) fr_Machine_is_left_out (fe_var 0) (fa_cons (fe_var 1) fa_nil)))) (fs_ret (fe_c fun _ => rfl)) fs_next) (fs_ret (fe_ife (ft_test (fe_op f2_eq (fe_op f2_ix (fe_var 2) (fe_c fun _ => rfl)) (fe_c fun _ => rfl))) (fe_op f2_lt (fe_op f2_ix (fe_fld (fe_var 0)) (fe_op f2_ix (fe_var 2) (fe_c fun _ => rfl))) (fe_c fun _ => rfl)) (fe_op f2_ge (fe_op f2_ix (fe_fld (fe_var 0)) (fe_op f2_ix (fe_var 2) (fe_c fun _ => rfl))) (fe_cb fd_len (fa_cons (fe_op f2_ix (fe_fld (fe_var 0)) (fe_op f2_ix (fe_var 2) (fe_c fun _ => rfl))) fa_nil)))))))
def x_Machine_fails (M : Md P w K mg base) : XS (ct K w) :=
  (XS.seq (XS.ite (XT.ofE (XE.in false (XE.ix (XE.var 2) (XE.int 0)) (XE.tup (XA.cons (XE.str "get") (XA.cons (XE.str "put") XA.nil)))))
  (XS.seq (XS.asg (XE.ife (XT.ofE (XE.eq (XE.ix (XE.var 2) (XE.int 0)) (XE.str "get"))) (XE.tup (XA.cons (XE.ix (XE.var 2) (XE.int 3)) (XA.cons (XE.ix (XE.var 2) (XE.int 2)) XA.nil))) (XE.tup (XA.cons (XE.ix (XE.var 2) (XE.int 2)) (XA.cons (XE.ix (XE.var 2) (XE.int 1)) XA.nil)))) (XG.tup 2 (XGs.cons (XG.name 3) (XGs.cons (XG.name 4) XGs.nil))))
  (XS.ret (XE.not (XE.chain s2_le s2_lt (XE.int 0) (XE.ix (XE.fld 1 "worth" M.cls_Machine M.na_Machine_worth (XE.var 0)) (XE.var 3)) (XE.len (XA.cons (XE.ix (XE.fld 1 "cells" M.cls_Machine M.na_Machine_cells (XE.var 0)) (XE.var 4)) XA.nil))))))
  XS.next)
  (XS.seq (XS.ite (XT.or (XT.ofE (XE.in true (XE.ix (XE.var 2) (XE.int 0)) (XE.tup (XA.cons (XE.str "low") (XA.cons (XE.str "high") XA.nil))))) (XT.ofE (XE.meth 1 "is_left_out" m_Machine_is_left_out (XE.var 0) (XA.cons (XE.var 1) XA.nil))))
  (XS.ret (XE.bl false))
  XS.next)
  (XS.ret (XE.ife (XT.ofE (XE.eq (XE.ix (XE.var 2) (XE.int 0)) (XE.str "low"))) (XE.lt (XE.ix (XE.fld 1 "worth" M.cls_Machine M.na_Machine_worth (XE.var 0)) (XE.ix (XE.var 2) (XE.int 1))) (XE.int 0)) (XE.ge (XE.ix (XE.fld 1 "worth" M.cls_Machine M.na_Machine_worth (XE.var 0)) (XE.ix (XE.var 2) (XE.int 1))) (XE.len (XA.cons (XE.ix (XE.fld 1 "cells" M.cls_Machine M.na_Machine_cells (XE.var 0)) (XE.ix (XE.var 2) (XE.int 2))) XA.nil)))))))
theorem xm_Machine_fails (M : Md P w K mg base) : (x_Machine_fails M).f = mb_Machine_fails := rfl
theorem ok_Machine_fails (M : Md P w K mg base) : CK.OkM P w K mg base (He.ga K "Machine") 2 "fails" ["self", "place", "row"] (spI (ct K w) m_Machine_fails) := by
  obtain ⟨fd, F⟩ := M.d_Machine_fails
  refine ⟨_, fd, M.me_Machine_fails, F.bindsN fun _ _ _ _ _ _ us hl => match us, hl with | [_, _, _], _ => rfl, F.ok sc_Machine_fails (fun vs H Q E h => fn_len (b := mb_Machine_fails) h) (fun cdv A outer s H vs Q E hr h => ⟨(x_Machine_fails M).t E, PSs.nox ?_, fn_pure (b := x_Machine_fails M) (N := N_Machine_fails) (k := 3) (by rw [xm_Machine_fails]; exact h)⟩)⟩
  exact (b_scons (b_if (b_tin (CK.hu1 hr) (b_ix (CK.hu1 hr) (b_var 2) b_int) (b_tup (b_cons b_str (b_cons b_str b_nil))))
  (b_scons (b_asg (b_ife (b_teq (CK.hu64 hr) (b_ix (CK.hu1 hr) (b_var 2) b_int) b_str) (b_tup (b_cons (b_ix (CK.hu1 hr) (b_var 2) b_int) (b_cons (b_ix (CK.hu1 hr) (b_var 2) b_int) b_nil))) (b_tup (b_cons (b_ix (CK.hu1 hr) (b_var 2) b_int) (b_cons (b_ix (CK.hu1 hr) (b_var 2) b_int) b_nil)))) (b_gtup rfl (b_gcons (b_gname (i := 3) sc_Machine_fails.nd rfl (.inl rfl)) (b_gcons (b_gname (i := 4) sc_Machine_fails.nd rfl (.inl rfl)) b_gnil))))
  (b_sone (b_ret (b_not (b_chain op_le op_lt b_int (b_ix (CK.hu1 hr) (b_fld (b_var 0)) (b_var 3)) (b_len  rfl M.f_len boot_len (b_cons (b_ix (CK.hu1 hr) (b_fld (b_var 0)) (b_var 4)) b_nil)))))))
  b_snil)
  (b_scons (b_if (b_pt (b_wor (b_tnin (CK.hu1 hr) (b_ix (CK.hu1 hr) (b_var 2) b_int) (b_tup (b_cons b_str (b_cons b_str b_nil)))) (b_wor1 (b_test (b_meth (ok_Machine_is_left_out M) (b_var 0) M.cls_Machine (hr.mono (by decide)) (b_cons (b_var 1) b_nil))))))
  (b_sone (b_ret b_bl))
  b_snil)
  (b_sone (b_ret (b_ife (b_teq (CK.hu64 hr) (b_ix (CK.hu1 hr) (b_var 2) b_int) b_str) (b_lt (b_ix (CK.hu1 hr) (b_fld (b_var 0)) (b_ix (CK.hu1 hr) (b_var 2) b_int)) b_int) (b_ge (b_ix (CK.hu1 hr) (b_fld (b_var 0)) (b_ix (CK.hu1 hr) (b_var 2) b_int)) (b_len  rfl M.f_len boot_len (b_cons (b_ix (CK.hu1 hr) (b_fld (b_var 0)) (b_ix (CK.hu1 hr) (b_var 2) b_int)) b_nil))))))))
/-! Machine_do_row -/
def N_Machine_do_row : List Str := ["self", "row"]
theorem sc_Machine_do_row : FnScope N_Machine_do_row ["self", "row"] (defScope s_Machine_do_row) := ⟨rfl, rfl, rfl, by decide +kernel, rfl, by decide +kernel, by decide +kernel⟩
def mb_Machine_do_row : CI.Env → M Fl :=
  (msIte (mTest (mOp gEq (mOp ixM (mVar 1) (mC (.int 0))) (mC (.str "set"))))
  (msAsg (mOp ixM (mVar 1) (mC (.int 2))) (mgSub (mFld 1 "worth" (mVar 0)) (mOp ixM (mVar 1) (mC (.int 1)))))
  (msIte (mTest (mOp gEq (mOp ixM (mVar 1) (mC (.int 0))) (mC (.str "move"))))
  (msAsg (mOp gAdd (mOp ixM (mFld 1 "worth" (mVar 0)) (mOp ixM (mVar 1) (mC (.int 2)))) (mOp ixM (mVar 1) (mC (.int 3)))) (mgSub (mFld 1 "worth" (mVar 0)) (mOp ixM (mVar 1) (mC (.int 1)))))
  (msIte (mTest (mOp gEq (mOp ixM (mVar 1) (mC (.int 0))) (mC (.str "sum"))))
  (msAsg (mOp gAdd (mOp ixM (mFld 1 "worth" (mVar 0)) (mOp ixM (mVar 1) (mC (.int 2)))) (mOp ixM (mFld 1 "worth" (mVar 0)) (mOp ixM (mVar 1) (mC (.int 3))))) (mgSub (mFld 1 "worth" (mVar 0)) (mOp ixM (mVar 1) (mC (.int 1)))))
  (msIte (mTest (mOp gEq (mOp ixM (mVar 1) (mC (.int 0))) (mC (.str "length"))))
  (msAsg (mCb lenM (mCons (mOp ixM (mFld 1 "cells" (mVar 0)) (mOp ixM (mVar 1) (mC (.int 2)))) mNil)) (mgSub (mFld 1 "worth" (mVar 0)) (mOp ixM (mVar 1) (mC (.int 1)))))
  (msIte (mTest (mOp gEq (mOp ixM (mVar 1) (mC (.int 0))) (mC (.str "get"))))
  (msAsg (mOp ixM (mOp ixM (mFld 1 "cells" (mVar 0)) (mOp ixM (mVar 1) (mC (.int 2)))) (mOp ixM (mFld 1 "worth" (mVar 0)) (mOp ixM (mVar 1) (mC (.int 3))))) (mgSub (mFld 1 "worth" (mVar 0)) (mOp ixM (mVar 1) (mC (.int 1)))))
  (msIte (mTest (mOp gEq (mOp ixM (mVar 1) (mC (.int 0))) (mC (.str "put"))))
  (msAsg (mOp ixM (mFld 1 "worth" (mVar 0)) (mOp ixM (mVar 1) (mC (.int 3)))) (mgSub (mOp ixM (mFld 1 "cells" (mVar 0)) (mOp ixM (mVar 1) (mC (.int 1)))) (mOp ixM (mFld 1 "worth" (mVar 0)) (mOp ixM (mVar 1) (mC (.int 2))))))
  msNext))))))
def m_Machine_do_row : List AV → M AV := fnM 2 2 mb_Machine_do_row
theorem fr_Machine_do_row : Fd m_Machine_do_row := fd_fn (fs_ite (ft_test (fe_op f2_eq (fe_op f2_ix (fe_var 1) (fe_c fun _ => rfl)) (fe_c fun _ => rfl))) (fs_asg (fe_op f2_ix (fe_var 1) (fe_c fun _ => rfl)) (fg_sub (fe_fld (fe_var 0)) (fe_op f2_ix (fe_var 1) (fe_c fun _ => rfl)))) (fs_ite (ft_test (fe_op f2_eq (fe_op f2_ix (fe_var 1) (fe_c fun _ => rfl)) (fe_c fun _ => rfl))) (fs_asg (fe_op f2_add (fe_op f2_ix (fe_fld (fe_var 0)) (fe_op f2_ix (fe_var 1) (fe_c fun _ => rfl))) (fe_op f2_ix (fe_var 1) (fe_c fun _ => rfl))) (fg_sub (fe_fld (fe_var 0)) (fe_op f2_ix (fe_var 1) (fe_c fun _ => rfl)))) (fs_ite (ft_test (fe_op f2_eq (fe_op f2_ix (fe_var 1) (fe_c fun _ => rfl)) (fe_c fun _ => rfl))) (fs_asg (fe_op f2_add (fe_op f2_ix (fe_fld (fe_var 0)) (fe_op f2_ix (fe_var 1) (fe_c fun _ => rfl))) (fe_op f2_ix (fe_fld (fe_var 0)) (fe_op f2_ix (fe_var 1) (fe_c fun _ => rfl)))) (fg_sub (fe_fld (fe_var 0)) (fe_op f2_ix (fe_var 1) (fe_c fun _ => rfl)))) (fs_ite (ft_test (fe_op f2_eq (fe_op f2_ix (fe_var 1) (fe_c fun _ => rfl)) (fe_c fun _ => rfl))) (fs_asg (fe_cb fd_len (fa_cons (fe_op f2_ix (fe_fld (fe_var 0)) (fe_op f2_ix (fe_var 1) (fe_c fun _ => rfl))) fa_nil)) (fg_sub (fe_fld (fe_var 0)) (fe_op f2_ix (fe_var 1) (fe_c fun _ => rfl)))) (fs_ite (ft_test (fe_op f2_eq (fe_op f2_ix (fe_var 1) (fe_c fun _ => rfl)) (fe_c fun _ => rfl))) (fs_asg (fe_op f2_ix (fe_op f2_ix (fe_fld (fe_var 0)) (fe_op f2_ix (fe_var 1) (fe_c fun _ => rfl))) (fe_op f2_ix (fe_fld (fe_var 0)) (fe_op f2_ix (fe_var 1) (fe_c fun _ => rfl)))) (fg_sub (fe_fld (fe_var 0)) (fe_op f2_ix (fe_var 1) (fe_c fun _ => rfl)))) (fs_ite (ft_test (fe_op f2_eq (fe_op f2_ix (fe_var 1) (fe_c fun _ => rfl)) (fe_c fun _ => rfl))) (fs_asg (fe_op f2_ix (fe_fld (fe_var 0)) (fe_op f2_ix (fe_var 1) (fe_c fun _ => rfl))) (fg_sub (fe_op f2_ix (fe_fld (fe_var 0)) (fe_op f2_ix (fe_var 1) (fe_c fun _ => rfl))) (fe_op f2_ix (fe_fld (fe_var 0)) (fe_op f2_ix (fe_var 1) (fe_c fun _ => rfl))))) fs_next))))))
def x_Machine_do_row (M : Md P w K mg base) : XS (ct K w) :=
  (XS.ite (XT.ofE (XE.eq (XE.ix (XE.var 1) (XE.int 0)) (XE.str "set")))
  (XS.asg (XE.ix (XE.var 1) (XE.int 2)) (XG.sub (XE.fld 1 "worth" M.cls_Machine M.na_Machine_worth (XE.var 0)) (XE.ix (XE.var 1) (XE.int 1))))
  (XS.ite (XT.ofE (XE.eq (XE.ix (XE.var 1) (XE.int 0)) (XE.str "move")))
  (XS.asg (XE.add (XE.ix (XE.fld 1 "worth" M.cls_Machine M.na_Machine_worth (XE.var 0)) (XE.ix (XE.var 1) (XE.int 2))) (XE.ix (XE.var 1) (XE.int 3))) (XG.sub (XE.fld 1 "worth" M.cls_Machine M.na_Machine_worth (XE.var 0)) (XE.ix (XE.var 1) (XE.int 1))))
  (XS.ite (XT.ofE (XE.eq (XE.ix (XE.var 1) (XE.int 0)) (XE.str "sum")))
  (XS.asg (XE.add (XE.ix (XE.fld 1 "worth" M.cls_Machine M.na_Machine_worth (XE.var 0)) (XE.ix (XE.var 1) (XE.int 2))) (XE.ix (XE.fld 1 "worth" M.cls_Machine M.na_Machine_worth (XE.var 0)) (XE.ix (XE.var 1) (XE.int 3)))) (XG.sub (XE.fld 1 "worth" M.cls_Machine M.na_Machine_worth (XE.var 0)) (XE.ix (XE.var 1) (XE.int 1))))
  (XS.ite (XT.ofE (XE.eq (XE.ix (XE.var 1) (XE.int 0)) (XE.str "length")))
  (XS.asg (XE.len (XA.cons (XE.ix (XE.fld 1 "cells" M.cls_Machine M.na_Machine_cells (XE.var 0)) (XE.ix (XE.var 1) (XE.int 2))) XA.nil)) (XG.sub (XE.fld 1 "worth" M.cls_Machine M.na_Machine_worth (XE.var 0)) (XE.ix (XE.var 1) (XE.int 1))))
  (XS.ite (XT.ofE (XE.eq (XE.ix (XE.var 1) (XE.int 0)) (XE.str "get")))
  (XS.asg (XE.ix (XE.ix (XE.fld 1 "cells" M.cls_Machine M.na_Machine_cells (XE.var 0)) (XE.ix (XE.var 1) (XE.int 2))) (XE.ix (XE.fld 1 "worth" M.cls_Machine M.na_Machine_worth (XE.var 0)) (XE.ix (XE.var 1) (XE.int 3)))) (XG.sub (XE.fld 1 "worth" M.cls_Machine M.na_Machine_worth (XE.var 0)) (XE.ix (XE.var 1) (XE.int 1))))
  (XS.ite (XT.ofE (XE.eq (XE.ix (XE.var 1) (XE.int 0)) (XE.str "put")))
  (XS.asg (XE.ix (XE.fld 1 "worth" M.cls_Machine M.na_Machine_worth (XE.var 0)) (XE.ix (XE.var 1) (XE.int 3))) (XG.sub (XE.ix (XE.fld 1 "cells" M.cls_Machine M.na_Machine_cells (XE.var 0)) (XE.ix (XE.var 1) (XE.int 1))) (XE.ix (XE.fld 1 "worth" M.cls_Machine M.na_Machine_worth (XE.var 0)) (XE.ix (XE.var 1) (XE.int 2)))))
  XS.next))))))
theorem xm_Machine_do_row (M : Md P w K mg base) : (x_Machine_do_row M).f = mb_Machine_do_row := rfl
theorem ok_Machine_do_row (M : Md P w K mg base) : CK.OkM P w K mg base (He.ga K "Machine") 1 "do_row" ["self", "row"] (spI (ct K w) m_Machine_do_row) := by
  obtain ⟨fd, F⟩ := M.d_Machine_do_row
  refine ⟨_, fd, M.me_Machine_do_row, F.bindsN fun _ _ _ _ _ _ us hl => match us, hl with | [_, _], _ => rfl, F.ok sc_Machine_do_row (fun vs H Q E h => fn_len (b := mb_Machine_do_row) h) (fun cdv A outer s H vs Q E hr h => ⟨(x_Machine_do_row M).t E, PSs.nox ?_, fn_pure (b := x_Machine_do_row M) (N := N_Machine_do_row) (k := 2) (by rw [xm_Machine_do_row]; exact h)⟩)⟩
  exact (b_sone (b_if (b_teq (CK.hu64 hr) (b_ix (CK.hu1 hr) (b_var 1) b_int) b_str)
  (b_sone (b_asg (b_ix (CK.hu1 hr) (b_var 1) b_int) (b_gsub (CK.hu1 hr) (b_fld (b_var 0)) (b_ix (CK.hu1 hr) (b_var 1) b_int))))
  (b_sone (b_if (b_teq (CK.hu64 hr) (b_ix (CK.hu1 hr) (b_var 1) b_int) b_str)
  (b_sone (b_asg (b_add (b_ix (CK.hu1 hr) (b_fld (b_var 0)) (b_ix (CK.hu1 hr) (b_var 1) b_int)) (b_ix (CK.hu1 hr) (b_var 1) b_int)) (b_gsub (CK.hu1 hr) (b_fld (b_var 0)) (b_ix (CK.hu1 hr) (b_var 1) b_int))))
  (b_sone (b_if (b_teq (CK.hu64 hr) (b_ix (CK.hu1 hr) (b_var 1) b_int) b_str)
  (b_sone (b_asg (b_add (b_ix (CK.hu1 hr) (b_fld (b_var 0)) (b_ix (CK.hu1 hr) (b_var 1) b_int)) (b_ix (CK.hu1 hr) (b_fld (b_var 0)) (b_ix (CK.hu1 hr) (b_var 1) b_int))) (b_gsub (CK.hu1 hr) (b_fld (b_var 0)) (b_ix (CK.hu1 hr) (b_var 1) b_int))))
  (b_sone (b_if (b_teq (CK.hu64 hr) (b_ix (CK.hu1 hr) (b_var 1) b_int) b_str)
  (b_sone (b_asg (b_len  rfl M.f_len boot_len (b_cons (b_ix (CK.hu1 hr) (b_fld (b_var 0)) (b_ix (CK.hu1 hr) (b_var 1) b_int)) b_nil)) (b_gsub (CK.hu1 hr) (b_fld (b_var 0)) (b_ix (CK.hu1 hr) (b_var 1) b_int))))
  (b_sone (b_if (b_teq (CK.hu64 hr) (b_ix (CK.hu1 hr) (b_var 1) b_int) b_str)
  (b_sone (b_asg (b_ix (CK.hu1 hr) (b_ix (CK.hu1 hr) (b_fld (b_var 0)) (b_ix (CK.hu1 hr) (b_var 1) b_int)) (b_ix (CK.hu1 hr) (b_fld (b_var 0)) (b_ix (CK.hu1 hr) (b_var 1) b_int))) (b_gsub (CK.hu1 hr) (b_fld (b_var 0)) (b_ix (CK.hu1 hr) (b_var 1) b_int))))
  (b_sone (b_if (b_teq (CK.hu64 hr) (b_ix (CK.hu1 hr) (b_var 1) b_int) b_str)
  (b_sone (b_asg (b_ix (CK.hu1 hr) (b_fld (b_var 0)) (b_ix (CK.hu1 hr) (b_var 1) b_int)) (b_gsub (CK.hu1 hr) (b_ix (CK.hu1 hr) (b_fld (b_var 0)) (b_ix (CK.hu1 hr) (b_var 1) b_int)) (b_ix (CK.hu1 hr) (b_fld (b_var 0)) (b_ix (CK.hu1 hr) (b_var 1) b_int)))))
  b_snil))))))))))))
/-! Machine_told_lists -/
def N_Machine_told_lists : List Str := ["self", "name"]
theorem sc_Machine_told_lists : FnScope N_Machine_told_lists ["self"] (defScope s_Machine_told_lists) := ⟨rfl, rfl, rfl, by decide +kernel, rfl, by decide +kernel, by decide +kernel⟩
def mb_Machine_told_lists : CI.Env → M Fl :=
  (msRet (mCb tupM (mCons (mLc (mIt itAny (mFld 0 "lists" (mFld 1 "program" (mVar 0)))) (mgName 1) mYes (mCb tupM (mCons (mOp ixM (mFld 1 "cells" (mVar 0)) (mVar 1)) mNil)) [1]) mNil)))
def m_Machine_told_lists : List AV → M AV := fnM 2 1 mb_Machine_told_lists
theorem fr_Machine_told_lists : Fd m_Machine_told_lists := fd_fn (fs_ret (fe_cb fd_tup (fa_cons (fe_lc (fi_it it_any (fe_fld (fe_fld (fe_var 0)))) (fg_name 1) ft_yes (fe_cb fd_tup (fa_cons (fe_op f2_ix (fe_fld (fe_var 0)) (fe_var 1)) fa_nil))) fa_nil)))
def x_Machine_told_lists (M : Md P w K mg base) : XS (ct K w) :=
  (XS.ret (XE.tup1 (XA.cons (XE.lc (XI.any (XE.fld 0 "lists" M.cls_Program M.na_Program_lists (XE.fld 1 "program" M.cls_Machine M.na_Machine_program (XE.var 0)))) (XG.name 1) XT.yes (XE.tup1 (XA.cons (XE.ix (XE.fld 1 "cells" M.cls_Machine M.na_Machine_cells (XE.var 0)) (XE.var 1)) XA.nil)) [1] (by intro i h; exact h)) XA.nil)))
theorem xm_Machine_told_lists (M : Md P w K mg base) : (x_Machine_told_lists M).f = mb_Machine_told_lists := rfl
theorem ok_Machine_told_lists (M : Md P w K mg base) : CK.OkM P w K mg base (He.ga K "Machine") 1 "told_lists" ["self"] (spI (ct K w) m_Machine_told_lists) := by
  obtain ⟨fd, F⟩ := M.d_Machine_told_lists
  refine ⟨_, fd, M.me_Machine_told_lists, F.bindsN fun _ _ _ _ _ _ us hl => match us, hl with | [_], _ => rfl, F.ok sc_Machine_told_lists (fun vs H Q E h => fn_len (b := mb_Machine_told_lists) h) (fun cdv A outer s H vs Q E hr h => ⟨(x_Machine_told_lists M).t E, PSs.nox ?_, fn_pure (b := x_Machine_told_lists M) (N := N_Machine_told_lists) (k := 1) (by rw [xm_Machine_told_lists]; exact h)⟩)⟩
  exact (b_sone (b_ret (b_tup1 rfl M.f_tuple boot_tuple (b_cons (b_lc [("name", 1)] rfl sc_Machine_told_lists.nd (b_iany (b_fld (b_fld (b_var 0)))) (blkOk_by (own := [("name", 1)]) (N := N_Machine_told_lists) (sc := defScope s_Machine_told_lists) (by decide +kernel)) (fun _ _ _ _ _ => (b_gname (i := 1) sc_Machine_told_lists.nd rfl (.inl rfl))) (fun _ _ _ _ _ => b_tsnil) (fun _ _ _ _ _ => (b_tup1 rfl M.f_tuple boot_tuple (b_cons (b_ix (CK.hu1 hr) (b_fld (b_var 0)) (b_var 1)) b_nil)))) b_nil))))
/-! Machine_finish -/
def N_Machine_finish : List Str := ["self", "steps", "turn", "name", "args", "handed", "way", "params", "rows", "end", "param", "number", "index", "row", "arg"]
theorem sc_Machine_finish : FnScope N_Machine_finish ["self", "steps"] (defScope s_Machine_finish) := ⟨rfl, rfl, rfl, by decide +kernel, rfl, by decide +kernel, by decide +kernel⟩
def mb_Machine_finish : CI.Env → M Fl :=
  (msSeq (msPar 3 4 (mCons (mOp ixM (mOp ixM (mFld 0 "blocks" (mFld 1 "program" (mVar 0))) (mC (.int 0))) (mC (.int 0))) (mCons (mTup mNil) mNil)))
  (msSeq (msLoop (mItA itRng (mCons (mVar 1) mNil)) (mgName 2)
  (msSeq (msAsg (mSl (mOp ixM (mFld 0 "parts" (mFld 1 "program" (mVar 0))) (mVar 3)) (mPart (mC (.int 1))) mNoP) (mgTup 3 (mgCons (mgName 7) (mgCons (mgName 8) (mgCons (mgName 9) mgNil)))))
  (msSeq (msAsg (mLc (mIt itAny (mVar 4)) (mgName 14) mYes (mOp ixM (mFld 1 "worth" (mVar 0)) (mVar 14)) [14]) (mgName 5))
  (msSeq (msLoop (mItA itZip (mCons (mVar 7) (mCons (mVar 5) mNil))) (mgTup 2 (mgCons (mgName 10) (mgCons (mgName 11) mgNil)))
  (msAsg (mVar 11) (mgSub (mFld 1 "worth" (mVar 0)) (mVar 10))))
  (msSeq (msLoop (mItA itEnum (mCons (mVar 8) mNil)) (mgTup 2 (mgCons (mgName 12) (mgCons (mgName 13) mgNil)))
  (msSeq (msDrop (mMeth 1 "look" m_Machine_look (mVar 0) (mCons (mTup (mCons (mVar 3) (mCons (mVar 12) mNil))) mNil)))
  (msSeq (msIte (mTest (mMeth 1 "fails" m_Machine_fails (mVar 0) (mCons (mTup (mCons (mVar 3) (mCons (mVar 12) mNil))) (mCons (mVar 13) mNil))))
  (msRet (mTup (mCons (mC (.str "fault")) (mCons (mVar 3) (mCons (mVar 12) (mCons (mMeth 1 "told_lists" m_Machine_told_lists (mVar 0) mNil) mNil))))))
  msNext)
  (msDrop (mMeth 1 "do_row" m_Machine_do_row (mVar 0) (mCons (mVar 13) mNil))))))
  (msSeq (msDrop (mMeth 1 "look" m_Machine_look (mVar 0) (mCons (mTup (mCons (mVar 3) (mCons (mCb lenM (mCons (mVar 8) mNil)) mNil))) mNil)))
  (msSeq (msIte (mTest (mOp gEq (mOp ixM (mVar 9) (mC (.int 0))) (mC (.str "return"))))
  (msRet (mTup (mCons (mC (.str "value")) (mCons (mOp ixM (mFld 1 "worth" (mVar 0)) (mOp ixM (mVar 9) (mC (.int 1)))) (mCons (mMeth 1 "told_lists" m_Machine_told_lists (mVar 0) mNil) mNil)))))
  msNext)
  (msSeq (msAsg (mMeth 1 "way_of" m_Machine_way_of (mVar 0) (mCons (mVar 9) mNil)) (mgName 6))
  (msSeq (msDrop (mMeth 1 "look" m_Machine_look (mVar 0) (mCons (mTup (mCons (mVar 3) (mCons (mOp ixM (mC k_WAY_POINTS) (mVar 6)) mNil))) mNil)))
  (msAsg (mOp ixM (mCb m_goals (mCons (mVar 9) mNil)) (mVar 6)) (mgTup 2 (mgCons (mgName 3) (mgCons (mgName 4) mgNil)))))))))))))
  msNever))
def m_Machine_finish : List AV → M AV := fnM 15 2 mb_Machine_finish
theorem fr_Machine_finish : Fd m_Machine_finish := fd_fn (fs_seq (fs_par (fa_cons (fe_op f2_ix (fe_op f2_ix (fe_fld (fe_fld (fe_var 0))) (fe_c fun _ => rfl)) (fe_c fun _ => rfl)) (fa_cons (fe_tup fa_nil) fa_nil))) (fs_seq (fs_loop (fi_itA it_rng (fa_cons (fe_var 1) fa_nil)) (fg_name 2) (fs_seq (fs_asg (fe_sl (fe_op f2_ix (fe_fld (fe_fld (fe_var 0))) (fe_var 3)) (fo_of (fe_c fun _ => rfl)) fo_no) (fg_tup (fgs_cons (fg_name 7) (fgs_cons (fg_name 8) (fgs_cons (fg_name 9) fgs_nil))))) (fs_seq (fs_asg (fe_lc (fi_it it_any (fe_var 4)) (fg_name 14) ft_yes (fe_op f2_ix (fe_fld (fe_var 0)) (fe_var 14))) (fg_name 5)) (fs_seq (fs_loop (fi_itA it_zip (fa_cons (fe_var 7) (fa_cons (fe_var 5) fa_nil))) (fg_tup (fgs_cons (fg_name 10) (fgs_cons (fg_name 11) fgs_nil))) (fs_asg (fe_var 11) (fg_sub (fe_fld (fe_var 0)) (fe_var 10)))) (fs_seq (fs_loop (fi_itA it_enum (fa_cons (fe_var 8) fa_nil)) (fg_tup (fgs_cons (fg_name 12) (fgs_cons (fg_name 13) fgs_nil))) (fs_seq (fs_drop (fe_meth (fu_ins _ _) fr_Machine_look (fe_var 0) (fa_cons (fe_tup (fa_cons (fe_var 3) (fa_cons (fe_var 12) fa_nil))) fa_nil))) (fs_seq (fs_ite (ft_test (fe_meth (fu_ins _ _) fr_Machine_fails (fe_var 0) (fa_cons (fe_tup (fa_cons (fe_var 3) (fa_cons (fe_var 12) fa_nil))) (fa_cons (fe_var 13) fa_nil)))) (fs_ret (fe_tup (fa_cons (fe_c fun _ => rfl) (fa_cons (fe_var 3) (fa_cons (fe_var 12) (fa_cons (fe_meth (fu_ins _ _) fr_Machine_told_lists (fe_var 0) fa_nil) fa_nil)))))) fs_next) (fs_drop (fe_meth (fu_ins _ _) fr_Machine_do_row (fe_var 0) (fa_cons (fe_var 13) fa_nil)))))) (fs_seq (fs_drop (fe_meth (fu_ins _ _) fr_Machine_look (fe_var 0) (fa_cons (fe_tup (fa_cons (fe_var 3) (fa_cons (fe_cb fd_len (fa_cons (fe_var 8) fa_nil)) fa_nil))) fa_nil))) (fs_seq (fs_ite (ft_test (fe_op f2_eq (fe_op f2_ix (fe_var 9) (fe_c fun _ => rfl)) (fe_c fun _ => rfl))) (fs_ret (fe_tup (fa_cons (fe_c fun _ => rfl) (fa_cons (fe_op f2_ix (fe_fld (fe_var 0)) (fe_op f2_ix (fe_var 9) (fe_c fun _ => rfl))) (fa_cons (fe_meth (fu_ins _ _) fr_Machine_told_lists (fe_var 0) fa_nil) fa_nil))))) fs_next) (fs_seq (fs_asg (fe_meth (fu_ins _ _) fr_Machine_way_of (fe_var 0) (fa_cons (fe_var 9) fa_nil)) (fg_name 6)) (fs_seq (fs_drop (fe_meth (fu_ins _ _) fr_Machine_look (fe_var 0) (fa_cons (fe_tup (fa_cons (fe_var 3) (fa_cons (fe_op f2_ix (fe_c fun _ => rfl) (fe_var 6)) fa_nil))) fa_nil))) (fs_asg (fe_op f2_ix (fe_cb fr_goals (fa_cons (fe_var 9) fa_nil)) (fe_var 6)) (fg_tup (fgs_cons (fg_name 3) (fgs_cons (fg_name 4) fgs_nil))))))))))))) fs_never))
def x_Machine_finish (M : Md P w K mg base) : XS (ct K w) :=
  (XS.seq (XS.par 3 4 (XA.cons (XE.ix (XE.ix (XE.fld 0 "blocks" M.cls_Program M.na_Program_blocks (XE.fld 1 "program" M.cls_Machine M.na_Machine_program (XE.var 0))) (XE.int 0)) (XE.int 0)) (XA.cons (XE.tup XA.nil) XA.nil)))
  (XS.seq (XS.loop (XI.rng (XA.cons (XE.var 1) XA.nil)) (XG.name 2)
  (XS.seq (XS.asg (XE.sl (XE.ix (XE.fld 0 "parts" M.cls_Program M.na_Program_parts (XE.fld 1 "program" M.cls_Machine M.na_Machine_program (XE.var 0))) (XE.var 3)) (XO.of (XE.int 1)) XO.no) (XG.tup 3 (XGs.cons (XG.name 7) (XGs.cons (XG.name 8) (XGs.cons (XG.name 9) XGs.nil)))))
  (XS.seq (XS.asg (XE.lc (XI.any (XE.var 4)) (XG.name 14) XT.yes (XE.ix (XE.fld 1 "worth" M.cls_Machine M.na_Machine_worth (XE.var 0)) (XE.var 14)) [14] (by intro i h; exact h)) (XG.name 5))
  (XS.seq (XS.loop (XI.zip (XA.cons (XE.var 7) (XA.cons (XE.var 5) XA.nil))) (XG.tup 2 (XGs.cons (XG.name 10) (XGs.cons (XG.name 11) XGs.nil)))
  (XS.asg (XE.var 11) (XG.sub (XE.fld 1 "worth" M.cls_Machine M.na_Machine_worth (XE.var 0)) (XE.var 10))))
  (XS.seq (XS.loop (XI.enum (XA.cons (XE.var 8) XA.nil)) (XG.tup 2 (XGs.cons (XG.name 12) (XGs.cons (XG.name 13) XGs.nil)))
  (XS.seq (XS.drop (XE.meth 1 "look" m_Machine_look (XE.var 0) (XA.cons (XE.tup (XA.cons (XE.var 3) (XA.cons (XE.var 12) XA.nil))) XA.nil)))
  (XS.seq (XS.ite (XT.ofE (XE.meth 1 "fails" m_Machine_fails (XE.var 0) (XA.cons (XE.tup (XA.cons (XE.var 3) (XA.cons (XE.var 12) XA.nil))) (XA.cons (XE.var 13) XA.nil))))
  (XS.ret (XE.tup (XA.cons (XE.str "fault") (XA.cons (XE.var 3) (XA.cons (XE.var 12) (XA.cons (XE.meth 1 "told_lists" m_Machine_told_lists (XE.var 0) XA.nil) XA.nil))))))
  XS.next)
  (XS.drop (XE.meth 1 "do_row" m_Machine_do_row (XE.var 0) (XA.cons (XE.var 13) XA.nil))))))
  (XS.seq (XS.drop (XE.meth 1 "look" m_Machine_look (XE.var 0) (XA.cons (XE.tup (XA.cons (XE.var 3) (XA.cons (XE.len (XA.cons (XE.var 8) XA.nil)) XA.nil))) XA.nil)))
  (XS.seq (XS.ite (XT.ofE (XE.eq (XE.ix (XE.var 9) (XE.int 0)) (XE.str "return")))
  (XS.ret (XE.tup (XA.cons (XE.str "value") (XA.cons (XE.ix (XE.fld 1 "worth" M.cls_Machine M.na_Machine_worth (XE.var 0)) (XE.ix (XE.var 9) (XE.int 1))) (XA.cons (XE.meth 1 "told_lists" m_Machine_told_lists (XE.var 0) XA.nil) XA.nil)))))
  XS.next)
  (XS.seq (XS.asg (XE.meth 1 "way_of" m_Machine_way_of (XE.var 0) (XA.cons (XE.var 9) XA.nil)) (XG.name 6))
  (XS.seq (XS.drop (XE.meth 1 "look" m_Machine_look (XE.var 0) (XA.cons (XE.tup (XA.cons (XE.var 3) (XA.cons (XE.ix (XE.cst (.ref (He.ga K "WAY_POINTS")) k_WAY_POINTS (fun μ H => .tup (M.t_WAY_POINTS H) (strs_va ks_WAY_POINTS))) (XE.var 6)) XA.nil))) XA.nil)))
  (XS.asg (XE.ix (XE.call m_goals (XA.cons (XE.var 9) XA.nil)) (XE.var 6)) (XG.tup 2 (XGs.cons (XG.name 3) (XGs.cons (XG.name 4) XGs.nil)))))))))))))
  XS.never))
theorem xm_Machine_finish (M : Md P w K mg base) : (x_Machine_finish M).f = mb_Machine_finish := rfl
theorem ok_Machine_finish (M : Md P w K mg base) : CK.OkM P w K mg base (He.ga K "Machine") 3 "finish" ["self", "steps"] (spI (ct K w) m_Machine_finish) := by
  obtain ⟨fd, F⟩ := M.d_Machine_finish
  refine ⟨_, fd, M.me_Machine_finish, F.bindsN fun _ _ _ _ _ _ us hl => match us, hl with | [_, _], _ => rfl, F.ok sc_Machine_finish (fun vs H Q E h => fn_len (b := mb_Machine_finish) h) (fun cdv A outer s H vs Q E hr h => ⟨(x_Machine_finish M).t E, PSs.nox ?_, fn_pure (b := x_Machine_finish M) (N := N_Machine_finish) (k := 2) (by rw [xm_Machine_finish]; exact h)⟩)⟩
  exact (b_scons (b_par (i := 3) (j := 4) rfl sc_Machine_finish.nd rfl rfl (by decide) rfl rfl (b_cons (b_ix (CK.hu1 hr) (b_ix (CK.hu1 hr) (b_fld (b_fld (b_var 0))) b_int) b_int) (b_cons (b_tup b_nil) b_nil)))
  (b_scons (b_for PassesOwn.never rfl (b_irng rfl M.f_range (b_cons (b_var 1) b_nil)) (b_gname (i := 2) sc_Machine_finish.nd rfl (.inl rfl))
  (b_scons (b_asg (b_sl (b_ix (CK.hu1 hr) (b_fld (b_fld (b_var 0))) (b_var 3)) (b_pof b_int) b_pno) (b_gtup rfl (b_gcons (b_gname (i := 7) sc_Machine_finish.nd rfl (.inl rfl)) (b_gcons (b_gname (i := 8) sc_Machine_finish.nd rfl (.inl rfl)) (b_gcons (b_gname (i := 9) sc_Machine_finish.nd rfl (.inl rfl)) b_gnil)))))
  (b_scons (b_setLc (j := 5) [("arg", 14)] rfl sc_Machine_finish.nd rfl rfl (sw_true rfl rfl rfl (by decide +kernel)) (b_iany (b_var 4)) (blkOk_by (own := [("arg", 14)]) (N := N_Machine_finish) (sc := defScope s_Machine_finish) (by decide +kernel)) (fun _ _ _ _ _ => (b_gname (i := 14) sc_Machine_finish.nd rfl (.inl rfl))) (fun _ _ _ _ _ => b_tsnil) (fun _ _ _ _ _ => (b_ix (CK.hu1 hr) (b_fld (b_var 0)) (b_var 14))))
  (b_scons (b_for PassesOwn.never rfl (b_izip rfl M.f_zip (b_cons (b_var 7) (b_cons (b_var 5) b_nil))) (b_gtup rfl (b_gcons (b_gname (i := 10) sc_Machine_finish.nd rfl (.inl rfl)) (b_gcons (b_gname (i := 11) sc_Machine_finish.nd rfl (.inl rfl)) b_gnil)))
  (b_sone (b_asg (b_var 11) (b_gsub (CK.hu1 hr) (b_fld (b_var 0)) (b_var 10)))))
  (b_scons (b_for PassesOwn.never rfl (b_ienum rfl M.f_enumerate (b_cons (b_var 8) b_nil)) (b_gtup rfl (b_gcons (b_gname (i := 12) sc_Machine_finish.nd rfl (.inl rfl)) (b_gcons (b_gname (i := 13) sc_Machine_finish.nd rfl (.inl rfl)) b_gnil)))
  (b_scons (b_expr (b_meth (ok_Machine_look M) (b_var 0) M.cls_Machine (hr.mono (by decide)) (b_cons (b_tup (b_cons (b_var 3) (b_cons (b_var 12) b_nil))) b_nil)))
  (b_scons (b_if (b_test (b_meth (ok_Machine_fails M) (b_var 0) M.cls_Machine (hr.mono (by decide)) (b_cons (b_tup (b_cons (b_var 3) (b_cons (b_var 12) b_nil))) (b_cons (b_var 13) b_nil))))
  (b_sone (b_ret (b_tup (b_cons b_str (b_cons (b_var 3) (b_cons (b_var 12) (b_cons (b_meth0 (ok_Machine_told_lists M) (b_var 0) M.cls_Machine (hr.mono (by decide))) b_nil)))))))
  b_snil)
  (b_sone (b_expr (b_meth (ok_Machine_do_row M) (b_var 0) M.cls_Machine (hr.mono (by decide)) (b_cons (b_var 13) b_nil)))))))
  (b_scons (b_expr (b_meth (ok_Machine_look M) (b_var 0) M.cls_Machine (hr.mono (by decide)) (b_cons (b_tup (b_cons (b_var 3) (b_cons (b_len  rfl M.f_len boot_len (b_cons (b_var 8) b_nil)) b_nil))) b_nil)))
  (b_scons (b_if (b_teq (CK.hu64 hr) (b_ix (CK.hu1 hr) (b_var 9) b_int) b_str)
  (b_sone (b_ret (b_tup (b_cons b_str (b_cons (b_ix (CK.hu1 hr) (b_fld (b_var 0)) (b_ix (CK.hu1 hr) (b_var 9) b_int)) (b_cons (b_meth0 (ok_Machine_told_lists M) (b_var 0) M.cls_Machine (hr.mono (by decide))) b_nil))))))
  b_snil)
  (b_scons (b_set (j := 6) sc_Machine_finish.nd rfl (.inl rfl) (b_meth (ok_Machine_way_of M) (b_var 0) M.cls_Machine (hr.mono (by decide)) (b_cons (b_var 9) b_nil)))
  (b_scons (b_expr (b_meth (ok_Machine_look M) (b_var 0) M.cls_Machine (hr.mono (by decide)) (b_cons (b_tup (b_cons (b_var 3) (b_cons (b_ix (CK.hu1 hr) (b_gref rfl M.g_WAY_POINTS) (b_var 6)) b_nil))) b_nil)))
  (b_sone (b_asg (b_ix (CK.hu1 hr) (b_call (ok_goals M) (hr.mono (by decide)) rfl (b_cons (b_var 9) b_nil)) (b_var 6)) (b_gtup rfl (b_gcons (b_gname (i := 3) sc_Machine_finish.nd rfl (.inl rfl)) (b_gcons (b_gname (i := 4) sc_Machine_finish.nd rfl (.inl rfl)) b_gnil))))))))))))))
  (b_sone b_never)))
/-! are_integers -/
def N_are_integers : List Str := ["thing", "number"]
theorem sc_are_integers : FnScope N_are_integers ["thing"] (defScope s_are_integers) := ⟨rfl, rfl, rfl, by decide +kernel, rfl, by decide +kernel, by decide +kernel⟩
def mb_are_integers : CI.Env → M Fl :=
  (msRet (mAnd (mIsi2 "list" "tuple" (mVar 0)) (mCb allM (mCons (mLc (mIt itAny (mVar 0)) (mgName 1) mYes (mCb m_is_integer (mCons (mVar 1) mNil)) [1]) mNil))))
def m_are_integers : List AV → M AV := fnM 2 1 mb_are_integers
theorem fr_are_integers : Fd m_are_integers := fd_fn (fs_ret (fe_and (fe_isi2 (fe_var 0)) (fe_cb fd_all (fa_cons (fe_lc (fi_it it_any (fe_var 0)) (fg_name 1) ft_yes (fe_cb fr_is_integer (fa_cons (fe_var 1) fa_nil))) fa_nil))))
def x_are_integers (M : Md P w K mg base) : XS (ct K w) :=
  (XS.ret (XE.and (XE.isi2 "list" "tuple" (by decide) (by decide) (XE.var 0)) (XE.all (XA.cons (XE.lc (XI.any (XE.var 0)) (XG.name 1) XT.yes (XE.call m_is_integer (XA.cons (XE.var 1) XA.nil)) [1] (by intro i h; exact h)) XA.nil))))
theorem xm_are_integers (M : Md P w K mg base) : (x_are_integers M).f = mb_are_integers := rfl
theorem ok_are_integers (M : Md P w K mg base) : CK.Ok P w K mg base 2 "are_integers" ["thing"] (spI (ct K w) m_are_integers) := by
  obtain ⟨fd, F⟩ := M.d_are_integers
  refine ⟨_, fd, M.g_are_integers, F.kp, F.bindsN fun _ _ _ _ _ _ us hl => match us, hl with | [_], _ => rfl, F.ok sc_are_integers (fun vs H Q E h => fn_len (b := mb_are_integers) h) (fun cdv A outer s H vs Q E hr h => ⟨(x_are_integers M).t E, PSs.nox ?_, fn_pure (b := x_are_integers M) (N := N_are_integers) (k := 1) (by rw [xm_are_integers]; exact h)⟩)⟩
  exact (b_sone (b_ret (b_and (b_isi2 rfl M.f_isinstance boot_isinstance (b_var 0) rfl M.f_list boot_list rfl M.f_tuple boot_tuple) (b_one (b_all rfl rfl M.f_all boot_all (b_cons (b_lc [("number", 1)] rfl sc_are_integers.nd (b_iany (b_var 0)) (blkOk_by (own := [("number", 1)]) (N := N_are_integers) (sc := defScope s_are_integers) (by decide +kernel)) (fun _ _ _ _ _ => (b_gname (i := 1) sc_are_integers.nd rfl (.inl rfl))) (fun _ _ _ _ _ => b_tsnil) (fun _ _ _ _ _ => (b_call (ok_is_integer M) (hr.mono (by decide)) rfl (b_cons (b_var 1) b_nil)))) b_nil))))))
/-! check_values -/
def N_check_values : List Str := ["program", "lists", "numbers", "steps", "one"]
theorem sc_check_values : FnScope N_check_values ["program", "lists", "numbers", "steps"] (defScope s_check_values) := ⟨rfl, rfl, rfl, by decide +kernel, rfl, by decide +kernel, by decide +kernel⟩
def mb_check_values : CI.Env → M Fl :=
  (msSeq (msIte (mTOr (mTNot (mTest (mIsi "tuple" (mVar 1)))) (mTest (mOp gNe (mCb lenM (mCons (mVar 1) mNil)) (mCb lenM (mCons (mFld 0 "lists" (mVar 0)) mNil)))))
  msNever
  msNext)
  (msSeq (msIte (mTNot (mTest (mCb allM (mCons (mLc (mIt itAny (mVar 1)) (mgName 4) mYes (mCb m_are_integers (mCons (mVar 4) mNil)) [4]) mNil))))
  msNever
  msNext)
  (msSeq (msIte (mTOr (mTNot (mTest (mIsi "tuple" (mVar 2)))) (mTOr (mTest (mOp gNe (mCb lenM (mCons (mVar 2) mNil)) (mCb lenM (mCons (mFld 0 "numbers" (mVar 0)) mNil)))) (mTNot (mTest (mCb m_are_integers (mCons (mVar 2) mNil))))))
  msNever
  msNext)
  (msIte (mTNot (mTest (mCb m_is_between (mCons (mVar 3) (mCons (mC (.int 1)) (mCons (mC (.int 1000)) mNil))))))
  msNever
  msNext))))
def m_check_values : List AV → M AV := fnM 5 4 mb_check_values
theorem fr_check_values : Fd m_check_values := fd_fn (fs_seq (fs_ite (ft_or (ft_not (ft_test (fe_isi (fe_var 1)))) (ft_test (fe_op f2_ne (fe_cb fd_len (fa_cons (fe_var 1) fa_nil)) (fe_cb fd_len (fa_cons (fe_fld (fe_var 0)) fa_nil))))) fs_never fs_next) (fs_seq (fs_ite (ft_not (ft_test (fe_cb fd_all (fa_cons (fe_lc (fi_it it_any (fe_var 1)) (fg_name 4) ft_yes (fe_cb fr_are_integers (fa_cons (fe_var 4) fa_nil))) fa_nil)))) fs_never fs_next) (fs_seq (fs_ite (ft_or (ft_not (ft_test (fe_isi (fe_var 2)))) (ft_or (ft_test (fe_op f2_ne (fe_cb fd_len (fa_cons (fe_var 2) fa_nil)) (fe_cb fd_len (fa_cons (fe_fld (fe_var 0)) fa_nil)))) (ft_not (ft_test (fe_cb fr_are_integers (fa_cons (fe_var 2) fa_nil)))))) fs_never fs_next) (fs_ite (ft_not (ft_test (fe_cb fr_is_between (fa_cons (fe_var 3) (fa_cons (fe_c fun _ => rfl) (fa_cons (fe_c fun _ => rfl) fa_nil)))))) fs_never fs_next))))
def x_check_values (M : Md P w K mg base) : XS (ct K w) :=
  (XS.seq (XS.ite (XT.or (XT.not (XT.ofE (XE.isi "tuple" (by decide) (XE.var 1)))) (XT.ofE (XE.ne (XE.len (XA.cons (XE.var 1) XA.nil)) (XE.len (XA.cons (XE.fld 0 "lists" M.cls_Program M.na_Program_lists (XE.var 0)) XA.nil)))))
  XS.never
  XS.next)
  (XS.seq (XS.ite (XT.not (XT.ofE (XE.all (XA.cons (XE.lc (XI.any (XE.var 1)) (XG.name 4) XT.yes (XE.call m_are_integers (XA.cons (XE.var 4) XA.nil)) [4] (by intro i h; exact h)) XA.nil))))
  XS.never
  XS.next)
  (XS.seq (XS.ite (XT.or (XT.not (XT.ofE (XE.isi "tuple" (by decide) (XE.var 2)))) (XT.or (XT.ofE (XE.ne (XE.len (XA.cons (XE.var 2) XA.nil)) (XE.len (XA.cons (XE.fld 0 "numbers" M.cls_Program M.na_Program_numbers (XE.var 0)) XA.nil)))) (XT.not (XT.ofE (XE.call m_are_integers (XA.cons (XE.var 2) XA.nil))))))
  XS.never
  XS.next)
  (XS.ite (XT.not (XT.ofE (XE.call m_is_between (XA.cons (XE.var 3) (XA.cons (XE.int 1) (XA.cons (XE.int 1000) XA.nil))))))
  XS.never
  XS.next))))
theorem xm_check_values (M : Md P w K mg base) : (x_check_values M).f = mb_check_values := rfl
theorem ok_check_values (M : Md P w K mg base) : CK.Ok P w K mg base 3 "check_values" ["program", "lists", "numbers", "steps"] (spI (ct K w) m_check_values) := by
  obtain ⟨fd, F⟩ := M.d_check_values
  refine ⟨_, fd, M.g_check_values, F.kp, F.bindsN fun _ _ _ _ _ _ us hl => match us, hl with | [_, _, _, _], _ => rfl, F.ok sc_check_values (fun vs H Q E h => fn_len (b := mb_check_values) h) (fun cdv A outer s H vs Q E hr h => ⟨(x_check_values M).t E, PSs.nox ?_, fn_pure (b := x_check_values M) (N := N_check_values) (k := 4) (by rw [xm_check_values]; exact h)⟩)⟩
  exact (b_scons (b_if (b_pt (b_wor (b_tnot (b_test (b_isi rfl M.f_isinstance boot_isinstance (b_var 1) rfl M.f_tuple boot_tuple))) (b_wor1 (b_tne (CK.hu64 hr) (b_len  rfl M.f_len boot_len (b_cons (b_var 1) b_nil)) (b_len  rfl M.f_len boot_len (b_cons (b_fld (b_var 0)) b_nil))))))
  (b_sone b_never)
  b_snil)
  (b_scons (b_if (b_tnot (b_test (b_all rfl rfl M.f_all boot_all (b_cons (b_lc [("one", 4)] rfl sc_check_values.nd (b_iany (b_var 1)) (blkOk_by (own := [("one", 4)]) (N := N_check_values) (sc := defScope s_check_values) (by decide +kernel)) (fun _ _ _ _ _ => (b_gname (i := 4) sc_check_values.nd rfl (.inl rfl))) (fun _ _ _ _ _ => b_tsnil) (fun _ _ _ _ _ => (b_call (ok_are_integers M) (hr.mono (by decide)) rfl (b_cons (b_var 4) b_nil)))) b_nil))))
  (b_sone b_never)
  b_snil)
  (b_scons (b_if (b_pt (b_wor (b_tnot (b_test (b_isi rfl M.f_isinstance boot_isinstance (b_var 2) rfl M.f_tuple boot_tuple))) (b_wor (b_tne (CK.hu64 hr) (b_len  rfl M.f_len boot_len (b_cons (b_var 2) b_nil)) (b_len  rfl M.f_len boot_len (b_cons (b_fld (b_var 0)) b_nil))) (b_wor1 (b_tnot (b_test (b_call (ok_are_integers M) (hr.mono (by decide)) rfl (b_cons (b_var 2) b_nil))))))))
  (b_sone b_never)
  b_snil)
  (b_sone (b_if (b_tnot (b_test (b_call (ok_is_between M) (hr.mono (by decide)) rfl (b_cons (b_var 3) (b_cons b_int (b_cons (b_gint rfl M.i_MOST_STEPS) b_nil))))))
  (b_sone b_never)
  b_snil)))))
/-! run -/
def N_run : List Str := ["program", "lists", "numbers", "steps"]
theorem sc_run : FnScope N_run ["program", "lists", "numbers", "steps"] (defScope s_run) := ⟨rfl, rfl, rfl, by decide +kernel, rfl, by decide +kernel, by decide +kernel⟩
def mb_run : CI.Env → M Fl :=
  (msSeq (msDrop (mCb m_check_values (mCons (mVar 0) (mCons (mVar 1) (mCons (mVar 2) (mCons (mVar 3) mNil))))))
  (msRet (mMeth 1 "finish" m_Machine_finish (mMake 1 m_Machine_init (mCons (mVar 0) (mCons (mVar 1) (mCons (mVar 2) mNil)))) (mCons (mVar 3) mNil))))
def m_run : List AV → M AV := fnM 4 4 mb_run
theorem fr_run : Fd m_run := fd_fn (fs_seq (fs_drop (fe_cb fr_check_values (fa_cons (fe_var 0) (fa_cons (fe_var 1) (fa_cons (fe_var 2) (fa_cons (fe_var 3) fa_nil)))))) (fs_ret (fe_meth (fu_ins _ _) fr_Machine_finish (fe_make fr_Machine_init (fa_cons (fe_var 0) (fa_cons (fe_var 1) (fa_cons (fe_var 2) fa_nil)))) (fa_cons (fe_var 3) fa_nil))))
def x_run (M : Md P w K mg base) : XS (ct K w) :=
  (XS.seq (XS.drop (XE.call m_check_values (XA.cons (XE.var 0) (XA.cons (XE.var 1) (XA.cons (XE.var 2) (XA.cons (XE.var 3) XA.nil))))))
  (XS.ret (XE.meth 1 "finish" m_Machine_finish (XE.make 1 m_Machine_init (XA.cons (XE.var 0) (XA.cons (XE.var 1) (XA.cons (XE.var 2) XA.nil)))) (XA.cons (XE.var 3) XA.nil))))
theorem xm_run (M : Md P w K mg base) : (x_run M).f = mb_run := rfl
def dv_run : List V := [.int 200]
def da_run : List AV := [.int 200]
theorem dr_run {c : Ct} (μ : List Addr) (H : Hp) : VaAll c μ H dv_run da_run := (.cons (.int _) .nil)
theorem ok_run (M : Md P w K mg base) : OkD P w K mg base 4 "run" ["program", "lists", "numbers", "steps"] dv_run (spI (ct K w) m_run) := by
  obtain ⟨fd, F⟩ := M.d_run
  obtain ⟨ds, hd, hb⟩ := F.binds0 (ps := ["program", "lists", "numbers", "steps"]) 3 (by decide) rfl fun D doc pm an cdv ct us ks hl hk => match us, ks, hl, hk with | [_, _, _], [_], _, _ => ⟨_, _, _, _, _, _, rfl, rfl, rfl⟩
  refine ⟨_, fd, ds, M.g_run, F.kp, hd, hb, F.ok sc_run (fun vs H Q E h => fn_len (b := mb_run) h) (fun cdv A outer s H vs Q E hr h => ⟨(x_run M).t E, PSs.nox ?_, fn_pure (b := x_run M) (N := N_run) (k := 4) (by rw [xm_run]; exact h)⟩)⟩
  exact (b_scons (b_expr (b_call (ok_check_values M) (hr.mono (by decide)) rfl (b_cons (b_var 0) (b_cons (b_var 1) (b_cons (b_var 2) (b_cons (b_var 3) b_nil))))))
  (b_sone (b_ret (b_meth (ok_Machine_finish M) (b_make (ok_Machine_init M) (hr.mono (by decide)) rfl (b_cons (b_var 0) (b_cons (b_var 1) (b_cons (b_var 2) b_nil)))) M.cls_Machine (hr.mono (by decide)) (b_cons (b_var 3) b_nil)))))
/-! _law_cell_at -/
def N__law_cell_at : List Str := ["_law_script", "_law_k"]
theorem sc__law_cell_at : FnScope N__law_cell_at ["_law_script", "_law_k"] (defScope s__law_cell_at) := ⟨rfl, rfl, rfl, by decide +kernel, rfl, by decide +kernel, by decide +kernel⟩
def mb__law_cell_at : CI.Env → M Fl :=
  (msRet (mIfe (mTest (mOp gLt (mVar 1) (mCb lenM (mCons (mVar 0) mNil)))) (mOp ixM (mVar 0) (mVar 1)) (mC (.int 0))))
def m__law_cell_at : List AV → M AV := fnM 2 2 mb__law_cell_at
theorem fr__law_cell_at : Fd m__law_cell_at := fd_fn (fs_ret (fe_ife (ft_test (fe_op f2_lt (fe_var 1) (fe_cb fd_len (fa_cons (fe_var 0) fa_nil)))) (fe_op f2_ix (fe_var 0) (fe_var 1)) (fe_c fun _ => rfl)))
def x__law_cell_at (M : Md P w K mg base) : XS (ct K w) :=
  (XS.ret (XE.ife (XT.ofE (XE.lt (XE.var 1) (XE.len (XA.cons (XE.var 0) XA.nil)))) (XE.ix (XE.var 0) (XE.var 1)) (XE.int 0)))
theorem xm__law_cell_at (M : Md P w K mg base) : (x__law_cell_at M).f = mb__law_cell_at := rfl
theorem ok__law_cell_at (M : Md P w K mg base) : CK.Ok P w K mg base 1 "_law_cell_at" ["_law_script", "_law_k"] (spI (ct K w) m__law_cell_at) := by
  obtain ⟨fd, F⟩ := M.d__law_cell_at
  refine ⟨_, fd, M.g__law_cell_at, F.kp, F.bindsN fun _ _ _ _ _ _ us hl => match us, hl with | [_, _], _ => rfl, F.ok sc__law_cell_at (fun vs H Q E h => fn_len (b := mb__law_cell_at) h) (fun cdv A outer s H vs Q E hr h => ⟨(x__law_cell_at M).t E, PSs.nox ?_, fn_pure (b := x__law_cell_at M) (N := N__law_cell_at) (k := 2) (by rw [xm__law_cell_at]; exact h)⟩)⟩
  exact (b_sone (b_ret (b_ife (b_tlt (b_var 1) (b_len  rfl M.f_len boot_len (b_cons (b_var 0) b_nil))) (b_ix (CK.hu1 hr) (b_var 0) (b_var 1)) b_int)))
/-! _law_well -/
def N__law_well : List Str := ["_law_cell"]
theorem sc__law_well : FnScope N__law_well ["_law_cell"] (defScope s__law_well) := ⟨rfl, rfl, rfl, by decide +kernel, rfl, by decide +kernel, by decide +kernel⟩
def mb__law_well : CI.Env → M Fl :=
  (msRet (mLst (mCons (mOp gMul (mCb intM (mCons (mVar 0) mNil)) (mCb intM (mCons (mOp gGe (mVar 0) (mOp gPow (mC (.int 10)) (mC (.int 18)))) mNil))) (mCons (mOp gMod (mCb intM (mCons (mVar 0) mNil)) (mC (.int 2147483629))) (mCons (mC (.int 0)) mNil)))))
def m__law_well : List AV → M AV := fnM 1 1 mb__law_well
theorem fr__law_well : Fd m__law_well := fd_fn (fs_ret (fe_lst (fa_cons (fe_op f2_mul (fe_cb fd_int (fa_cons (fe_var 0) fa_nil)) (fe_cb fd_int (fa_cons (fe_op f2_ge (fe_var 0) (fe_op f2_pow (fe_c fun _ => rfl) (fe_c fun _ => rfl))) fa_nil))) (fa_cons (fe_op f2_mod (fe_cb fd_int (fa_cons (fe_var 0) fa_nil)) (fe_c fun _ => rfl)) (fa_cons (fe_c fun _ => rfl) fa_nil)))))
def x__law_well (M : Md P w K mg base) : XS (ct K w) :=
  (XS.ret (XE.lst (XA.cons (XE.mul (XE.int1 (XA.cons (XE.var 0) XA.nil)) (XE.int1 (XA.cons (XE.ge (XE.var 0) (XE.pow (XE.int 10) (XE.int 18))) XA.nil))) (XA.cons (XE.mod (XE.int1 (XA.cons (XE.var 0) XA.nil)) (XE.int 2147483629)) (XA.cons (XE.int 0) XA.nil)))))
theorem xm__law_well (M : Md P w K mg base) : (x__law_well M).f = mb__law_well := rfl
theorem ok__law_well (M : Md P w K mg base) : CK.Ok P w K mg base 1 "_law_well" ["_law_cell"] (spI (ct K w) m__law_well) := by
  obtain ⟨fd, F⟩ := M.d__law_well
  refine ⟨_, fd, M.g__law_well, F.kp, F.bindsN fun _ _ _ _ _ _ us hl => match us, hl with | [_], _ => rfl, F.ok sc__law_well (fun vs H Q E h => fn_len (b := mb__law_well) h) (fun cdv A outer s H vs Q E hr h => ⟨(x__law_well M).t E, PSs.nox ?_, fn_pure (b := x__law_well M) (N := N__law_well) (k := 1) (by rw [xm__law_well]; exact h)⟩)⟩
  exact (b_sone (b_ret (b_lst (b_cons (b_mul (b_int1 rfl M.f_int boot_int (b_cons (b_var 0) b_nil)) (b_int1 rfl M.f_int boot_int (b_cons (b_ge (b_var 0) (b_pow b_int b_int)) b_nil))) (b_cons (b_mod (b_int1 rfl M.f_int boot_int (b_cons (b_var 0) b_nil)) b_int) (b_cons b_int b_nil))))))
/-! _law_draw -/
def N__law_draw : List Str := ["_law_well_here", "_law_many", "_law_mixed", "_law_digit"]
theorem sc__law_draw : FnScope N__law_draw ["_law_well_here", "_law_many"] (defScope s__law_draw) := ⟨rfl, rfl, rfl, by decide +kernel, rfl, by decide +kernel, by decide +kernel⟩
def mb__law_draw : CI.Env → M Fl :=
  (msSeq (msIte (mTest (mOp gGt (mOp ixM (mVar 0) (mC (.int 0))) (mC (.int 0))))
  (msSeq (msAsg (mOp gMod (mCb intM (mCons (mOp ixM (mVar 0) (mC (.int 0))) mNil)) (mVar 1)) (mgName 3))
  (msSeq (msAsg (mOp gFdiv (mOp ixM (mVar 0) (mC (.int 0))) (mVar 1)) (mgSub (mVar 0) (mC (.int 0))))
  (msRet (mVar 3))))
  msNext)
  (msSeq (msAsg (mOp gAdd (mOp ixM (mVar 0) (mC (.int 2))) (mC (.int 1))) (mgSub (mVar 0) (mC (.int 2))))
  (msSeq (msAsg (mOp gMod (mCb intM (mCons (mOp gAdd (mOp gAdd (mOp ixM (mVar 0) (mC (.int 1))) (mOp gMul (mC (.int 65537)) (mOp ixM (mVar 0) (mC (.int 2))))) (mC (.int 31))) mNil)) (mC (.int 2147483629))) (mgName 2))
  (msSeq (msAsg (mOp gMod (mCb intM (mCons (mOp gMul (mVar 2) (mOp gAdd (mOp gFdiv (mVar 2) (mC (.int 997))) (mC (.int 48271)))) mNil)) (mC (.int 2147483587))) (mgName 2))
  (msSeq (msAsg (mOp gMod (mCb intM (mCons (mOp gMul (mVar 2) (mOp gAdd (mOp gFdiv (mVar 2) (mC (.int 2003))) (mC (.int 69621)))) mNil)) (mC (.int 2147483563))) (mgName 2))
  (msRet (mOp gMod (mCb intM (mCons (mOp gFdiv (mVar 2) (mC (.int 5))) mNil)) (mVar 1))))))))
def m__law_draw : List AV → M AV := fnM 4 2 mb__law_draw
theorem fr__law_draw : Fd m__law_draw := fd_fn (fs_seq (fs_ite (ft_test (fe_op f2_gt (fe_op f2_ix (fe_var 0) (fe_c fun _ => rfl)) (fe_c fun _ => rfl))) (fs_seq (fs_asg (fe_op f2_mod (fe_cb fd_int (fa_cons (fe_op f2_ix (fe_var 0) (fe_c fun _ => rfl)) fa_nil)) (fe_var 1)) (fg_name 3)) (fs_seq (fs_asg (fe_op f2_fdiv (fe_op f2_ix (fe_var 0) (fe_c fun _ => rfl)) (fe_var 1)) (fg_sub (fe_var 0) (fe_c fun _ => rfl))) (fs_ret (fe_var 3)))) fs_next) (fs_seq (fs_asg (fe_op f2_add (fe_op f2_ix (fe_var 0) (fe_c fun _ => rfl)) (fe_c fun _ => rfl)) (fg_sub (fe_var 0) (fe_c fun _ => rfl))) (fs_seq (fs_asg (fe_op f2_mod (fe_cb fd_int (fa_cons (fe_op f2_add (fe_op f2_add (fe_op f2_ix (fe_var 0) (fe_c fun _ => rfl)) (fe_op f2_mul (fe_c fun _ => rfl) (fe_op f2_ix (fe_var 0) (fe_c fun _ => rfl)))) (fe_c fun _ => rfl)) fa_nil)) (fe_c fun _ => rfl)) (fg_name 2)) (fs_seq (fs_asg (fe_op f2_mod (fe_cb fd_int (fa_cons (fe_op f2_mul (fe_var 2) (fe_op f2_add (fe_op f2_fdiv (fe_var 2) (fe_c fun _ => rfl)) (fe_c fun _ => rfl))) fa_nil)) (fe_c fun _ => rfl)) (fg_name 2)) (fs_seq (fs_asg (fe_op f2_mod (fe_cb fd_int (fa_cons (fe_op f2_mul (fe_var 2) (fe_op f2_add (fe_op f2_fdiv (fe_var 2) (fe_c fun _ => rfl)) (fe_c fun _ => rfl))) fa_nil)) (fe_c fun _ => rfl)) (fg_name 2)) (fs_ret (fe_op f2_mod (fe_cb fd_int (fa_cons (fe_op f2_fdiv (fe_var 2) (fe_c fun _ => rfl)) fa_nil)) (fe_var 1))))))))
def x__law_draw (M : Md P w K mg base) : XS (ct K w) :=
  (XS.seq (XS.ite (XT.ofE (XE.gt (XE.ix (XE.var 0) (XE.int 0)) (XE.int 0)))
  (XS.seq (XS.asg (XE.mod (XE.int1 (XA.cons (XE.ix (XE.var 0) (XE.int 0)) XA.nil)) (XE.var 1)) (XG.name 3))
  (XS.seq (XS.asg (XE.fdiv (XE.ix (XE.var 0) (XE.int 0)) (XE.var 1)) (XG.sub (XE.var 0) (XE.int 0)))
  (XS.ret (XE.var 3))))
  XS.next)
  (XS.seq (XS.asg (XE.add (XE.ix (XE.var 0) (XE.int 2)) (XE.int 1)) (XG.sub (XE.var 0) (XE.int 2)))
  (XS.seq (XS.asg (XE.mod (XE.int1 (XA.cons (XE.add (XE.add (XE.ix (XE.var 0) (XE.int 1)) (XE.mul (XE.int 65537) (XE.ix (XE.var 0) (XE.int 2)))) (XE.int 31)) XA.nil)) (XE.int 2147483629)) (XG.name 2))
  (XS.seq (XS.asg (XE.mod (XE.int1 (XA.cons (XE.mul (XE.var 2) (XE.add (XE.fdiv (XE.var 2) (XE.int 997)) (XE.int 48271))) XA.nil)) (XE.int 2147483587)) (XG.name 2))
  (XS.seq (XS.asg (XE.mod (XE.int1 (XA.cons (XE.mul (XE.var 2) (XE.add (XE.fdiv (XE.var 2) (XE.int 2003)) (XE.int 69621))) XA.nil)) (XE.int 2147483563)) (XG.name 2))
  (XS.ret (XE.mod (XE.int1 (XA.cons (XE.fdiv (XE.var 2) (XE.int 5)) XA.nil)) (XE.var 1))))))))
theorem xm__law_draw (M : Md P w K mg base) : (x__law_draw M).f = mb__law_draw := rfl
theorem ok__law_draw (M : Md P w K mg base) : CK.Ok P w K mg base 1 "_law_draw" ["_law_well_here", "_law_many"] (spI (ct K w) m__law_draw) := by
  obtain ⟨fd, F⟩ := M.d__law_draw
  refine ⟨_, fd, M.g__law_draw, F.kp, F.bindsN fun _ _ _ _ _ _ us hl => match us, hl with | [_, _], _ => rfl, F.ok sc__law_draw (fun vs H Q E h => fn_len (b := mb__law_draw) h) (fun cdv A outer s H vs Q E hr h => ⟨(x__law_draw M).t E, PSs.nox ?_, fn_pure (b := x__law_draw M) (N := N__law_draw) (k := 2) (by rw [xm__law_draw]; exact h)⟩)⟩
  exact (b_scons (b_if (b_tgt (b_ix (CK.hu1 hr) (b_var 0) b_int) b_int)
  (b_scons (b_set (j := 3) sc__law_draw.nd rfl (.inl rfl) (b_mod (b_int1 rfl M.f_int boot_int (b_cons (b_ix (CK.hu1 hr) (b_var 0) b_int) b_nil)) (b_var 1)))
  (b_scons (b_asg (b_fdiv (b_ix (CK.hu1 hr) (b_var 0) b_int) (b_var 1)) (b_gsub (CK.hu1 hr) (b_var 0) b_int))
  (b_sone (b_ret (b_var 3)))))
  b_snil)
  (b_scons (b_asg (b_add (b_ix (CK.hu1 hr) (b_var 0) b_int) b_int) (b_gsub (CK.hu1 hr) (b_var 0) b_int))
  (b_scons (b_set (j := 2) sc__law_draw.nd rfl (.inl rfl) (b_mod (b_int1 rfl M.f_int boot_int (b_cons (b_add (b_add (b_ix (CK.hu1 hr) (b_var 0) b_int) (b_mul b_int (b_ix (CK.hu1 hr) (b_var 0) b_int))) b_int) b_nil)) b_int))
  (b_scons (b_set (j := 2) sc__law_draw.nd rfl (.inl rfl) (b_mod (b_int1 rfl M.f_int boot_int (b_cons (b_mul (b_var 2) (b_add (b_fdiv (b_var 2) b_int) b_int)) b_nil)) b_int))
  (b_scons (b_set (j := 2) sc__law_draw.nd rfl (.inl rfl) (b_mod (b_int1 rfl M.f_int boot_int (b_cons (b_mul (b_var 2) (b_add (b_fdiv (b_var 2) b_int) b_int)) b_nil)) b_int))
  (b_sone (b_ret (b_mod (b_int1 rfl M.f_int boot_int (b_cons (b_fdiv (b_var 2) b_int) b_nil)) (b_var 1)))))))))
/-! _law_one -/
def N__law_one : List Str := ["_law_well_here", "_law_some"]
theorem sc__law_one : FnScope N__law_one ["_law_well_here", "_law_some"] (defScope s__law_one) := ⟨rfl, rfl, rfl, by decide +kernel, rfl, by decide +kernel, by decide +kernel⟩
def mb__law_one : CI.Env → M Fl :=
  (msRet (mOp ixM (mVar 1) (mCb m__law_draw (mCons (mVar 0) (mCons (mCb lenM (mCons (mVar 1) mNil)) mNil)))))
def m__law_one : List AV → M AV := fnM 2 2 mb__law_one
theorem fr__law_one : Fd m__law_one := fd_fn (fs_ret (fe_op f2_ix (fe_var 1) (fe_cb fr__law_draw (fa_cons (fe_var 0) (fa_cons (fe_cb fd_len (fa_cons (fe_var 1) fa_nil)) fa_nil)))))
def x__law_one (M : Md P w K mg base) : XS (ct K w) :=
  (XS.ret (XE.ix (XE.var 1) (XE.call m__law_draw (XA.cons (XE.var 0) (XA.cons (XE.len (XA.cons (XE.var 1) XA.nil)) XA.nil)))))
theorem xm__law_one (M : Md P w K mg base) : (x__law_one M).f = mb__law_one := rfl
theorem ok__law_one (M : Md P w K mg base) : CK.Ok P w K mg base 2 "_law_one" ["_law_well_here", "_law_some"] (spI (ct K w) m__law_one) := by
  obtain ⟨fd, F⟩ := M.d__law_one
  refine ⟨_, fd, M.g__law_one, F.kp, F.bindsN fun _ _ _ _ _ _ us hl => match us, hl with | [_, _], _ => rfl, F.ok sc__law_one (fun vs H Q E h => fn_len (b := mb__law_one) h) (fun cdv A outer s H vs Q E hr h => ⟨(x__law_one M).t E, PSs.nox ?_, fn_pure (b := x__law_one M) (N := N__law_one) (k := 2) (by rw [xm__law_one]; exact h)⟩)⟩
  exact (b_sone (b_ret (b_ix (CK.hu1 hr) (b_var 1) (b_call (ok__law_draw M) (hr.mono (by decide)) rfl (b_cons (b_var 0) (b_cons (b_len  rfl M.f_len boot_len (b_cons (b_var 1) b_nil)) b_nil))))))
/-! _law_program -/
def N__law_program : List Str := ["_law_first", "_law_params", "_law_body", "_law_last", "_law_value", "_law_start", "_law_loop"]
theorem sc__law_program : FnScope N__law_program ["_law_first", "_law_params", "_law_body", "_law_last", "_law_value"] (defScope s__law_program) := ⟨rfl, rfl, rfl, by decide +kernel, rfl, by decide +kernel, by decide +kernel⟩
def mb__law_program : CI.Env → M Fl :=
  (msSeq (msAsg (mTup (mCons (mC (.str "start")) (mCons (mTup mNil) (mCons (mVar 0) (mCons (mTup (mCons (mC (.str "go")) (mCons (mC (.str "loop")) (mCons (mTup (mCons (mC (.str "z")) (mCons (mC (.str "y")) mNil))) mNil)))) mNil))))) (mgName 5))
  (msSeq (msAsg (mTup (mCons (mC (.str "loop")) (mCons (mTup (mCons (mC (.str "i")) (mCons (mC (.str "t")) mNil))) (mCons (mTup mNil) (mCons (mTup (mCons (mC (.str "less")) (mCons (mC (.str "i")) (mCons (mC (.str "l")) (mCons (mC (.str "body")) (mCons (mTup mNil) (mCons (mC (.str "out")) (mCons (mTup mNil) mNil)))))))) mNil))))) (mgName 6))
  (msRet (mMake 0 m_Program_init (mCons (mTup (mCons (mC (.str "a")) (mCons (mC (.str "b")) mNil))) (mCons (mTup (mCons (mC (.str "n")) mNil)) (mCons (mTup (mCons (mVar 5) (mCons (mVar 6) (mCons (mTup (mCons (mC (.str "body")) (mCons (mTup mNil) (mCons (mVar 2) (mCons (mVar 1) mNil))))) (mCons (mTup (mCons (mC (.str "out")) (mCons (mTup mNil) (mCons (mVar 3) (mCons (mTup (mCons (mC (.str "return")) (mCons (mVar 4) mNil))) mNil))))) mNil))))) mNil)))))))
def m__law_program : List AV → M AV := fnM 7 5 mb__law_program
theorem fr__law_program : Fd m__law_program := fd_fn (fs_seq (fs_asg (fe_tup (fa_cons (fe_c fun _ => rfl) (fa_cons (fe_tup fa_nil) (fa_cons (fe_var 0) (fa_cons (fe_tup (fa_cons (fe_c fun _ => rfl) (fa_cons (fe_c fun _ => rfl) (fa_cons (fe_tup (fa_cons (fe_c fun _ => rfl) (fa_cons (fe_c fun _ => rfl) fa_nil))) fa_nil)))) fa_nil))))) (fg_name 5)) (fs_seq (fs_asg (fe_tup (fa_cons (fe_c fun _ => rfl) (fa_cons (fe_tup (fa_cons (fe_c fun _ => rfl) (fa_cons (fe_c fun _ => rfl) fa_nil))) (fa_cons (fe_tup fa_nil) (fa_cons (fe_tup (fa_cons (fe_c fun _ => rfl) (fa_cons (fe_c fun _ => rfl) (fa_cons (fe_c fun _ => rfl) (fa_cons (fe_c fun _ => rfl) (fa_cons (fe_tup fa_nil) (fa_cons (fe_c fun _ => rfl) (fa_cons (fe_tup fa_nil) fa_nil)))))))) fa_nil))))) (fg_name 6)) (fs_ret (fe_make fr_Program_init (fa_cons (fe_tup (fa_cons (fe_c fun _ => rfl) (fa_cons (fe_c fun _ => rfl) fa_nil))) (fa_cons (fe_tup (fa_cons (fe_c fun _ => rfl) fa_nil)) (fa_cons (fe_tup (fa_cons (fe_var 5) (fa_cons (fe_var 6) (fa_cons (fe_tup (fa_cons (fe_c fun _ => rfl) (fa_cons (fe_tup fa_nil) (fa_cons (fe_var 2) (fa_cons (fe_var 1) fa_nil))))) (fa_cons (fe_tup (fa_cons (fe_c fun _ => rfl) (fa_cons (fe_tup fa_nil) (fa_cons (fe_var 3) (fa_cons (fe_tup (fa_cons (fe_c fun _ => rfl) (fa_cons (fe_var 4) fa_nil))) fa_nil))))) fa_nil))))) fa_nil)))))))
def x__law_program (M : Md P w K mg base) : XS (ct K w) :=
  (XS.seq (XS.asg (XE.tup (XA.cons (XE.str "start") (XA.cons (XE.tup XA.nil) (XA.cons (XE.var 0) (XA.cons (XE.tup (XA.cons (XE.str "go") (XA.cons (XE.str "loop") (XA.cons (XE.tup (XA.cons (XE.str "z") (XA.cons (XE.str "y") XA.nil))) XA.nil)))) XA.nil))))) (XG.name 5))
  (XS.seq (XS.asg (XE.tup (XA.cons (XE.str "loop") (XA.cons (XE.tup (XA.cons (XE.str "i") (XA.cons (XE.str "t") XA.nil))) (XA.cons (XE.tup XA.nil) (XA.cons (XE.tup (XA.cons (XE.str "less") (XA.cons (XE.str "i") (XA.cons (XE.str "l") (XA.cons (XE.str "body") (XA.cons (XE.tup XA.nil) (XA.cons (XE.str "out") (XA.cons (XE.tup XA.nil) XA.nil)))))))) XA.nil))))) (XG.name 6))
  (XS.ret (XE.make 0 m_Program_init (XA.cons (XE.tup (XA.cons (XE.str "a") (XA.cons (XE.str "b") XA.nil))) (XA.cons (XE.tup (XA.cons (XE.str "n") XA.nil)) (XA.cons (XE.tup (XA.cons (XE.var 5) (XA.cons (XE.var 6) (XA.cons (XE.tup (XA.cons (XE.str "body") (XA.cons (XE.tup XA.nil) (XA.cons (XE.var 2) (XA.cons (XE.var 1) XA.nil))))) (XA.cons (XE.tup (XA.cons (XE.str "out") (XA.cons (XE.tup XA.nil) (XA.cons (XE.var 3) (XA.cons (XE.tup (XA.cons (XE.str "return") (XA.cons (XE.var 4) XA.nil))) XA.nil))))) XA.nil))))) XA.nil)))))))
theorem xm__law_program (M : Md P w K mg base) : (x__law_program M).f = mb__law_program := rfl
theorem ok__law_program (M : Md P w K mg base) : CK.Ok P w K mg base 8 "_law_program" ["_law_first", "_law_params", "_law_body", "_law_last", "_law_value"] (spI (ct K w) m__law_program) := by
  obtain ⟨fd, F⟩ := M.d__law_program
  refine ⟨_, fd, M.g__law_program, F.kp, F.bindsN fun _ _ _ _ _ _ us hl => match us, hl with | [_, _, _, _, _], _ => rfl, F.ok sc__law_program (fun vs H Q E h => fn_len (b := mb__law_program) h) (fun cdv A outer s H vs Q E hr h => ⟨(x__law_program M).t E, PSs.nox ?_, fn_pure (b := x__law_program M) (N := N__law_program) (k := 5) (by rw [xm__law_program]; exact h)⟩)⟩
  exact (b_scons (b_set (j := 5) sc__law_program.nd rfl (.inl rfl) (b_tup (b_cons b_str (b_cons (b_tup b_nil) (b_cons (b_var 0) (b_cons (b_tup (b_cons b_str (b_cons b_str (b_cons (b_tup (b_cons b_str (b_cons b_str b_nil))) b_nil)))) b_nil))))))
  (b_scons (b_set (j := 6) sc__law_program.nd rfl (.inl rfl) (b_tup (b_cons b_str (b_cons (b_tup (b_cons b_str (b_cons b_str b_nil))) (b_cons (b_tup b_nil) (b_cons (b_tup (b_cons b_str (b_cons b_str (b_cons b_str (b_cons b_str (b_cons (b_tup b_nil) (b_cons b_str (b_cons (b_tup b_nil) b_nil)))))))) b_nil))))))
  (b_sone (b_ret (b_make (ok_Program_init M) (hr.mono (by decide)) rfl (b_cons (b_tup (b_cons b_str (b_cons b_str b_nil))) (b_cons (b_tup (b_cons b_str b_nil)) (b_cons (b_tup (b_cons (b_var 5) (b_cons (b_var 6) (b_cons (b_tup (b_cons b_str (b_cons (b_tup b_nil) (b_cons (b_var 2) (b_cons (b_var 1) b_nil))))) (b_cons (b_tup (b_cons b_str (b_cons (b_tup b_nil) (b_cons (b_var 3) (b_cons (b_tup (b_cons b_str (b_cons (b_var 4) b_nil))) b_nil))))) b_nil))))) b_nil))))))))
/-! _law_sums -/
def N__law_sums : List Str := ["_law_is_checked", "_law_checks_so", "_law_body", "_law_first"]
theorem sc__law_sums : FnScope N__law_sums ["_law_is_checked"] (defScope s__law_sums) := ⟨rfl, rfl, rfl, by decide +kernel, rfl, by decide +kernel, by decide +kernel⟩
def mb__law_sums : CI.Env → M Fl :=
  (msSeq (msAsg (mIfe (mTest (mVar 0)) (mTup (mCons (mTup (mCons (mC (.str "low")) (mCons (mC (.str "i")) mNil))) (mCons (mTup (mCons (mC (.str "high")) (mCons (mC (.str "i")) (mCons (mC (.str "a")) mNil)))) mNil))) (mTup mNil)) (mgName 1))
  (msSeq (msAsg (mOp gAdd (mVar 1) (mTup (mCons (mTup (mCons (mC (.str "get")) (mCons (mC (.str "x")) (mCons (mC (.str "a")) (mCons (mC (.str "i")) mNil))))) (mCons (mTup (mCons (mC (.str "sum")) (mCons (mC (.str "u")) (mCons (mC (.str "t")) (mCons (mC (.str "x")) mNil))))) (mCons (mTup (mCons (mC (.str "move")) (mCons (mC (.str "j")) (mCons (mC (.str "i")) (mCons (mC (.int 1)) mNil))))) mNil))))) (mgName 2))
  (msSeq (msAsg (mTup (mCons (mTup (mCons (mC (.str "set")) (mCons (mC (.str "z")) (mCons (mC (.int 0)) mNil)))) (mCons (mTup (mCons (mC (.str "set")) (mCons (mC (.str "y")) (mCons (mC (.int 0)) mNil)))) (mCons (mTup (mCons (mC (.str "length")) (mCons (mC (.str "l")) (mCons (mC (.str "a")) mNil)))) mNil)))) (mgName 3))
  (msRet (mCb m__law_program (mCons (mVar 3) (mCons (mTup (mCons (mC (.str "go")) (mCons (mC (.str "loop")) (mCons (mTup (mCons (mC (.str "j")) (mCons (mC (.str "u")) mNil))) mNil)))) (mCons (mVar 2) (mCons (mTup mNil) (mCons (mC (.str "t")) mNil))))))))))
def m__law_sums : List AV → M AV := fnM 4 1 mb__law_sums
theorem fr__law_sums : Fd m__law_sums := fd_fn (fs_seq (fs_asg (fe_ife (ft_test (fe_var 0)) (fe_tup (fa_cons (fe_tup (fa_cons (fe_c fun _ => rfl) (fa_cons (fe_c fun _ => rfl) fa_nil))) (fa_cons (fe_tup (fa_cons (fe_c fun _ => rfl) (fa_cons (fe_c fun _ => rfl) (fa_cons (fe_c fun _ => rfl) fa_nil)))) fa_nil))) (fe_tup fa_nil)) (fg_name 1)) (fs_seq (fs_asg (fe_op f2_add (fe_var 1) (fe_tup (fa_cons (fe_tup (fa_cons (fe_c fun _ => rfl) (fa_cons (fe_c fun _ => rfl) (fa_cons (fe_c fun _ => rfl) (fa_cons (fe_c fun _ => rfl) fa_nil))))) (fa_cons (fe_tup (fa_cons (fe_c fun _ => rfl) (fa_cons (fe_c fun _ => rfl) (fa_cons (fe_c fun _ => rfl) (fa_cons (fe_c fun _ => rfl) fa_nil))))) (fa_cons (fe_tup (fa_cons (fe_c fun _ => rfl) (fa_cons (fe_c fun _ => rfl) (fa_cons (fe_c fun _ => rfl) (fa_cons (fe_c fun _ => rfl) fa_nil))))) fa_nil))))) (fg_name 2)) (fs_seq (fs_asg (fe_tup (fa_cons (fe_tup (fa_cons (fe_c fun _ => rfl) (fa_cons (fe_c fun _ => rfl) (fa_cons (fe_c fun _ => rfl) fa_nil)))) (fa_cons (fe_tup (fa_cons (fe_c fun _ => rfl) (fa_cons (fe_c fun _ => rfl) (fa_cons (fe_c fun _ => rfl) fa_nil)))) (fa_cons (fe_tup (fa_cons (fe_c fun _ => rfl) (fa_cons (fe_c fun _ => rfl) (fa_cons (fe_c fun _ => rfl) fa_nil)))) fa_nil)))) (fg_name 3)) (fs_ret (fe_cb fr__law_program (fa_cons (fe_var 3) (fa_cons (fe_tup (fa_cons (fe_c fun _ => rfl) (fa_cons (fe_c fun _ => rfl) (fa_cons (fe_tup (fa_cons (fe_c fun _ => rfl) (fa_cons (fe_c fun _ => rfl) fa_nil))) fa_nil)))) (fa_cons (fe_var 2) (fa_cons (fe_tup fa_nil) (fa_cons (fe_c fun _ => rfl) fa_nil))))))))))
def x__law_sums (M : Md P w K mg base) : XS (ct K w) :=
  (XS.seq (XS.asg (XE.ife (XT.ofE (XE.var 0)) (XE.tup (XA.cons (XE.tup (XA.cons (XE.str "low") (XA.cons (XE.str "i") XA.nil))) (XA.cons (XE.tup (XA.cons (XE.str "high") (XA.cons (XE.str "i") (XA.cons (XE.str "a") XA.nil)))) XA.nil))) (XE.tup XA.nil)) (XG.name 1))
  (XS.seq (XS.asg (XE.add (XE.var 1) (XE.tup (XA.cons (XE.tup (XA.cons (XE.str "get") (XA.cons (XE.str "x") (XA.cons (XE.str "a") (XA.cons (XE.str "i") XA.nil))))) (XA.cons (XE.tup (XA.cons (XE.str "sum") (XA.cons (XE.str "u") (XA.cons (XE.str "t") (XA.cons (XE.str "x") XA.nil))))) (XA.cons (XE.tup (XA.cons (XE.str "move") (XA.cons (XE.str "j") (XA.cons (XE.str "i") (XA.cons (XE.int 1) XA.nil))))) XA.nil))))) (XG.name 2))
  (XS.seq (XS.asg (XE.tup (XA.cons (XE.tup (XA.cons (XE.str "set") (XA.cons (XE.str "z") (XA.cons (XE.int 0) XA.nil)))) (XA.cons (XE.tup (XA.cons (XE.str "set") (XA.cons (XE.str "y") (XA.cons (XE.int 0) XA.nil)))) (XA.cons (XE.tup (XA.cons (XE.str "length") (XA.cons (XE.str "l") (XA.cons (XE.str "a") XA.nil)))) XA.nil)))) (XG.name 3))
  (XS.ret (XE.call m__law_program (XA.cons (XE.var 3) (XA.cons (XE.tup (XA.cons (XE.str "go") (XA.cons (XE.str "loop") (XA.cons (XE.tup (XA.cons (XE.str "j") (XA.cons (XE.str "u") XA.nil))) XA.nil)))) (XA.cons (XE.var 2) (XA.cons (XE.tup XA.nil) (XA.cons (XE.str "t") XA.nil))))))))))
theorem xm__law_sums (M : Md P w K mg base) : (x__law_sums M).f = mb__law_sums := rfl
theorem ok__law_sums (M : Md P w K mg base) : CK.Ok P w K mg base 9 "_law_sums" ["_law_is_checked"] (spI (ct K w) m__law_sums) := by
  obtain ⟨fd, F⟩ := M.d__law_sums
  refine ⟨_, fd, M.g__law_sums, F.kp, F.bindsN fun _ _ _ _ _ _ us hl => match us, hl with | [_], _ => rfl, F.ok sc__law_sums (fun vs H Q E h => fn_len (b := mb__law_sums) h) (fun cdv A outer s H vs Q E hr h => ⟨(x__law_sums M).t E, PSs.nox ?_, fn_pure (b := x__law_sums M) (N := N__law_sums) (k := 1) (by rw [xm__law_sums]; exact h)⟩)⟩
  exact (b_scons (b_set (j := 1) sc__law_sums.nd rfl (.inl rfl) (b_ife (b_test (b_var 0)) (b_tup (b_cons (b_tup (b_cons b_str (b_cons b_str b_nil))) (b_cons (b_tup (b_cons b_str (b_cons b_str (b_cons b_str b_nil)))) b_nil))) (b_tup b_nil)))
  (b_scons (b_set (j := 2) sc__law_sums.nd rfl (.inl rfl) (b_add (b_var 1) (b_tup (b_cons (b_tup (b_cons b_str (b_cons b_str (b_cons b_str (b_cons b_str b_nil))))) (b_cons (b_tup (b_cons b_str (b_cons b_str (b_cons b_str (b_cons b_str b_nil))))) (b_cons (b_tup (b_cons b_str (b_cons b_str (b_cons b_str (b_cons b_int b_nil))))) b_nil))))))
  (b_scons (b_set (j := 3) sc__law_sums.nd rfl (.inl rfl) (b_tup (b_cons (b_tup (b_cons b_str (b_cons b_str (b_cons b_int b_nil)))) (b_cons (b_tup (b_cons b_str (b_cons b_str (b_cons b_int b_nil)))) (b_cons (b_tup (b_cons b_str (b_cons b_str (b_cons b_str b_nil)))) b_nil)))))
  (b_sone (b_ret (b_call (ok__law_program M) (hr.mono (by decide)) rfl (b_cons (b_var 3) (b_cons (b_tup (b_cons b_str (b_cons b_str (b_cons (b_tup (b_cons b_str (b_cons b_str b_nil))) b_nil)))) (b_cons (b_var 2) (b_cons (b_tup b_nil) (b_cons b_str b_nil)))))))))))
/-! _law_greatest -/
def N__law_greatest : List Str := ["_law_first", "_law_body"]
theorem sc__law_greatest : FnScope N__law_greatest [] (defScope s__law_greatest) := ⟨rfl, rfl, rfl, by decide +kernel, rfl, by decide +kernel, by decide +kernel⟩
def mb__law_greatest : CI.Env → M Fl :=
  (msSeq (msAsg (mTup (mCons (mTup (mCons (mC (.str "set")) (mCons (mC (.str "z")) (mCons (mC (.int 0)) mNil)))) (mCons (mTup (mCons (mC (.str "move")) (mCons (mC (.str "y")) (mCons (mC (.str "n")) (mCons (mC (.int 0)) mNil))))) (mCons (mTup (mCons (mC (.str "length")) (mCons (mC (.str "l")) (mCons (mC (.str "a")) mNil)))) mNil)))) (mgName 0))
  (msSeq (msAsg (mTup (mCons (mTup (mCons (mC (.str "get")) (mCons (mC (.str "x")) (mCons (mC (.str "a")) (mCons (mC (.str "i")) mNil))))) (mCons (mTup (mCons (mC (.str "move")) (mCons (mC (.str "j")) (mCons (mC (.str "i")) (mCons (mC (.int 1)) mNil))))) mNil))) (mgName 1))
  (msRet (mCb m__law_program (mCons (mVar 0) (mCons (mTup (mCons (mC (.str "less")) (mCons (mC (.str "t")) (mCons (mC (.str "x")) (mCons (mC (.str "loop")) (mCons (mTup (mCons (mC (.str "j")) (mCons (mC (.str "x")) mNil))) (mCons (mC (.str "loop")) (mCons (mTup (mCons (mC (.str "j")) (mCons (mC (.str "t")) mNil))) mNil)))))))) (mCons (mVar 1) (mCons (mTup mNil) (mCons (mC (.str "t")) mNil)))))))))
def m__law_greatest : List AV → M AV := fnM 2 0 mb__law_greatest
theorem fr__law_greatest : Fd m__law_greatest := fd_fn (fs_seq (fs_asg (fe_tup (fa_cons (fe_tup (fa_cons (fe_c fun _ => rfl) (fa_cons (fe_c fun _ => rfl) (fa_cons (fe_c fun _ => rfl) fa_nil)))) (fa_cons (fe_tup (fa_cons (fe_c fun _ => rfl) (fa_cons (fe_c fun _ => rfl) (fa_cons (fe_c fun _ => rfl) (fa_cons (fe_c fun _ => rfl) fa_nil))))) (fa_cons (fe_tup (fa_cons (fe_c fun _ => rfl) (fa_cons (fe_c fun _ => rfl) (fa_cons (fe_c fun _ => rfl) fa_nil)))) fa_nil)))) (fg_name 0)) (fs_seq (fs_asg (fe_tup (fa_cons (fe_tup (fa_cons (fe_c fun _ => rfl) (fa_cons (fe_c fun _ => rfl) (fa_cons (fe_c fun _ => rfl) (fa_cons (fe_c fun _ => rfl) fa_nil))))) (fa_cons (fe_tup (fa_cons (fe_c fun _ => rfl) (fa_cons (fe_c fun _ => rfl) (fa_cons (fe_c fun _ => rfl) (fa_cons (fe_c fun _ => rfl) fa_nil))))) fa_nil))) (fg_name 1)) (fs_ret (fe_cb fr__law_program (fa_cons (fe_var 0) (fa_cons (fe_tup (fa_cons (fe_c fun _ => rfl) (fa_cons (fe_c fun _ => rfl) (fa_cons (fe_c fun _ => rfl) (fa_cons (fe_c fun _ => rfl) (fa_cons (fe_tup (fa_cons (fe_c fun _ => rfl) (fa_cons (fe_c fun _ => rfl) fa_nil))) (fa_cons (fe_c fun _ => rfl) (fa_cons (fe_tup (fa_cons (fe_c fun _ => rfl) (fa_cons (fe_c fun _ => rfl) fa_nil))) fa_nil)))))))) (fa_cons (fe_var 1) (fa_cons (fe_tup fa_nil) (fa_cons (fe_c fun _ => rfl) fa_nil)))))))))
def x__law_greatest (M : Md P w K mg base) : XS (ct K w) :=
  (XS.seq (XS.asg (XE.tup (XA.cons (XE.tup (XA.cons (XE.str "set") (XA.cons (XE.str "z") (XA.cons (XE.int 0) XA.nil)))) (XA.cons (XE.tup (XA.cons (XE.str "move") (XA.cons (XE.str "y") (XA.cons (XE.str "n") (XA.cons (XE.int 0) XA.nil))))) (XA.cons (XE.tup (XA.cons (XE.str "length") (XA.cons (XE.str "l") (XA.cons (XE.str "a") XA.nil)))) XA.nil)))) (XG.name 0))
  (XS.seq (XS.asg (XE.tup (XA.cons (XE.tup (XA.cons (XE.str "get") (XA.cons (XE.str "x") (XA.cons (XE.str "a") (XA.cons (XE.str "i") XA.nil))))) (XA.cons (XE.tup (XA.cons (XE.str "move") (XA.cons (XE.str "j") (XA.cons (XE.str "i") (XA.cons (XE.int 1) XA.nil))))) XA.nil))) (XG.name 1))
  (XS.ret (XE.call m__law_program (XA.cons (XE.var 0) (XA.cons (XE.tup (XA.cons (XE.str "less") (XA.cons (XE.str "t") (XA.cons (XE.str "x") (XA.cons (XE.str "loop") (XA.cons (XE.tup (XA.cons (XE.str "j") (XA.cons (XE.str "x") XA.nil))) (XA.cons (XE.str "loop") (XA.cons (XE.tup (XA.cons (XE.str "j") (XA.cons (XE.str "t") XA.nil))) XA.nil)))))))) (XA.cons (XE.var 1) (XA.cons (XE.tup XA.nil) (XA.cons (XE.str "t") XA.nil)))))))))
theorem xm__law_greatest (M : Md P w K mg base) : (x__law_greatest M).f = mb__law_greatest := rfl
theorem ok__law_greatest (M : Md P w K mg base) : CK.Ok P w K mg base 9 "_law_greatest" [] (spI (ct K w) m__law_greatest) := by
  obtain ⟨fd, F⟩ := M.d__law_greatest
  refine ⟨_, fd, M.g__law_greatest, F.kp, F.bindsN fun _ _ _ _ _ _ us hl => match us, hl with | [], _ => rfl, F.ok sc__law_greatest (fun vs H Q E h => fn_len (b := mb__law_greatest) h) (fun cdv A outer s H vs Q E hr h => ⟨(x__law_greatest M).t E, PSs.nox ?_, fn_pure (b := x__law_greatest M) (N := N__law_greatest) (k := 0) (by rw [xm__law_greatest]; exact h)⟩)⟩
  exact (b_scons (b_set (j := 0) sc__law_greatest.nd rfl (.inl rfl) (b_tup (b_cons (b_tup (b_cons b_str (b_cons b_str (b_cons b_int b_nil)))) (b_cons (b_tup (b_cons b_str (b_cons b_str (b_cons b_str (b_cons b_int b_nil))))) (b_cons (b_tup (b_cons b_str (b_cons b_str (b_cons b_str b_nil)))) b_nil)))))
  (b_scons (b_set (j := 1) sc__law_greatest.nd rfl (.inl rfl) (b_tup (b_cons (b_tup (b_cons b_str (b_cons b_str (b_cons b_str (b_cons b_str b_nil))))) (b_cons (b_tup (b_cons b_str (b_cons b_str (b_cons b_str (b_cons b_int b_nil))))) b_nil))))
  (b_sone (b_ret (b_call (ok__law_program M) (hr.mono (by decide)) rfl (b_cons (b_var 0) (b_cons (b_tup (b_cons b_str (b_cons b_str (b_cons b_str (b_cons b_str (b_cons (b_tup (b_cons b_str (b_cons b_str b_nil))) (b_cons b_str (b_cons (b_tup (b_cons b_str (b_cons b_str b_nil))) b_nil)))))))) (b_cons (b_var 1) (b_cons (b_tup b_nil) (b_cons b_str b_nil))))))))))
/-! _law_copies -/
def N__law_copies : List Str := ["_law_is_checked", "_law_checks_so", "_law_body", "_law_first"]
theorem sc__law_copies : FnScope N__law_copies ["_law_is_checked"] (defScope s__law_copies) := ⟨rfl, rfl, rfl, by decide +kernel, rfl, by decide +kernel, by decide +kernel⟩
def mb__law_copies : CI.Env → M Fl :=
  (msSeq (msAsg (mIfe (mTest (mVar 0)) (mTup (mCons (mTup (mCons (mC (.str "low")) (mCons (mC (.str "i")) mNil))) (mCons (mTup (mCons (mC (.str "high")) (mCons (mC (.str "i")) (mCons (mC (.str "b")) mNil)))) mNil))) (mTup mNil)) (mgName 1))
  (msSeq (msAsg (mOp gAdd (mTup (mCons (mTup (mCons (mC (.str "get")) (mCons (mC (.str "x")) (mCons (mC (.str "a")) (mCons (mC (.str "i")) mNil))))) (mCons (mTup (mCons (mC (.str "sum")) (mCons (mC (.str "u")) (mCons (mC (.str "x")) (mCons (mC (.str "n")) mNil))))) mNil))) (mVar 1)) (mgName 2))
  (msSeq (msAsg (mOp gAdd (mVar 2) (mTup (mCons (mTup (mCons (mC (.str "put")) (mCons (mC (.str "b")) (mCons (mC (.str "i")) (mCons (mC (.str "u")) mNil))))) (mCons (mTup (mCons (mC (.str "move")) (mCons (mC (.str "j")) (mCons (mC (.str "i")) (mCons (mC (.int 1)) mNil))))) mNil)))) (mgName 2))
  (msSeq (msAsg (mTup (mCons (mTup (mCons (mC (.str "set")) (mCons (mC (.str "z")) (mCons (mC (.int 0)) mNil)))) (mCons (mTup (mCons (mC (.str "set")) (mCons (mC (.str "y")) (mCons (mC (.int 0)) mNil)))) (mCons (mTup (mCons (mC (.str "length")) (mCons (mC (.str "l")) (mCons (mC (.str "a")) mNil)))) mNil)))) (mgName 3))
  (msRet (mCb m__law_program (mCons (mVar 3) (mCons (mTup (mCons (mC (.str "go")) (mCons (mC (.str "loop")) (mCons (mTup (mCons (mC (.str "j")) (mCons (mC (.str "u")) mNil))) mNil)))) (mCons (mVar 2) (mCons (mTup mNil) (mCons (mC (.str "t")) mNil)))))))))))
def m__law_copies : List AV → M AV := fnM 4 1 mb__law_copies
theorem fr__law_copies : Fd m__law_copies := fd_fn (fs_seq (fs_asg (fe_ife (ft_test (fe_var 0)) (fe_tup (fa_cons (fe_tup (fa_cons (fe_c fun _ => rfl) (fa_cons (fe_c fun _ => rfl) fa_nil))) (fa_cons (fe_tup (fa_cons (fe_c fun _ => rfl) (fa_cons (fe_c fun _ => rfl) (fa_cons (fe_c fun _ => rfl) fa_nil)))) fa_nil))) (fe_tup fa_nil)) (fg_name 1)) (fs_seq (fs_asg (fe_op f2_add (fe_tup (fa_cons (fe_tup (fa_cons (fe_c fun _ => rfl) (fa_cons (fe_c fun _ => rfl) (fa_cons (fe_c fun _ => rfl) (fa_cons (fe_c fun _ => rfl) fa_nil))))) (fa_cons (fe_tup (fa_cons (fe_c fun _ => rfl) (fa_cons (fe_c fun _ => rfl) (fa_cons (fe_c fun _ => rfl) (fa_cons (fe_c fun _ => rfl) fa_nil))))) fa_nil))) (fe_var 1)) (fg_name 2)) (fs_seq (fs_asg (fe_op f2_add (fe_var 2) (fe_tup (fa_cons (fe_tup (fa_cons (fe_c fun _ => rfl) (fa_cons (fe_c fun _ => rfl) (fa_cons (fe_c fun _ => rfl) (fa_cons (fe_c fun _ => rfl) fa_nil))))) (fa_cons (fe_tup (fa_cons (fe_c fun _ => rfl) (fa_cons (fe_c fun _ => rfl) (fa_cons (fe_c fun _ => rfl) (fa_cons (fe_c fun _ => rfl) fa_nil))))) fa_nil)))) (fg_name 2)) (fs_seq (fs_asg (fe_tup (fa_cons (fe_tup (fa_cons (fe_c fun _ => rfl) (fa_cons (fe_c fun _ => rfl) (fa_cons (fe_c fun _ => rfl) fa_nil)))) (fa_cons (fe_tup (fa_cons (fe_c fun _ => rfl) (fa_cons (fe_c fun _ => rfl) (fa_cons (fe_c fun _ => rfl) fa_nil)))) (fa_cons (fe_tup (fa_cons (fe_c fun _ => rfl) (fa_cons (fe_c fun _ => rfl) (fa_cons (fe_c fun _ => rfl) fa_nil)))) fa_nil)))) (fg_name 3)) (fs_ret (fe_cb fr__law_program (fa_cons (fe_var 3) (fa_cons (fe_tup (fa_cons (fe_c fun _ => rfl) (fa_cons (fe_c fun _ => rfl) (fa_cons (fe_tup (fa_cons (fe_c fun _ => rfl) (fa_cons (fe_c fun _ => rfl) fa_nil))) fa_nil)))) (fa_cons (fe_var 2) (fa_cons (fe_tup fa_nil) (fa_cons (fe_c fun _ => rfl) fa_nil)))))))))))
def x__law_copies (M : Md P w K mg base) : XS (ct K w) :=
  (XS.seq (XS.asg (XE.ife (XT.ofE (XE.var 0)) (XE.tup (XA.cons (XE.tup (XA.cons (XE.str "low") (XA.cons (XE.str "i") XA.nil))) (XA.cons (XE.tup (XA.cons (XE.str "high") (XA.cons (XE.str "i") (XA.cons (XE.str "b") XA.nil)))) XA.nil))) (XE.tup XA.nil)) (XG.name 1))
  (XS.seq (XS.asg (XE.add (XE.tup (XA.cons (XE.tup (XA.cons (XE.str "get") (XA.cons (XE.str "x") (XA.cons (XE.str "a") (XA.cons (XE.str "i") XA.nil))))) (XA.cons (XE.tup (XA.cons (XE.str "sum") (XA.cons (XE.str "u") (XA.cons (XE.str "x") (XA.cons (XE.str "n") XA.nil))))) XA.nil))) (XE.var 1)) (XG.name 2))
  (XS.seq (XS.asg (XE.add (XE.var 2) (XE.tup (XA.cons (XE.tup (XA.cons (XE.str "put") (XA.cons (XE.str "b") (XA.cons (XE.str "i") (XA.cons (XE.str "u") XA.nil))))) (XA.cons (XE.tup (XA.cons (XE.str "move") (XA.cons (XE.str "j") (XA.cons (XE.str "i") (XA.cons (XE.int 1) XA.nil))))) XA.nil)))) (XG.name 2))
  (XS.seq (XS.asg (XE.tup (XA.cons (XE.tup (XA.cons (XE.str "set") (XA.cons (XE.str "z") (XA.cons (XE.int 0) XA.nil)))) (XA.cons (XE.tup (XA.cons (XE.str "set") (XA.cons (XE.str "y") (XA.cons (XE.int 0) XA.nil)))) (XA.cons (XE.tup (XA.cons (XE.str "length") (XA.cons (XE.str "l") (XA.cons (XE.str "a") XA.nil)))) XA.nil)))) (XG.name 3))
  (XS.ret (XE.call m__law_program (XA.cons (XE.var 3) (XA.cons (XE.tup (XA.cons (XE.str "go") (XA.cons (XE.str "loop") (XA.cons (XE.tup (XA.cons (XE.str "j") (XA.cons (XE.str "u") XA.nil))) XA.nil)))) (XA.cons (XE.var 2) (XA.cons (XE.tup XA.nil) (XA.cons (XE.str "t") XA.nil)))))))))))
theorem xm__law_copies (M : Md P w K mg base) : (x__law_copies M).f = mb__law_copies := rfl
theorem ok__law_copies (M : Md P w K mg base) : CK.Ok P w K mg base 9 "_law_copies" ["_law_is_checked"] (spI (ct K w) m__law_copies) := by
  obtain ⟨fd, F⟩ := M.d__law_copies
  refine ⟨_, fd, M.g__law_copies, F.kp, F.bindsN fun _ _ _ _ _ _ us hl => match us, hl with | [_], _ => rfl, F.ok sc__law_copies (fun vs H Q E h => fn_len (b := mb__law_copies) h) (fun cdv A outer s H vs Q E hr h => ⟨(x__law_copies M).t E, PSs.nox ?_, fn_pure (b := x__law_copies M) (N := N__law_copies) (k := 1) (by rw [xm__law_copies]; exact h)⟩)⟩
  exact (b_scons (b_set (j := 1) sc__law_copies.nd rfl (.inl rfl) (b_ife (b_test (b_var 0)) (b_tup (b_cons (b_tup (b_cons b_str (b_cons b_str b_nil))) (b_cons (b_tup (b_cons b_str (b_cons b_str (b_cons b_str b_nil)))) b_nil))) (b_tup b_nil)))
  (b_scons (b_set (j := 2) sc__law_copies.nd rfl (.inl rfl) (b_add (b_tup (b_cons (b_tup (b_cons b_str (b_cons b_str (b_cons b_str (b_cons b_str b_nil))))) (b_cons (b_tup (b_cons b_str (b_cons b_str (b_cons b_str (b_cons b_str b_nil))))) b_nil))) (b_var 1)))
  (b_scons (b_set (j := 2) sc__law_copies.nd rfl (.inl rfl) (b_add (b_var 2) (b_tup (b_cons (b_tup (b_cons b_str (b_cons b_str (b_cons b_str (b_cons b_str b_nil))))) (b_cons (b_tup (b_cons b_str (b_cons b_str (b_cons b_str (b_cons b_int b_nil))))) b_nil)))))
  (b_scons (b_set (j := 3) sc__law_copies.nd rfl (.inl rfl) (b_tup (b_cons (b_tup (b_cons b_str (b_cons b_str (b_cons b_int b_nil)))) (b_cons (b_tup (b_cons b_str (b_cons b_str (b_cons b_int b_nil)))) (b_cons (b_tup (b_cons b_str (b_cons b_str (b_cons b_str b_nil)))) b_nil)))))
  (b_sone (b_ret (b_call (ok__law_program M) (hr.mono (by decide)) rfl (b_cons (b_var 3) (b_cons (b_tup (b_cons b_str (b_cons b_str (b_cons (b_tup (b_cons b_str (b_cons b_str b_nil))) b_nil)))) (b_cons (b_var 2) (b_cons (b_tup b_nil) (b_cons b_str b_nil))))))))))))
/-! _law_turns -/
def N__law_turns : List Str := ["_law_start", "_law_loop", "_law_rows", "_law_body", "_law_on"]
theorem sc__law_turns : FnScope N__law_turns [] (defScope s__law_turns) := ⟨rfl, rfl, rfl, by decide +kernel, rfl, by decide +kernel, by decide +kernel⟩
def mb__law_turns : CI.Env → M Fl :=
  (msSeq (msAsg (mTup (mCons (mC (.str "start")) (mCons (mTup mNil) (mCons (mTup (mCons (mTup (mCons (mC (.str "set")) (mCons (mC (.str "z")) (mCons (mC (.int 0)) mNil)))) (mCons (mTup (mCons (mC (.str "length")) (mCons (mC (.str "l")) (mCons (mC (.str "a")) mNil)))) (mCons (mTup (mCons (mC (.str "move")) (mCons (mC (.str "y")) (mCons (mC (.str "l")) (mCons (mNeg (mC (.int 1))) mNil))))) mNil)))) (mCons (mTup (mCons (mC (.str "go")) (mCons (mC (.str "loop")) (mCons (mTup (mCons (mC (.str "z")) (mCons (mC (.str "y")) mNil))) mNil)))) mNil))))) (mgName 0))
  (msSeq (msAsg (mTup (mCons (mC (.str "loop")) (mCons (mTup (mCons (mC (.str "i")) (mCons (mC (.str "k")) mNil))) (mCons (mTup mNil) (mCons (mTup (mCons (mC (.str "less")) (mCons (mC (.str "i")) (mCons (mC (.str "k")) (mCons (mC (.str "body")) (mCons (mTup mNil) (mCons (mC (.str "out")) (mCons (mTup mNil) mNil)))))))) mNil))))) (mgName 1))
  (msSeq (msAsg (mTup (mCons (mTup (mCons (mC (.str "low")) (mCons (mC (.str "i")) mNil))) (mCons (mTup (mCons (mC (.str "high")) (mCons (mC (.str "k")) (mCons (mC (.str "a")) mNil)))) (mCons (mTup (mCons (mC (.str "get")) (mCons (mC (.str "x")) (mCons (mC (.str "a")) (mCons (mC (.str "i")) mNil))))) (mCons (mTup (mCons (mC (.str "get")) (mCons (mC (.str "v")) (mCons (mC (.str "a")) (mCons (mC (.str "k")) mNil))))) (mCons (mTup (mCons (mC (.str "put")) (mCons (mC (.str "a")) (mCons (mC (.str "i")) (mCons (mC (.str "v")) mNil))))) mNil)))))) (mgName 2))
  (msSeq (msAsg (mTup (mCons (mC (.str "body")) (mCons (mTup mNil) (mCons (mOp gAdd (mVar 2) (mTup (mCons (mTup (mCons (mC (.str "put")) (mCons (mC (.str "a")) (mCons (mC (.str "k")) (mCons (mC (.str "x")) mNil))))) mNil))) (mCons (mTup (mCons (mC (.str "go")) (mCons (mC (.str "on")) (mCons (mTup mNil) mNil)))) mNil))))) (mgName 3))
  (msSeq (msAsg (mTup (mCons (mC (.str "on")) (mCons (mTup mNil) (mCons (mTup (mCons (mTup (mCons (mC (.str "move")) (mCons (mC (.str "p")) (mCons (mC (.str "i")) (mCons (mC (.int 1)) mNil))))) (mCons (mTup (mCons (mC (.str "move")) (mCons (mC (.str "q")) (mCons (mC (.str "k")) (mCons (mNeg (mC (.int 1))) mNil))))) mNil))) (mCons (mTup (mCons (mC (.str "go")) (mCons (mC (.str "loop")) (mCons (mTup (mCons (mC (.str "p")) (mCons (mC (.str "q")) mNil))) mNil)))) mNil))))) (mgName 4))
  (msRet (mMake 0 m_Program_init (mCons (mTup (mCons (mC (.str "a")) (mCons (mC (.str "b")) mNil))) (mCons (mTup (mCons (mC (.str "n")) mNil)) (mCons (mTup (mCons (mVar 0) (mCons (mVar 1) (mCons (mVar 3) (mCons (mVar 4) (mCons (mTup (mCons (mC (.str "out")) (mCons (mTup mNil) (mCons (mTup mNil) (mCons (mTup (mCons (mC (.str "return")) (mCons (mC (.str "l")) mNil))) mNil))))) mNil)))))) mNil))))))))))
def m__law_turns : List AV → M AV := fnM 5 0 mb__law_turns
theorem fr__law_turns : Fd m__law_turns := fd_fn (fs_seq (fs_asg (fe_tup (fa_cons (fe_c fun _ => rfl) (fa_cons (fe_tup fa_nil) (fa_cons (fe_tup (fa_cons (fe_tup (fa_cons (fe_c fun _ => rfl) (fa_cons (fe_c fun _ => rfl) (fa_cons (fe_c fun _ => rfl) fa_nil)))) (fa_cons (fe_tup (fa_cons (fe_c fun _ => rfl) (fa_cons (fe_c fun _ => rfl) (fa_cons (fe_c fun _ => rfl) fa_nil)))) (fa_cons (fe_tup (fa_cons (fe_c fun _ => rfl) (fa_cons (fe_c fun _ => rfl) (fa_cons (fe_c fun _ => rfl) (fa_cons (fe_neg (fe_c fun _ => rfl)) fa_nil))))) fa_nil)))) (fa_cons (fe_tup (fa_cons (fe_c fun _ => rfl) (fa_cons (fe_c fun _ => rfl) (fa_cons (fe_tup (fa_cons (fe_c fun _ => rfl) (fa_cons (fe_c fun _ => rfl) fa_nil))) fa_nil)))) fa_nil))))) (fg_name 0)) (fs_seq (fs_asg (fe_tup (fa_cons (fe_c fun _ => rfl) (fa_cons (fe_tup (fa_cons (fe_c fun _ => rfl) (fa_cons (fe_c fun _ => rfl) fa_nil))) (fa_cons (fe_tup fa_nil) (fa_cons (fe_tup (fa_cons (fe_c fun _ => rfl) (fa_cons (fe_c fun _ => rfl) (fa_cons (fe_c fun _ => rfl) (fa_cons (fe_c fun _ => rfl) (fa_cons (fe_tup fa_nil) (fa_cons (fe_c fun _ => rfl) (fa_cons (fe_tup fa_nil) fa_nil)))))))) fa_nil))))) (fg_name 1)) (fs_seq (fs_asg (fe_tup (fa_cons (fe_tup (fa_cons (fe_c fun _ => rfl) (fa_cons (fe_c fun _ => rfl) fa_nil))) (fa_cons (fe_tup (fa_cons (fe_c fun _ => rfl) (fa_cons (fe_c fun _ => rfl) (fa_cons (fe_c fun _ => rfl) fa_nil)))) (fa_cons (fe_tup (fa_cons (fe_c fun _ => rfl) (fa_cons (fe_c fun _ => rfl) (fa_cons (fe_c fun _ => rfl) (fa_cons (fe_c fun _ => rfl) fa_nil))))) (fa_cons (fe_tup (fa_cons (fe_c fun _ => rfl) (fa_cons (fe_c fun _ => rfl) (fa_cons (fe_c fun _ => rfl) (fa_cons (fe_c fun _ => rfl) fa_nil))))) (fa_cons (fe_tup (fa_cons (fe_c fun _ => rfl) (fa_cons (fe_c fun _ => rfl) (fa_cons (fe_c fun _ => rfl) (fa_cons (fe_c fun _ => rfl) fa_nil))))) fa_nil)))))) (fg_name 2)) (fs_seq (fs_asg (fe_tup (fa_cons (fe_c fun _ => rfl) (fa_cons (fe_tup fa_nil) (fa_cons (fe_op f2_add (fe_var 2) (fe_tup (fa_cons (fe_tup (fa_cons (fe_c fun _ => rfl) (fa_cons (fe_c fun _ => rfl) (fa_cons (fe_c fun _ => rfl) (fa_cons (fe_c fun _ => rfl) fa_nil))))) fa_nil))) (fa_cons (fe_tup (fa_cons (fe_c fun _ => rfl) (fa_cons (fe_c fun _ => rfl) (fa_cons (fe_tup fa_nil) fa_nil)))) fa_nil))))) (fg_name 3)) (fs_seq (fs_asg (fe_tup (fa_cons (fe_c fun _ => rfl) (fa_cons (fe_tup fa_nil) (fa_cons (fe_tup (fa_cons (fe_tup (fa_cons (fe_c fun _ => rfl) (fa_cons (fe_c fun _ => rfl) (fa_cons (fe_c fun _ => rfl) (fa_cons (fe_c fun _ => rfl) fa_nil))))) (fa_cons (fe_tup (fa_cons (fe_c fun _ => rfl) (fa_cons (fe_c fun _ => rfl) (fa_cons (fe_c fun _ => rfl) (fa_cons (fe_neg (fe_c fun _ => rfl)) fa_nil))))) fa_nil))) (fa_cons (fe_tup (fa_cons (fe_c fun _ => rfl) (fa_cons (fe_c fun _ => rfl) (fa_cons (fe_tup (fa_cons (fe_c fun _ => rfl) (fa_cons (fe_c fun _ => rfl) fa_nil))) fa_nil)))) fa_nil))))) (fg_name 4)) (fs_ret (fe_make fr_Program_init (fa_cons (fe_tup (fa_cons (fe_c fun _ => rfl) (fa_cons (fe_c fun _ => rfl) fa_nil))) (fa_cons (fe_tup (fa_cons (fe_c fun _ => rfl) fa_nil)) (fa_cons (fe_tup (fa_cons (fe_var 0) (fa_cons (fe_var 1) (fa_cons (fe_var 3) (fa_cons (fe_var 4) (fa_cons (fe_tup (fa_cons (fe_c fun _ => rfl) (fa_cons (fe_tup fa_nil) (fa_cons (fe_tup fa_nil) (fa_cons (fe_tup (fa_cons (fe_c fun _ => rfl) (fa_cons (fe_c fun _ => rfl) fa_nil))) fa_nil))))) fa_nil)))))) fa_nil))))))))))
def x__law_turns (M : Md P w K mg base) : XS (ct K w) :=
  (XS.seq (XS.asg (XE.tup (XA.cons (XE.str "start") (XA.cons (XE.tup XA.nil) (XA.cons (XE.tup (XA.cons (XE.tup (XA.cons (XE.str "set") (XA.cons (XE.str "z") (XA.cons (XE.int 0) XA.nil)))) (XA.cons (XE.tup (XA.cons (XE.str "length") (XA.cons (XE.str "l") (XA.cons (XE.str "a") XA.nil)))) (XA.cons (XE.tup (XA.cons (XE.str "move") (XA.cons (XE.str "y") (XA.cons (XE.str "l") (XA.cons (XE.neg (XE.int 1)) XA.nil))))) XA.nil)))) (XA.cons (XE.tup (XA.cons (XE.str "go") (XA.cons (XE.str "loop") (XA.cons (XE.tup (XA.cons (XE.str "z") (XA.cons (XE.str "y") XA.nil))) XA.nil)))) XA.nil))))) (XG.name 0))
  (XS.seq (XS.asg (XE.tup (XA.cons (XE.str "loop") (XA.cons (XE.tup (XA.cons (XE.str "i") (XA.cons (XE.str "k") XA.nil))) (XA.cons (XE.tup XA.nil) (XA.cons (XE.tup (XA.cons (XE.str "less") (XA.cons (XE.str "i") (XA.cons (XE.str "k") (XA.cons (XE.str "body") (XA.cons (XE.tup XA.nil) (XA.cons (XE.str "out") (XA.cons (XE.tup XA.nil) XA.nil)))))))) XA.nil))))) (XG.name 1))
  (XS.seq (XS.asg (XE.tup (XA.cons (XE.tup (XA.cons (XE.str "low") (XA.cons (XE.str "i") XA.nil))) (XA.cons (XE.tup (XA.cons (XE.str "high") (XA.cons (XE.str "k") (XA.cons (XE.str "a") XA.nil)))) (XA.cons (XE.tup (XA.cons (XE.str "get") (XA.cons (XE.str "x") (XA.cons (XE.str "a") (XA.cons (XE.str "i") XA.nil))))) (XA.cons (XE.tup (XA.cons (XE.str "get") (XA.cons (XE.str "v") (XA.cons (XE.str "a") (XA.cons (XE.str "k") XA.nil))))) (XA.cons (XE.tup (XA.cons (XE.str "put") (XA.cons (XE.str "a") (XA.cons (XE.str "i") (XA.cons (XE.str "v") XA.nil))))) XA.nil)))))) (XG.name 2))
  (XS.seq (XS.asg (XE.tup (XA.cons (XE.str "body") (XA.cons (XE.tup XA.nil) (XA.cons (XE.add (XE.var 2) (XE.tup (XA.cons (XE.tup (XA.cons (XE.str "put") (XA.cons (XE.str "a") (XA.cons (XE.str "k") (XA.cons (XE.str "x") XA.nil))))) XA.nil))) (XA.cons (XE.tup (XA.cons (XE.str "go") (XA.cons (XE.str "on") (XA.cons (XE.tup XA.nil) XA.nil)))) XA.nil))))) (XG.name 3))
  (XS.seq (XS.asg (XE.tup (XA.cons (XE.str "on") (XA.cons (XE.tup XA.nil) (XA.cons (XE.tup (XA.cons (XE.tup (XA.cons (XE.str "move") (XA.cons (XE.str "p") (XA.cons (XE.str "i") (XA.cons (XE.int 1) XA.nil))))) (XA.cons (XE.tup (XA.cons (XE.str "move") (XA.cons (XE.str "q") (XA.cons (XE.str "k") (XA.cons (XE.neg (XE.int 1)) XA.nil))))) XA.nil))) (XA.cons (XE.tup (XA.cons (XE.str "go") (XA.cons (XE.str "loop") (XA.cons (XE.tup (XA.cons (XE.str "p") (XA.cons (XE.str "q") XA.nil))) XA.nil)))) XA.nil))))) (XG.name 4))
  (XS.ret (XE.make 0 m_Program_init (XA.cons (XE.tup (XA.cons (XE.str "a") (XA.cons (XE.str "b") XA.nil))) (XA.cons (XE.tup (XA.cons (XE.str "n") XA.nil)) (XA.cons (XE.tup (XA.cons (XE.var 0) (XA.cons (XE.var 1) (XA.cons (XE.var 3) (XA.cons (XE.var 4) (XA.cons (XE.tup (XA.cons (XE.str "out") (XA.cons (XE.tup XA.nil) (XA.cons (XE.tup XA.nil) (XA.cons (XE.tup (XA.cons (XE.str "return") (XA.cons (XE.str "l") XA.nil))) XA.nil))))) XA.nil)))))) XA.nil))))))))))
theorem xm__law_turns (M : Md P w K mg base) : (x__law_turns M).f = mb__law_turns := rfl
theorem ok__law_turns (M : Md P w K mg base) : CK.Ok P w K mg base 8 "_law_turns" [] (spI (ct K w) m__law_turns) := by
  obtain ⟨fd, F⟩ := M.d__law_turns
  refine ⟨_, fd, M.g__law_turns, F.kp, F.bindsN fun _ _ _ _ _ _ us hl => match us, hl with | [], _ => rfl, F.ok sc__law_turns (fun vs H Q E h => fn_len (b := mb__law_turns) h) (fun cdv A outer s H vs Q E hr h => ⟨(x__law_turns M).t E, PSs.nox ?_, fn_pure (b := x__law_turns M) (N := N__law_turns) (k := 0) (by rw [xm__law_turns]; exact h)⟩)⟩
  exact (b_scons (b_set (j := 0) sc__law_turns.nd rfl (.inl rfl) (b_tup (b_cons b_str (b_cons (b_tup b_nil) (b_cons (b_tup (b_cons (b_tup (b_cons b_str (b_cons b_str (b_cons b_int b_nil)))) (b_cons (b_tup (b_cons b_str (b_cons b_str (b_cons b_str b_nil)))) (b_cons (b_tup (b_cons b_str (b_cons b_str (b_cons b_str (b_cons (b_neg b_int) b_nil))))) b_nil)))) (b_cons (b_tup (b_cons b_str (b_cons b_str (b_cons (b_tup (b_cons b_str (b_cons b_str b_nil))) b_nil)))) b_nil))))))
  (b_scons (b_set (j := 1) sc__law_turns.nd rfl (.inl rfl) (b_tup (b_cons b_str (b_cons (b_tup (b_cons b_str (b_cons b_str b_nil))) (b_cons (b_tup b_nil) (b_cons (b_tup (b_cons b_str (b_cons b_str (b_cons b_str (b_cons b_str (b_cons (b_tup b_nil) (b_cons b_str (b_cons (b_tup b_nil) b_nil)))))))) b_nil))))))
  (b_scons (b_set (j := 2) sc__law_turns.nd rfl (.inl rfl) (b_tup (b_cons (b_tup (b_cons b_str (b_cons b_str b_nil))) (b_cons (b_tup (b_cons b_str (b_cons b_str (b_cons b_str b_nil)))) (b_cons (b_tup (b_cons b_str (b_cons b_str (b_cons b_str (b_cons b_str b_nil))))) (b_cons (b_tup (b_cons b_str (b_cons b_str (b_cons b_str (b_cons b_str b_nil))))) (b_cons (b_tup (b_cons b_str (b_cons b_str (b_cons b_str (b_cons b_str b_nil))))) b_nil)))))))
  (b_scons (b_set (j := 3) sc__law_turns.nd rfl (.inl rfl) (b_tup (b_cons b_str (b_cons (b_tup b_nil) (b_cons (b_add (b_var 2) (b_tup (b_cons (b_tup (b_cons b_str (b_cons b_str (b_cons b_str (b_cons b_str b_nil))))) b_nil))) (b_cons (b_tup (b_cons b_str (b_cons b_str (b_cons (b_tup b_nil) b_nil)))) b_nil))))))
  (b_scons (b_set (j := 4) sc__law_turns.nd rfl (.inl rfl) (b_tup (b_cons b_str (b_cons (b_tup b_nil) (b_cons (b_tup (b_cons (b_tup (b_cons b_str (b_cons b_str (b_cons b_str (b_cons b_int b_nil))))) (b_cons (b_tup (b_cons b_str (b_cons b_str (b_cons b_str (b_cons (b_neg b_int) b_nil))))) b_nil))) (b_cons (b_tup (b_cons b_str (b_cons b_str (b_cons (b_tup (b_cons b_str (b_cons b_str b_nil))) b_nil)))) b_nil))))))
  (b_sone (b_ret (b_make (ok_Program_init M) (hr.mono (by decide)) rfl (b_cons (b_tup (b_cons b_str (b_cons b_str b_nil))) (b_cons (b_tup (b_cons b_str b_nil)) (b_cons (b_tup (b_cons (b_var 0) (b_cons (b_var 1) (b_cons (b_var 3) (b_cons (b_var 4) (b_cons (b_tup (b_cons b_str (b_cons (b_tup b_nil) (b_cons (b_tup b_nil) (b_cons (b_tup (b_cons b_str (b_cons b_str b_nil))) b_nil))))) b_nil)))))) b_nil)))))))))))
/-! _law_copied -/
def N__law_copied : List Str := ["_law_one_here", "_law_other", "_law_n", "_law_spot", "_law_many", "_law_cells", "_law_item"]
theorem sc__law_copied : FnScope N__law_copied ["_law_one_here", "_law_other", "_law_n", "_law_spot"] (defScope s__law_copied) := ⟨rfl, rfl, rfl, by decide +kernel, rfl, by decide +kernel, by decide +kernel⟩
def mb__law_copied : CI.Env → M Fl :=
  (msSeq (msAsg (mCb minM (mCons (mCb lenM (mCons (mVar 0) mNil)) (mCons (mCb lenM (mCons (mVar 1) mNil)) mNil))) (mgName 4))
  (msSeq (msAsg (mOp gAdd (mCb tupM (mCons (mLc (mIt itAny (mSl (mVar 0) mNoP (mPart (mVar 4)))) (mgName 6) mYes (mOp gAdd (mVar 6) (mVar 2)) [6]) mNil)) (mCb tupM (mCons (mSl (mVar 1) (mPart (mVar 4)) mNoP) mNil))) (mgName 5))
  (msSeq (msIte (mTest (mOp gLt (mVar 4) (mCb lenM (mCons (mVar 0) mNil))))
  (msRet (mTup (mCons (mC (.str "fault")) (mCons (mC (.str "body")) (mCons (mVar 3) (mCons (mTup (mCons (mCb tupM (mCons (mVar 0) mNil)) (mCons (mVar 5) mNil))) mNil))))))
  msNext)
  (msRet (mTup (mCons (mC (.str "value")) (mCons (mIfe (mTest (mOp gNe (mVar 0) (mLst mNil))) (mOp gAdd (mOp ixM (mVar 0) (mNeg (mC (.int 1)))) (mVar 2)) (mC (.int 0))) (mCons (mTup (mCons (mCb tupM (mCons (mVar 0) mNil)) (mCons (mVar 5) mNil))) mNil))))))))
def m__law_copied : List AV → M AV := fnM 7 4 mb__law_copied
theorem fr__law_copied : Fd m__law_copied := fd_fn (fs_seq (fs_asg (fe_cb fd_min (fa_cons (fe_cb fd_len (fa_cons (fe_var 0) fa_nil)) (fa_cons (fe_cb fd_len (fa_cons (fe_var 1) fa_nil)) fa_nil))) (fg_name 4)) (fs_seq (fs_asg (fe_op f2_add (fe_cb fd_tup (fa_cons (fe_lc (fi_it it_any (fe_sl (fe_var 0) fo_no (fo_of (fe_var 4)))) (fg_name 6) ft_yes (fe_op f2_add (fe_var 6) (fe_var 2))) fa_nil)) (fe_cb fd_tup (fa_cons (fe_sl (fe_var 1) (fo_of (fe_var 4)) fo_no) fa_nil))) (fg_name 5)) (fs_seq (fs_ite (ft_test (fe_op f2_lt (fe_var 4) (fe_cb fd_len (fa_cons (fe_var 0) fa_nil)))) (fs_ret (fe_tup (fa_cons (fe_c fun _ => rfl) (fa_cons (fe_c fun _ => rfl) (fa_cons (fe_var 3) (fa_cons (fe_tup (fa_cons (fe_cb fd_tup (fa_cons (fe_var 0) fa_nil)) (fa_cons (fe_var 5) fa_nil))) fa_nil)))))) fs_next) (fs_ret (fe_tup (fa_cons (fe_c fun _ => rfl) (fa_cons (fe_ife (ft_test (fe_op f2_ne (fe_var 0) (fe_lst fa_nil))) (fe_op f2_add (fe_op f2_ix (fe_var 0) (fe_neg (fe_c fun _ => rfl))) (fe_var 2)) (fe_c fun _ => rfl)) (fa_cons (fe_tup (fa_cons (fe_cb fd_tup (fa_cons (fe_var 0) fa_nil)) (fa_cons (fe_var 5) fa_nil))) fa_nil))))))))
def x__law_copied (M : Md P w K mg base) : XS (ct K w) :=
  (XS.seq (XS.asg (XE.min (XA.cons (XE.len (XA.cons (XE.var 0) XA.nil)) (XA.cons (XE.len (XA.cons (XE.var 1) XA.nil)) XA.nil))) (XG.name 4))
  (XS.seq (XS.asg (XE.add (XE.tup1 (XA.cons (XE.lc (XI.any (XE.sl (XE.var 0) XO.no (XO.of (XE.var 4)))) (XG.name 6) XT.yes (XE.add (XE.var 6) (XE.var 2)) [6] (by intro i h; exact h)) XA.nil)) (XE.tup1 (XA.cons (XE.sl (XE.var 1) (XO.of (XE.var 4)) XO.no) XA.nil))) (XG.name 5))
  (XS.seq (XS.ite (XT.ofE (XE.lt (XE.var 4) (XE.len (XA.cons (XE.var 0) XA.nil))))
  (XS.ret (XE.tup (XA.cons (XE.str "fault") (XA.cons (XE.str "body") (XA.cons (XE.var 3) (XA.cons (XE.tup (XA.cons (XE.tup1 (XA.cons (XE.var 0) XA.nil)) (XA.cons (XE.var 5) XA.nil))) XA.nil))))))
  XS.next)
  (XS.ret (XE.tup (XA.cons (XE.str "value") (XA.cons (XE.ife (XT.ofE (XE.ne (XE.var 0) (XE.lst XA.nil))) (XE.add (XE.ix (XE.var 0) (XE.neg (XE.int 1))) (XE.var 2)) (XE.int 0)) (XA.cons (XE.tup (XA.cons (XE.tup1 (XA.cons (XE.var 0) XA.nil)) (XA.cons (XE.var 5) XA.nil))) XA.nil))))))))
theorem xm__law_copied (M : Md P w K mg base) : (x__law_copied M).f = mb__law_copied := rfl
theorem ok__law_copied (M : Md P w K mg base) : CK.Ok P w K mg base 1 "_law_copied" ["_law_one_here", "_law_other", "_law_n", "_law_spot"] (spI (ct K w) m__law_copied) := by
  obtain ⟨fd, F⟩ := M.d__law_copied
  refine ⟨_, fd, M.g__law_copied, F.kp, F.bindsN fun _ _ _ _ _ _ us hl => match us, hl with | [_, _, _, _], _ => rfl, F.ok sc__law_copied (fun vs H Q E h => fn_len (b := mb__law_copied) h) (fun cdv A outer s H vs Q E hr h => ⟨(x__law_copied M).t E, PSs.nox ?_, fn_pure (b := x__law_copied M) (N := N__law_copied) (k := 4) (by rw [xm__law_copied]; exact h)⟩)⟩
  exact (b_scons (b_set (j := 4) sc__law_copied.nd rfl (.inl rfl) (b_min rfl rfl M.f_min boot_min (b_cons (b_len  rfl M.f_len boot_len (b_cons (b_var 0) b_nil)) (b_cons (b_len  rfl M.f_len boot_len (b_cons (b_var 1) b_nil)) b_nil))))
  (b_scons (b_set (j := 5) sc__law_copied.nd rfl (.inl rfl) (b_add (b_tup1 rfl M.f_tuple boot_tuple (b_cons (b_lc [("_law_item", 6)] rfl sc__law_copied.nd (b_iany (b_sl (b_var 0) b_pno (b_pof (b_var 4)))) (blkOk_by (own := [("_law_item", 6)]) (N := N__law_copied) (sc := defScope s__law_copied) (by decide +kernel)) (fun _ _ _ _ _ => (b_gname (i := 6) sc__law_copied.nd rfl (.inl rfl))) (fun _ _ _ _ _ => b_tsnil) (fun _ _ _ _ _ => (b_add (b_var 6) (b_var 2)))) b_nil)) (b_tup1 rfl M.f_tuple boot_tuple (b_cons (b_sl (b_var 1) (b_pof (b_var 4)) b_pno) b_nil))))
  (b_scons (b_if (b_tlt (b_var 4) (b_len  rfl M.f_len boot_len (b_cons (b_var 0) b_nil)))
  (b_sone (b_ret (b_tup (b_cons b_str (b_cons b_str (b_cons (b_var 3) (b_cons (b_tup (b_cons (b_tup1 rfl M.f_tuple boot_tuple (b_cons (b_var 0) b_nil)) (b_cons (b_var 5) b_nil))) b_nil)))))))
  b_snil)
  (b_sone (b_ret (b_tup (b_cons b_str (b_cons (b_ife (b_tne (CK.hu64 hr) (b_var 0) (b_lst b_nil)) (b_add (b_ix (CK.hu1 hr) (b_var 0) (b_neg b_int)) (b_var 2)) b_int) (b_cons (b_tup (b_cons (b_tup1 rfl M.f_tuple boot_tuple (b_cons (b_var 0) b_nil)) (b_cons (b_var 5) b_nil))) b_nil)))))))))
/-! _law_right -/
def N__law_right : List Str := ["_law_well_here", "_law_one_here", "_law_other", "_law_kept", "_law_is_checked", "_law_n", "_law_lists", "_law_due", "_law_k"]
theorem sc__law_right : FnScope N__law_right ["_law_well_here"] (defScope s__law_right) := ⟨rfl, rfl, rfl, by decide +kernel, rfl, by decide +kernel, by decide +kernel⟩
def mb__law_right : CI.Env → M Fl :=
  (msSeq (msAsg (mLc (mItA itRng (mCons (mCb m__law_one (mCons (mVar 0) (mCons (mLst (mCons (mC (.int 0)) (mCons (mC (.int 1)) (mCons (mC (.int 50)) (mCons (mCb m__law_draw (mCons (mVar 0) (mCons (mC (.int 51)) mNil))) mNil))))) mNil))) mNil)) (mgName 8) mYes (mOp gSub (mCb m__law_draw (mCons (mVar 0) (mCons (mOp gPow (mC (.int 10)) (mC (.int 6))) mNil))) (mC (.int 500000))) [8]) (mgName 1))
  (msSeq (msAsg (mLc (mItA itRng (mCons (mCb m__law_one (mCons (mVar 0) (mCons (mLst (mCons (mCb lenM (mCons (mVar 1) mNil)) (mCons (mCb lenM (mCons (mVar 1) mNil)) (mCons (mCb m__law_draw (mCons (mVar 0) (mCons (mC (.int 51)) mNil))) mNil)))) mNil))) mNil)) (mgName 8) mYes (mCb m__law_draw (mCons (mVar 0) (mCons (mC (.int 9)) mNil))) [8]) (mgName 2))
  (msSeq (msPar 5 6 (mCons (mOp gSub (mCb m__law_draw (mCons (mVar 0) (mCons (mOp gPow (mC (.int 10)) (mC (.int 6))) mNil))) (mC (.int 500000))) (mCons (mTup (mCons (mVar 1) (mCons (mCb tupM (mCons (mVar 2) mNil)) mNil))) mNil)))
  (msSeq (msAsg (mTup (mCons (mCb tupM (mCons (mVar 1) mNil)) (mCons (mCb tupM (mCons (mVar 2) mNil)) mNil))) (mgName 3))
  (msSeq (msLoop (mIt itAny (mTup (mCons (mC (.bl true)) (mCons (mC (.bl false)) mNil)))) (mgName 4)
  (msSeq (msIte (mTest (mOp gNe (mCallD m_run da_run (mCons (mCb m__law_sums (mCons (mVar 4) mNil)) (mCons (mVar 6) (mCons (mTup (mCons (mVar 5) mNil)) mNil)))) (mTup (mCons (mC (.str "value")) (mCons (mCb sumM (mCons (mVar 1) mNil)) (mCons (mVar 3) mNil))))))
  (msRet (mC (.bl false)))
  msNext)
  (msSeq (msAsg (mCb m__law_copied (mCons (mVar 1) (mCons (mVar 2) (mCons (mVar 5) (mCons (mIfe (mTest (mVar 4)) (mC (.int 3)) (mC (.int 2))) mNil))))) (mgName 7))
  (msIte (mTest (mOp gNe (mCallD m_run da_run (mCons (mCb m__law_copies (mCons (mVar 4) mNil)) (mCons (mVar 6) (mCons (mTup (mCons (mVar 5) mNil)) mNil)))) (mVar 7)))
  (msRet (mC (.bl false)))
  msNext))))
  (msSeq (msIte (mTest (mOp gNe (mCallD m_run da_run (mCons (mCb m__law_greatest mNil) (mCons (mVar 6) (mCons (mTup (mCons (mVar 5) mNil)) mNil)))) (mTup (mCons (mC (.str "value")) (mCons (mCb maxM (mCons (mOp gAdd (mLst (mCons (mVar 5) mNil)) (mVar 1)) mNil)) (mCons (mVar 3) mNil))))))
  (msRet (mC (.bl false)))
  msNext)
  (msRet (mOp gEq (mCallD m_run da_run (mCons (mCb m__law_turns mNil) (mCons (mVar 6) (mCons (mTup (mCons (mVar 5) mNil)) mNil)))) (mTup (mCons (mC (.str "value")) (mCons (mCb lenM (mCons (mVar 1) mNil)) (mCons (mTup (mCons (mRev (mOp ixM (mVar 3) (mC (.int 0)))) (mCons (mOp ixM (mVar 3) (mC (.int 1))) mNil))) mNil))))))))))))
def m__law_right : List AV → M AV := fnM 9 1 mb__law_right
theorem fr__law_right : Fd m__law_right := fd_fn (fs_seq (fs_asg (fe_lc (fi_itA it_rng (fa_cons (fe_cb fr__law_one (fa_cons (fe_var 0) (fa_cons (fe_lst (fa_cons (fe_c fun _ => rfl) (fa_cons (fe_c fun _ => rfl) (fa_cons (fe_c fun _ => rfl) (fa_cons (fe_cb fr__law_draw (fa_cons (fe_var 0) (fa_cons (fe_c fun _ => rfl) fa_nil))) fa_nil))))) fa_nil))) fa_nil)) (fg_name 8) ft_yes (fe_op f2_sub (fe_cb fr__law_draw (fa_cons (fe_var 0) (fa_cons (fe_op f2_pow (fe_c fun _ => rfl) (fe_c fun _ => rfl)) fa_nil))) (fe_c fun _ => rfl))) (fg_name 1)) (fs_seq (fs_asg (fe_lc (fi_itA it_rng (fa_cons (fe_cb fr__law_one (fa_cons (fe_var 0) (fa_cons (fe_lst (fa_cons (fe_cb fd_len (fa_cons (fe_var 1) fa_nil)) (fa_cons (fe_cb fd_len (fa_cons (fe_var 1) fa_nil)) (fa_cons (fe_cb fr__law_draw (fa_cons (fe_var 0) (fa_cons (fe_c fun _ => rfl) fa_nil))) fa_nil)))) fa_nil))) fa_nil)) (fg_name 8) ft_yes (fe_cb fr__law_draw (fa_cons (fe_var 0) (fa_cons (fe_c fun _ => rfl) fa_nil)))) (fg_name 2)) (fs_seq (fs_par (fa_cons (fe_op f2_sub (fe_cb fr__law_draw (fa_cons (fe_var 0) (fa_cons (fe_op f2_pow (fe_c fun _ => rfl) (fe_c fun _ => rfl)) fa_nil))) (fe_c fun _ => rfl)) (fa_cons (fe_tup (fa_cons (fe_var 1) (fa_cons (fe_cb fd_tup (fa_cons (fe_var 2) fa_nil)) fa_nil))) fa_nil))) (fs_seq (fs_asg (fe_tup (fa_cons (fe_cb fd_tup (fa_cons (fe_var 1) fa_nil)) (fa_cons (fe_cb fd_tup (fa_cons (fe_var 2) fa_nil)) fa_nil))) (fg_name 3)) (fs_seq (fs_loop (fi_it it_any (fe_tup (fa_cons (fe_c fun _ => rfl) (fa_cons (fe_c fun _ => rfl) fa_nil)))) (fg_name 4) (fs_seq (fs_ite (ft_test (fe_op f2_ne (fe_callD fr_run (fun _ => rfl) (fa_cons (fe_cb fr__law_sums (fa_cons (fe_var 4) fa_nil)) (fa_cons (fe_var 6) (fa_cons (fe_tup (fa_cons (fe_var 5) fa_nil)) fa_nil)))) (fe_tup (fa_cons (fe_c fun _ => rfl) (fa_cons (fe_cb fd_sum (fa_cons (fe_var 1) fa_nil)) (fa_cons (fe_var 3) fa_nil)))))) (fs_ret (fe_c fun _ => rfl)) fs_next) (fs_seq (fs_asg (fe_cb fr__law_copied (fa_cons (fe_var 1) (fa_cons (fe_var 2) (fa_cons (fe_var 5) (fa_cons (fe_ife (ft_test (fe_var 4)) (fe_c fun _ => rfl) (fe_c fun _ => rfl)) fa_nil))))) (fg_name 7)) (fs_ite (ft_test (fe_op f2_ne (fe_callD fr_run (fun _ => rfl) (fa_cons (fe_cb fr__law_copies (fa_cons (fe_var 4) fa_nil)) (fa_cons (fe_var 6) (fa_cons (fe_tup (fa_cons (fe_var 5) fa_nil)) fa_nil)))) (fe_var 7))) (fs_ret (fe_c fun _ => rfl)) fs_next)))) (fs_seq (fs_ite (ft_test (fe_op f2_ne (fe_callD fr_run (fun _ => rfl) (fa_cons (fe_cb fr__law_greatest fa_nil) (fa_cons (fe_var 6) (fa_cons (fe_tup (fa_cons (fe_var 5) fa_nil)) fa_nil)))) (fe_tup (fa_cons (fe_c fun _ => rfl) (fa_cons (fe_cb fd_max (fa_cons (fe_op f2_add (fe_lst (fa_cons (fe_var 5) fa_nil)) (fe_var 1)) fa_nil)) (fa_cons (fe_var 3) fa_nil)))))) (fs_ret (fe_c fun _ => rfl)) fs_next) (fs_ret (fe_op f2_eq (fe_callD fr_run (fun _ => rfl) (fa_cons (fe_cb fr__law_turns fa_nil) (fa_cons (fe_var 6) (fa_cons (fe_tup (fa_cons (fe_var 5) fa_nil)) fa_nil)))) (fe_tup (fa_cons (fe_c fun _ => rfl) (fa_cons (fe_cb fd_len (fa_cons (fe_var 1) fa_nil)) (fa_cons (fe_tup (fa_cons (fe_rev (fe_op f2_ix (fe_var 3) (fe_c fun _ => rfl))) (fa_cons (fe_op f2_ix (fe_var 3) (fe_c fun _ => rfl)) fa_nil))) fa_nil))))))))))))
def x__law_right (M : Md P w K mg base) : XS (ct K w) :=
  (XS.seq (XS.asg (XE.lc (XI.rng (XA.cons (XE.call m__law_one (XA.cons (XE.var 0) (XA.cons (XE.lst (XA.cons (XE.int 0) (XA.cons (XE.int 1) (XA.cons (XE.int 50) (XA.cons (XE.call m__law_draw (XA.cons (XE.var 0) (XA.cons (XE.int 51) XA.nil))) XA.nil))))) XA.nil))) XA.nil)) (XG.name 8) XT.yes (XE.sub (XE.call m__law_draw (XA.cons (XE.var 0) (XA.cons (XE.pow (XE.int 10) (XE.int 6)) XA.nil))) (XE.int 500000)) [8] (by intro i h; exact h)) (XG.name 1))
  (XS.seq (XS.asg (XE.lc (XI.rng (XA.cons (XE.call m__law_one (XA.cons (XE.var 0) (XA.cons (XE.lst (XA.cons (XE.len (XA.cons (XE.var 1) XA.nil)) (XA.cons (XE.len (XA.cons (XE.var 1) XA.nil)) (XA.cons (XE.call m__law_draw (XA.cons (XE.var 0) (XA.cons (XE.int 51) XA.nil))) XA.nil)))) XA.nil))) XA.nil)) (XG.name 8) XT.yes (XE.call m__law_draw (XA.cons (XE.var 0) (XA.cons (XE.int 9) XA.nil))) [8] (by intro i h; exact h)) (XG.name 2))
  (XS.seq (XS.par 5 6 (XA.cons (XE.sub (XE.call m__law_draw (XA.cons (XE.var 0) (XA.cons (XE.pow (XE.int 10) (XE.int 6)) XA.nil))) (XE.int 500000)) (XA.cons (XE.tup (XA.cons (XE.var 1) (XA.cons (XE.tup1 (XA.cons (XE.var 2) XA.nil)) XA.nil))) XA.nil)))
  (XS.seq (XS.asg (XE.tup (XA.cons (XE.tup1 (XA.cons (XE.var 1) XA.nil)) (XA.cons (XE.tup1 (XA.cons (XE.var 2) XA.nil)) XA.nil))) (XG.name 3))
  (XS.seq (XS.loop (XI.any (XE.tup (XA.cons (XE.bl true) (XA.cons (XE.bl false) XA.nil)))) (XG.name 4)
  (XS.seq (XS.ite (XT.ofE (XE.ne (XE.callD m_run dv_run da_run (fun μ H => dr_run μ H) (XA.cons (XE.call m__law_sums (XA.cons (XE.var 4) XA.nil)) (XA.cons (XE.var 6) (XA.cons (XE.tup (XA.cons (XE.var 5) XA.nil)) XA.nil)))) (XE.tup (XA.cons (XE.str "value") (XA.cons (XE.sum (XA.cons (XE.var 1) XA.nil)) (XA.cons (XE.var 3) XA.nil))))))
  (XS.ret (XE.bl false))
  XS.next)
  (XS.seq (XS.asg (XE.call m__law_copied (XA.cons (XE.var 1) (XA.cons (XE.var 2) (XA.cons (XE.var 5) (XA.cons (XE.ife (XT.ofE (XE.var 4)) (XE.int 3) (XE.int 2)) XA.nil))))) (XG.name 7))
  (XS.ite (XT.ofE (XE.ne (XE.callD m_run dv_run da_run (fun μ H => dr_run μ H) (XA.cons (XE.call m__law_copies (XA.cons (XE.var 4) XA.nil)) (XA.cons (XE.var 6) (XA.cons (XE.tup (XA.cons (XE.var 5) XA.nil)) XA.nil)))) (XE.var 7)))
  (XS.ret (XE.bl false))
  XS.next))))
  (XS.seq (XS.ite (XT.ofE (XE.ne (XE.callD m_run dv_run da_run (fun μ H => dr_run μ H) (XA.cons (XE.call m__law_greatest XA.nil) (XA.cons (XE.var 6) (XA.cons (XE.tup (XA.cons (XE.var 5) XA.nil)) XA.nil)))) (XE.tup (XA.cons (XE.str "value") (XA.cons (XE.max (XA.cons (XE.add (XE.lst (XA.cons (XE.var 5) XA.nil)) (XE.var 1)) XA.nil)) (XA.cons (XE.var 3) XA.nil))))))
  (XS.ret (XE.bl false))
  XS.next)
  (XS.ret (XE.eq (XE.callD m_run dv_run da_run (fun μ H => dr_run μ H) (XA.cons (XE.call m__law_turns XA.nil) (XA.cons (XE.var 6) (XA.cons (XE.tup (XA.cons (XE.var 5) XA.nil)) XA.nil)))) (XE.tup (XA.cons (XE.str "value") (XA.cons (XE.len (XA.cons (XE.var 1) XA.nil)) (XA.cons (XE.tup (XA.cons (XE.rev (XE.ix (XE.var 3) (XE.int 0))) (XA.cons (XE.ix (XE.var 3) (XE.int 1)) XA.nil))) XA.nil))))))))))))
theorem xm__law_right (M : Md P w K mg base) : (x__law_right M).f = mb__law_right := rfl
theorem ok__law_right (M : Md P w K mg base) : CK.Ok P w K mg base 10 "_law_right" ["_law_well_here"] (spI (ct K w) m__law_right) := by
  obtain ⟨fd, F⟩ := M.d__law_right
  refine ⟨_, fd, M.g__law_right, F.kp, F.bindsN fun _ _ _ _ _ _ us hl => match us, hl with | [_], _ => rfl, F.ok sc__law_right (fun vs H Q E h => fn_len (b := mb__law_right) h) (fun cdv A outer s H vs Q E hr h => ⟨(x__law_right M).t E, PSs.nox ?_, fn_pure (b := x__law_right M) (N := N__law_right) (k := 1) (by rw [xm__law_right]; exact h)⟩)⟩
  exact (b_scons (b_setLc (j := 1) [("_law_k", 8)] rfl sc__law_right.nd rfl rfl (sw_true rfl rfl rfl (by decide +kernel)) (b_irng rfl M.f_range (b_cons (b_call (ok__law_one M) (hr.mono (by decide)) rfl (b_cons (b_var 0) (b_cons (b_lst (b_cons b_int (b_cons b_int (b_cons b_int (b_cons (b_call (ok__law_draw M) (hr.mono (by decide)) rfl (b_cons (b_var 0) (b_cons b_int b_nil))) b_nil))))) b_nil))) b_nil)) (blkOk_by (own := [("_law_k", 8)]) (N := N__law_right) (sc := defScope s__law_right) (by decide +kernel)) (fun _ _ _ _ _ => (b_gname (i := 8) sc__law_right.nd rfl (.inl rfl))) (fun _ _ _ _ _ => b_tsnil) (fun _ _ _ _ _ => (b_sub (b_call (ok__law_draw M) (hr.mono (by decide)) rfl (b_cons (b_var 0) (b_cons (b_pow b_int b_int) b_nil))) b_int)))
  (b_scons (b_setLc (j := 2) [("_law_k", 8)] rfl sc__law_right.nd rfl rfl (sw_true rfl rfl rfl (by decide +kernel)) (b_irng rfl M.f_range (b_cons (b_call (ok__law_one M) (hr.mono (by decide)) rfl (b_cons (b_var 0) (b_cons (b_lst (b_cons (b_len  rfl M.f_len boot_len (b_cons (b_var 1) b_nil)) (b_cons (b_len  rfl M.f_len boot_len (b_cons (b_var 1) b_nil)) (b_cons (b_call (ok__law_draw M) (hr.mono (by decide)) rfl (b_cons (b_var 0) (b_cons b_int b_nil))) b_nil)))) b_nil))) b_nil)) (blkOk_by (own := [("_law_k", 8)]) (N := N__law_right) (sc := defScope s__law_right) (by decide +kernel)) (fun _ _ _ _ _ => (b_gname (i := 8) sc__law_right.nd rfl (.inl rfl))) (fun _ _ _ _ _ => b_tsnil) (fun _ _ _ _ _ => (b_call (ok__law_draw M) (hr.mono (by decide)) rfl (b_cons (b_var 0) (b_cons b_int b_nil)))))
  (b_scons (b_par (i := 5) (j := 6) rfl sc__law_right.nd rfl rfl (by decide) rfl rfl (b_cons (b_sub (b_call (ok__law_draw M) (hr.mono (by decide)) rfl (b_cons (b_var 0) (b_cons (b_pow b_int b_int) b_nil))) b_int) (b_cons (b_tup (b_cons (b_var 1) (b_cons (b_tup1 rfl M.f_tuple boot_tuple (b_cons (b_var 2) b_nil)) b_nil))) b_nil)))
  (b_scons (b_set (j := 3) sc__law_right.nd rfl (.inl rfl) (b_tup (b_cons (b_tup1 rfl M.f_tuple boot_tuple (b_cons (b_var 1) b_nil)) (b_cons (b_tup1 rfl M.f_tuple boot_tuple (b_cons (b_var 2) b_nil)) b_nil))))
  (b_scons (b_for PassesOwn.never rfl (b_iany (b_tup (b_cons b_bl (b_cons b_bl b_nil)))) (b_gname (i := 4) sc__law_right.nd rfl (.inl rfl))
  (b_scons (b_if (b_tne (CK.hu64 hr) (b_callD (ok_run M) (hr.mono (by decide)) rfl (b_cons (b_call (ok__law_sums M) (hr.mono (by decide)) rfl (b_cons (b_var 4) b_nil)) (b_cons (b_var 6) (b_cons (b_tup (b_cons (b_var 5) b_nil)) b_nil)))) (b_tup (b_cons b_str (b_cons (b_sum rfl rfl M.f_sum boot_sum (b_cons (b_var 1) b_nil)) (b_cons (b_var 3) b_nil)))))
  (b_sone (b_ret b_bl))
  b_snil)
  (b_scons (b_set (j := 7) sc__law_right.nd rfl (.inl rfl) (b_call (ok__law_copied M) (hr.mono (by decide)) rfl (b_cons (b_var 1) (b_cons (b_var 2) (b_cons (b_var 5) (b_cons (b_ife (b_test (b_var 4)) b_int b_int) b_nil))))))
  (b_sone (b_if (b_tne (CK.hu64 hr) (b_callD (ok_run M) (hr.mono (by decide)) rfl (b_cons (b_call (ok__law_copies M) (hr.mono (by decide)) rfl (b_cons (b_var 4) b_nil)) (b_cons (b_var 6) (b_cons (b_tup (b_cons (b_var 5) b_nil)) b_nil)))) (b_var 7))
  (b_sone (b_ret b_bl))
  b_snil)))))
  (b_scons (b_if (b_tne (CK.hu64 hr) (b_callD (ok_run M) (hr.mono (by decide)) rfl (b_cons (b_call0 (ok__law_greatest M) (hr.mono (by decide)) rfl) (b_cons (b_var 6) (b_cons (b_tup (b_cons (b_var 5) b_nil)) b_nil)))) (b_tup (b_cons b_str (b_cons (b_max rfl rfl M.f_max boot_max (b_cons (b_add (b_lst (b_cons (b_var 5) b_nil)) (b_var 1)) b_nil)) (b_cons (b_var 3) b_nil)))))
  (b_sone (b_ret b_bl))
  b_snil)
  (b_sone (b_ret (b_eq (CK.hu64 hr) (b_callD (ok_run M) (hr.mono (by decide)) rfl (b_cons (b_call0 (ok__law_turns M) (hr.mono (by decide)) rfl) (b_cons (b_var 6) (b_cons (b_tup (b_cons (b_var 5) b_nil)) b_nil)))) (b_tup (b_cons b_str (b_cons (b_len  rfl M.f_len boot_len (b_cons (b_var 1) b_nil)) (b_cons (b_tup (b_cons (b_rev (b_ix (CK.hu1 hr) (b_var 3) b_int)) (b_cons (b_ix (CK.hu1 hr) (b_var 3) b_int) b_nil))) b_nil)))))))))))))
/-! law -/
def N_law : List Str := ["_law_script", "_law_cell", "_law_well_here"]
theorem sc_law : FnScope N_law ["_law_script"] (defScope s_law) := ⟨rfl, rfl, rfl, by decide +kernel, rfl, by decide +kernel, by decide +kernel⟩
def mb_law : CI.Env → M Fl :=
  (msSeq (msLoop (mIt itAny (mOp gAdd (mSl (mVar 0) mNoP (mPart (mC (.int 4)))) (mLst (mCons (mC (.int 0)) mNil)))) (mgName 1)
  (msSeq (msAsg (mCb m__law_well (mCons (mVar 1) mNil)) (mgName 2))
  (msIte (mTOr (mTNot (mTest (mCb m__law_right (mCons (mVar 2) mNil)))) (mTNot (mTest (mCb m__law_right (mCons (mVar 2) mNil)))))
  (msRet (mC (.bl false)))
  msNext)))
  (msRet (mC (.bl true))))
def m_law : List AV → M AV := fnM 3 1 mb_law
theorem fr_law : Fd m_law := fd_fn (fs_seq (fs_loop (fi_it it_any (fe_op f2_add (fe_sl (fe_var 0) fo_no (fo_of (fe_c fun _ => rfl))) (fe_lst (fa_cons (fe_c fun _ => rfl) fa_nil)))) (fg_name 1) (fs_seq (fs_asg (fe_cb fr__law_well (fa_cons (fe_var 1) fa_nil)) (fg_name 2)) (fs_ite (ft_or (ft_not (ft_test (fe_cb fr__law_right (fa_cons (fe_var 2) fa_nil)))) (ft_not (ft_test (fe_cb fr__law_right (fa_cons (fe_var 2) fa_nil))))) (fs_ret (fe_c fun _ => rfl)) fs_next))) (fs_ret (fe_c fun _ => rfl)))
def x_law (M : Md P w K mg base) : XS (ct K w) :=
  (XS.seq (XS.loop (XI.any (XE.add (XE.sl (XE.var 0) XO.no (XO.of (XE.int 4))) (XE.lst (XA.cons (XE.int 0) XA.nil)))) (XG.name 1)
  (XS.seq (XS.asg (XE.call m__law_well (XA.cons (XE.var 1) XA.nil)) (XG.name 2))
  (XS.ite (XT.or (XT.not (XT.ofE (XE.call m__law_right (XA.cons (XE.var 2) XA.nil)))) (XT.not (XT.ofE (XE.call m__law_right (XA.cons (XE.var 2) XA.nil)))))
  (XS.ret (XE.bl false))
  XS.next)))
  (XS.ret (XE.bl true)))
theorem xm_law (M : Md P w K mg base) : (x_law M).f = mb_law := rfl
abbrev lawLevel : Nat := 11
theorem fn_law (M : Md P w K mg base) {fd : FuncData} (F : FunD K "law" "law" (defArgs s_law) (defBody s_law) (defScope s_law) [] [] (He.ga K "law") fd) : FnOk P w K mg base CX0 11 (He.ga K "law") fd ["_law_script"] (spI (ct K w) m_law) := by
  refine F.ok sc_law (fun vs H Q E h => fn_len (b := mb_law) h) (fun cdv A outer s H vs Q E hr h => ⟨(x_law M).t E, PSs.nox ?_, fn_pure (b := x_law M) (N := N_law) (k := 1) (by rw [xm_law]; exact h)⟩)
  exact (b_scons (b_for PassesOwn.never rfl (b_iany (b_add (b_sl (b_var 0) b_pno (b_pof b_int)) (b_lst (b_cons b_int b_nil)))) (b_gname (i := 1) sc_law.nd rfl (.inl rfl))
  (b_scons (b_set (j := 2) sc_law.nd rfl (.inl rfl) (b_call (ok__law_well M) (hr.mono (by decide)) rfl (b_cons (b_var 1) b_nil)))
  (b_sone (b_if (b_pt (b_wor (b_tnot (b_test (b_call (ok__law_right M) (hr.mono (by decide)) rfl (b_cons (b_var 2) b_nil)))) (b_wor1 (b_tnot (b_test (b_call (ok__law_right M) (hr.mono (by decide)) rfl (b_cons (b_var 2) b_nil)))))))
  (b_sone (b_ret b_bl))
  b_snil))))
  (b_sone (b_ret b_bl)))
end
end CKP

set_option Elab.async false
set_option linter.all false
set_option maxRecDepth 100000
set_option maxHeartbeats 4000000
namespace CKP
open PySem PySem.Spec PyProof.Rows L2 Evl CI
theorem bMul_l {i j : Int} (h1 : 0 ≤ i) (h2 : i < 18446744073709551616) : bMul i j = true := by
  unfold bMul
  exact decide_eq_true (.inl ⟨by omega, by omega⟩)
theorem bMul_c (j : Int) : bMul 65537 j = true := bMul_l (by omega) (by omega)
theorem draw_ok {S : Store} {w : Nat} {a b c many : Int} (h : S[w]? = some (.lst [.int a, .int b, .int c])) (h0 : 0 < many) (h1 : many < 1073741824) :
    ∃ d a' b' c', 0 ≤ d ∧ d < many ∧ m__law_draw [.loc w, .int many] S = some (.ok (.int d), S.set w (.lst [.int a', .int b', .int c'])) := by
  have hw := (List.getElem?_eq_some_iff.mp h).1
  by_cases ha : 0 < a
  · refine ⟨a % many, a / many, b, c, Int.emod_nonneg _ (by omega), Int.emod_lt_of_pos _ h0, ?_⟩
    simp [m__law_draw, mb__law_draw, startA, h, atI, ixN, ha, h0, h1, bDiv]
  · have h' : (S.set w (.lst [.int a, .int b, .int (c + 1)]))[w]? = some (.lst [.int a, .int b, .int (c + 1)]) := List.getElem?_set_self hw
    obtain ⟨m1, e1⟩ : ∃ m1, m1 = (b + 65537 * (c + 1) + 31) % 2147483629 := ⟨_, rfl⟩
    have r1 : 0 ≤ m1 ∧ m1 < 2147483629 := by omega
    obtain ⟨m2, e2⟩ : ∃ m2, m2 = m1 * (m1 / 997 + 48271) % 2147483587 := ⟨_, rfl⟩
    have r2 : 0 ≤ m2 ∧ m2 < 2147483587 := by rw [e2]; exact ⟨Int.emod_nonneg _ (by omega), Int.emod_lt_of_pos _ (by omega)⟩
    obtain ⟨m3, e3⟩ : ∃ m3, m3 = m2 * (m2 / 2003 + 69621) % 2147483563 := ⟨_, rfl⟩
    have k1 : bMul m1 (m1 / 997 + 48271) = true := bMul_l r1.1 (by omega)
    have k2 : bMul m2 (m2 / 2003 + 69621) = true := bMul_l r2.1 (by omega)
    refine ⟨m3 / 5 % many, a, b, c + 1, Int.emod_nonneg _ (by omega), Int.emod_lt_of_pos _ h0, ?_⟩
    simp [m__law_draw, mb__law_draw, startA, h, h', atI, ixN, ha, h0, h1, bDiv, bMul_c, ← e1, k1, ← e2, k2, ← e3]
end CKP

set_option Elab.async false
set_option linter.all false
set_option maxRecDepth 100000
set_option maxHeartbeats 4000000
/-! programs and machines, plainly -/
namespace CKP
open PySem PySem.Spec PyProof.Rows L2 Evl CI
inductive Rw where
  | set (x : Str) (n : Int) | move (x y : Str) (n : Int) | sum (x y z : Str) | len (x l : Str)
  | get (x l y : Str) | put (l y z : Str) | low (y : Str) | high (y l : Str)
def Rw.e : Rw → AV
  | .set x n => .tup [.str "set", .str x, .int n]
  | .move x y n => .tup [.str "move", .str x, .str y, .int n]
  | .sum x y z => .tup [.str "sum", .str x, .str y, .str z]
  | .len x l => .tup [.str "length", .str x, .str l]
  | .get x l y => .tup [.str "get", .str x, .str l, .str y]
  | .put l y z => .tup [.str "put", .str l, .str y, .str z]
  | .low y => .tup [.str "low", .str y]
  | .high y l => .tup [.str "high", .str y, .str l]
abbrev Wd := List (Str × Int)
abbrev Ls := List (Str × List Int)
/-- does the row fail? none: not told -/
def Rw.bad (W : Wd) (L : Ls) : Rw → Option Bool
  | .get _ l y => do let i ← getP W y; let xs ← getP L l; some (!(decide (0 ≤ i) && decide (i < (xs.length : Int))))
  | .put l y _ => do let i ← getP W y; let xs ← getP L l; some (!(decide (0 ≤ i) && decide (i < (xs.length : Int))))
  | .low y => do let i ← getP W y; some (decide (i < 0))
  | .high y l => do let i ← getP W y; let xs ← getP L l; some (decide ((xs.length : Int) ≤ i))
  | _ => some false
/-- what the row does -/
def Rw.step (W : Wd) (L : Ls) : Rw → Option (Wd × Ls)
  | .set x n => some (setP W x n, L)
  | .move x y n => do let i ← getP W y; some (setP W x (i + n), L)
  | .sum x y z => do let i ← getP W y; let j ← getP W z; some (setP W x (i + j), L)
  | .len x l => do let xs ← getP L l; some (setP W x xs.length, L)
  | .get x l y => do let i ← getP W y; let xs ← getP L l; if 0 ≤ i then (do let v ← xs[i.toNat]?; some (setP W x v, L)) else none
  | .put l y z => do let i ← getP W y; let xs ← getP L l; let v ← getP W z; if 0 ≤ i ∧ i < (xs.length : Int) then some (W, setP L l (xs.set i.toNat v)) else none
  | .low _ => some (W, L)
  | .high _ _ => some (W, L)
/-- the machine in the store, behind B -/
structure Mst (B S : Store) (mp pp wl cl : Nat) (W : Wd) (C : List (Str × Nat)) (L : Ls) : Prop where
  obj : S[mp]? = some (.ins 1 [("program", .loc pp), ("cells", .loc cl), ("worth", .loc wl)])
  wor : S[wl]? = some (.dct (kvE .int W) false)
  cel : S[cl]? = some (.dct (kvE .loc C) false)
  lst : ∀ l xs, getP L l = some xs → ∃ n, getP C l = some n ∧ S[n]? = some (.lst (xs.map .int))
  ne : wl ≠ cl
  inj : ∀ l l' n, getP C l = some n → getP C l' = some n → l = l'
  bw : B.length ≤ wl
  bl : ∀ l n, getP C l = some n → B.length ≤ n
  pre : ∃ G, S = B ++ G
  wn : W.length < 1000
section
variable {B S : Store} {mp pp wl cl : Nat} {W : Wd} {C : List (Str × Nat)} {L : Ls}
theorem Mst.w (m : Mst B S mp pp wl cl W C L) {y : Str} {i : Int} (h : getP W y = some i) : ixM (.loc wl) (.str y) S = some (.ok (.int i), S) := ix_dct m.wor (by rw [getK_kvE, h]; rfl)
theorem Mst.fw (m : Mst B S mp pp wl cl W C L) : fldM 1 "worth" (.loc mp) S = some (.ok (.loc wl), S) := fld_at m.obj (by kernel_rfl)
theorem Mst.fc (m : Mst B S mp pp wl cl W C L) : fldM 1 "cells" (.loc mp) S = some (.ok (.loc cl), S) := fld_at m.obj (by kernel_rfl)
theorem Mst.fp (m : Mst B S mp pp wl cl W C L) : fldM 1 "program" (.loc mp) S = some (.ok (.loc pp), S) := fld_at m.obj (by kernel_rfl)
theorem Mst.c (m : Mst B S mp pp wl cl W C L) {l : Str} {n : Nat} (h : getP C l = some n) : ixM (.loc cl) (.str l) S = some (.ok (.loc n), S) := ix_dct m.cel (by rw [getK_kvE, h]; rfl)
theorem Mst.ins (m : Mst B S mp pp wl cl W C L) (f : Str) (hf : ([("program", AV.loc pp), ("cells", .loc cl), ("worth", .loc wl)] : List (Str × AV)).lookup f = none) : insM 1 f (.loc mp) S = some (.ok (), S) := by
  unfold insM
  simp [m.obj, hf]
/-! constant tests on texts -/
theorem eq_str (a b : Str) : gEq (.str a) (.str b) = pure (.bl (decide (a = b))) := by
  funext S
  show eqM false (.str a) (.str b) S = _
  unfold eqM
  simp [AV.sc, scal]
theorem in2_str (neg : Bool) (x a b : Str) : inM neg (.str x) (.tup [.str a, .str b]) = pure (.bl (if neg then !(decide (x = a) || decide (x = b)) else (decide (x = a) || decide (x = b)))) := by
  funext S
  unfold inM
  have e : inV (.str x) [V.str a, V.str b] = (decide (x = a) || decide (x = b)) := by
    unfold inV
    simp only [List.any_cons, List.any_nil, Bool.or_false]
    have h : ∀ z : Str, eqV (V.str z) (V.str x) = decide (x = z) := fun z => by
      show (z == x) = _
      rw [Bool.eq_iff_iff]
      simp only [beq_iff_eq, decide_eq_true_eq]
      exact eq_comm
    rw [h, h]
  simp [AV.sc, scs, e]
theorem fails_ok (m : Mst B S mp pp wl cl W C L) (r : Rw) (pl : AV) {b : Bool} (h : r.bad W L = some b) : m_Machine_fails [.loc mp, pl, r.e] S = some (.ok (.bl b), S) := by
  have hi := m.ins "is_left_out" (by kernel_rfl)
  cases r with
  | get x l y =>
    simp only [Rw.bad, Option.bind_eq_bind, Option.bind_eq_some_iff] at h
    obtain ⟨i, hy, xs, hl, h⟩ := h
    obtain ⟨n, hc, hn⟩ := m.lst l xs hl
    cases h
    by_cases h0 : 0 ≤ i <;> simp [m_Machine_fails, mb_Machine_fails, startA, Rw.e, atI, ixN, eq_str, in2_str, m.fw, m.fc, m.w hy, m.c hc, len_at hn, h0]
  | put l y z =>
    simp only [Rw.bad, Option.bind_eq_bind, Option.bind_eq_some_iff] at h
    obtain ⟨i, hy, xs, hl, h⟩ := h
    obtain ⟨n, hc, hn⟩ := m.lst l xs hl
    cases h
    by_cases h0 : 0 ≤ i <;> simp [m_Machine_fails, mb_Machine_fails, startA, Rw.e, atI, ixN, eq_str, in2_str, m.fw, m.fc, m.w hy, m.c hc, len_at hn, h0]
  | low y =>
    simp only [Rw.bad, Option.bind_eq_bind, Option.bind_eq_some_iff] at h
    obtain ⟨i, hy, h⟩ := h
    cases h
    simp [m_Machine_fails, mb_Machine_fails, m_Machine_is_left_out, mb_Machine_is_left_out, startA, Rw.e, atI, ixN, eq_str, in2_str, m.fw, m.fc, m.w hy, hi]
  | high y l =>
    simp only [Rw.bad, Option.bind_eq_bind, Option.bind_eq_some_iff] at h
    obtain ⟨i, hy, xs, hl, h⟩ := h
    obtain ⟨n, hc, hn⟩ := m.lst l xs hl
    cases h
    simp [m_Machine_fails, mb_Machine_fails, m_Machine_is_left_out, mb_Machine_is_left_out, startA, Rw.e, atI, ixN, eq_str, in2_str, m.fw, m.fc, m.w hy, m.c hc, len_at hn, hi]
  | _ => cases h; simp [m_Machine_fails, mb_Machine_fails, startA, Rw.e, atI, ixN, eq_str, in2_str]
theorem pre_set {B S : Store} {n : Nat} {o : AO} (h : ∃ G, S = B ++ G) (hn : B.length ≤ n) : ∃ G, S.set n o = B ++ G := by
  obtain ⟨G, rfl⟩ := h
  exact ⟨_, List.set_append_right _ _ hn⟩
theorem Mst.setw (m : Mst B S mp pp wl cl W C L) (x : Str) (v : Int) (hw : W.length < 999) : Mst B (S.set wl (.dct (kvE .int (setP W x v)) false)) mp pp wl cl (setP W x v) C L := by
  have hl := (List.getElem?_eq_some_iff.mp m.wor).1
  have n1 : wl ≠ mp := fun e => by have := m.obj; rw [← e, m.wor] at this; cases this
  refine ⟨by rw [List.getElem?_set_ne n1]; exact m.obj, List.getElem?_set_self hl, by rw [List.getElem?_set_ne m.ne]; exact m.cel, fun l xs h => ?_, m.ne, m.inj, m.bw, m.bl, pre_set m.pre m.bw, ?_⟩
  · obtain ⟨n, h1, h2⟩ := m.lst l xs h
    have n2 : wl ≠ n := fun e => by rw [← e, m.wor] at h2; cases h2
    exact ⟨n, h1, by rw [List.getElem?_set_ne n2]; exact h2⟩
  · have := setP_len W x v
    omega
theorem Mst.putw (m : Mst B S mp pp wl cl W C L) (x : Str) (v : Int) : putM (.loc wl) (.str x) (.int v) S = some (.ok (), S.set wl (.dct (kvE .int (setP W x v)) false)) := by
  rw [put_dct m.wor (by rw [kvE_len]; have := m.wn; omega), setK_kvE]
theorem Mst.setl (m : Mst B S mp pp wl cl W C L) {l : Str} {n : Nat} {xs : List Int} (ys : List Int) (hc : getP C l = some n) (hn : S[n]? = some (.lst (xs.map .int))) : Mst B (S.set n (.lst (ys.map .int))) mp pp wl cl W C (setP L l ys) := by
  have hl := (List.getElem?_eq_some_iff.mp hn).1
  have n1 : n ≠ mp := fun e => by have := m.obj; rw [← e, hn] at this; cases this
  have n2 : n ≠ wl := fun e => by have := m.wor; rw [← e, hn] at this; cases this
  have n3 : n ≠ cl := fun e => by have := m.cel; rw [← e, hn] at this; cases this
  refine ⟨by rw [List.getElem?_set_ne n1]; exact m.obj, by rw [List.getElem?_set_ne n2]; exact m.wor, by rw [List.getElem?_set_ne n3]; exact m.cel, fun l' zs h => ?_, m.ne, m.inj, m.bw, m.bl, pre_set m.pre (m.bl l n hc), m.wn⟩
  rw [getP_set] at h
  split at h
  · rename_i e
    subst e
    cases h
    exact ⟨n, hc, List.getElem?_set_self hl⟩
  · rename_i e
    obtain ⟨n', h1, h2⟩ := m.lst l' zs h
    have : n ≠ n' := fun z => e (m.inj l l' n hc (by rw [z]; exact h1))
    exact ⟨n', h1, by rw [List.getElem?_set_ne this]; exact h2⟩
theorem row_ok (m : Mst B S mp pp wl cl W C L) (r : Rw) {W' : Wd} {L' : Ls} (hw : W.length < 999) (h : r.step W L = some (W', L')) : ∃ S', m_Machine_do_row [.loc mp, r.e] S = some (.ok .non, S') ∧ Mst B S' mp pp wl cl W' C L' := by
  cases r with
  | set x n =>
    cases h
    exact ⟨_, by simp [m_Machine_do_row, mb_Machine_do_row, startA, Rw.e, atI, ixN, eq_str, m.fw, m.putw], m.setw x n hw⟩
  | move x y n =>
    simp only [Rw.step, Option.bind_eq_bind, Option.bind_eq_some_iff] at h
    obtain ⟨i, hy, h⟩ := h
    cases h
    exact ⟨_, by simp [m_Machine_do_row, mb_Machine_do_row, startA, Rw.e, atI, ixN, eq_str, m.fw, m.putw, m.w hy], m.setw x _ hw⟩
  | sum x y z =>
    simp only [Rw.step, Option.bind_eq_bind, Option.bind_eq_some_iff] at h
    obtain ⟨i, hy, j, hz, h⟩ := h
    cases h
    exact ⟨_, by simp [m_Machine_do_row, mb_Machine_do_row, startA, Rw.e, atI, ixN, eq_str, m.fw, m.putw, m.w hy, m.w hz], m.setw x _ hw⟩
  | len x l =>
    simp only [Rw.step, Option.bind_eq_bind, Option.bind_eq_some_iff] at h
    obtain ⟨xs, hl, h⟩ := h
    obtain ⟨n, hc, hn⟩ := m.lst l xs hl
    cases h
    exact ⟨_, by simp [m_Machine_do_row, mb_Machine_do_row, startA, Rw.e, atI, ixN, eq_str, m.fw, m.fc, m.putw, m.c hc, len_at hn], m.setw x _ hw⟩
  | get x l y =>
    simp only [Rw.step, Option.bind_eq_bind, Option.bind_eq_some_iff] at h
    obtain ⟨i, hy, xs, hl, h⟩ := h
    obtain ⟨n, hc, hn⟩ := m.lst l xs hl
    split at h
    · rename_i h0
      simp only [Option.bind_eq_some_iff] at h
      obtain ⟨v, hv, h⟩ := h
      cases h
      obtain ⟨hlt2, ev⟩ := List.getElem?_eq_some_iff.mp hv
      have hlt : i < (xs.length : Int) := by omega
      exact ⟨_, by simp [m_Machine_do_row, mb_Machine_do_row, startA, Rw.e, atI, ixN, eq_str, m.fw, m.fc, m.putw, m.w hy, m.c hc, ev_ixL hn, h0, hlt, hv, ev], m.setw x _ hw⟩
    · cases h
  | put l y z =>
    simp only [Rw.step, Option.bind_eq_bind, Option.bind_eq_some_iff] at h
    obtain ⟨i, hy, xs, hl, v, hz, h⟩ := h
    obtain ⟨n, hc, hn⟩ := m.lst l xs hl
    split at h
    · rename_i h0
      cases h
      have e : (xs.map AV.int).set i.toNat (.int v) = (xs.set i.toNat v).map .int := (List.map_set ..).symm
      have hp : m_Machine_do_row [.loc mp, (Rw.put l y z).e] S = some (.ok .non, S.set n (.lst ((xs.map .int).set i.toNat (.int v)))) := by
        simp [m_Machine_do_row, mb_Machine_do_row, startA, Rw.e, atI, ixN, eq_str, m.fw, m.fc, m.w hy, m.w hz, m.c hc, ev_putL hn, h0.1, h0.2]
      rw [e] at hp
      exact ⟨_, hp, m.setl _ hc hn⟩
    · cases h
  | low y => cases h; exact ⟨S, by simp [m_Machine_do_row, mb_Machine_do_row, startA, Rw.e, atI, ixN, eq_str], m⟩
  | high y l => cases h; exact ⟨S, by simp [m_Machine_do_row, mb_Machine_do_row, startA, Rw.e, atI, ixN, eq_str], m⟩
end
end CKP

set_option Elab.async false
set_option linter.all false
set_option maxRecDepth 100000
set_option maxHeartbeats 4000000
namespace CKP
open PySem PySem.Spec PyProof.Rows L2 Evl CI
inductive En where
  | go (g : Str) (as : List Str) | less (a b g : Str) (as : List Str) (g2 : Str) (as2 : List Str) | ret (x : Str)
def strsE (xs : List Str) : AV := .tup (xs.map .str)
def En.e : En → AV
  | .go g as => .tup [.str "go", .str g, strsE as]
  | .less a b g as g2 as2 => .tup [.str "less", .str a, .str b, .str g, strsE as, .str g2, strsE as2]
  | .ret x => .tup [.str "return", .str x]
structure Bk where
  name : Str
  params : List Str
  rows : List Rw
  fin : En
def Bk.e (b : Bk) : AV := .tup [.str b.name, strsE b.params, .tup (b.rows.map Rw.e), b.fin.e]
structure Pg where
  lists : List Str
  numbers : List Str
  blocks : List Bk
def Pg.parts (p : Pg) : List (Str × Bk) := p.blocks.map fun b => (b.name, b)
/-- the program in the store -/
structure PAt (S : Store) (n : Nat) (p : Pg) : Prop where
  ex : ∃ (fs : List (Str × AV)) (q : Nat), S[n]? = some (.ins 0 fs) ∧ fs.lookup ("lists" : Str) = some (strsE p.lists) ∧ fs.lookup ("numbers" : Str) = some (strsE p.numbers) ∧ fs.lookup ("blocks" : Str) = some (.tup (p.blocks.map Bk.e)) ∧ fs.lookup ("parts" : Str) = some (.loc q) ∧ S[q]? = some (.dct (kvE Bk.e p.parts) false)
theorem get_pre {B S : Store} {n : Nat} {o : AO} (h : ∃ G, S = B ++ G) (e : B[n]? = some o) : S[n]? = some o := by
  obtain ⟨G, rfl⟩ := h
  rw [List.getElem?_append_left (List.getElem?_eq_some_iff.mp e).1]
  exact e
theorem PAt.pre {B S : Store} {n : Nat} {p : Pg} (h : PAt B n p) (hp : ∃ G, S = B ++ G) : PAt S n p := by
  obtain ⟨fs, q, h1, h2, h3, h4, h5, h6⟩ := h.ex
  exact ⟨fs, q, get_pre hp h1, h2, h3, h4, h5, get_pre hp h6⟩
theorem pre_app {B S : Store} (h : ∃ G, S = B ++ G) (T : Store) : ∃ G, S ++ T = B ++ G := by
  obtain ⟨G, rfl⟩ := h
  exact ⟨G ++ T, List.append_assoc ..⟩
section
variable {B S : Store} {mp pp wl cl : Nat} {W : Wd} {C : List (Str × Nat)} {L : Ls} {p : Pg}
theorem Mst.app (m : Mst B S mp pp wl cl W C L) (T : Store) : Mst B (S ++ T) mp pp wl cl W C L := by
  have k : ∀ {n o}, S[n]? = some o → (S ++ T)[n]? = some o := fun {n o} e => by
    rw [List.getElem?_append_left (List.getElem?_eq_some_iff.mp e).1]; exact e
  exact ⟨k m.obj, k m.wor, k m.cel, fun l xs h => let ⟨n, h1, h2⟩ := m.lst l xs h; ⟨n, h1, k h2⟩, m.ne, m.inj, m.bw, m.bl, pre_app m.pre T, m.wn⟩
theorem PAt.lists (h : PAt S pp p) : fldM 0 "lists" (.loc pp) S = some (.ok (strsE p.lists), S) := by
  obtain ⟨fs, q, h1, h2, h3, h4, h5, h6⟩ := h.ex
  exact fld_at h1 h2
theorem PAt.numbers (h : PAt S pp p) : fldM 0 "numbers" (.loc pp) S = some (.ok (strsE p.numbers), S) := by
  obtain ⟨fs, q, h1, h2, h3, h4, h5, h6⟩ := h.ex
  exact fld_at h1 h3
theorem PAt.blocks (h : PAt S pp p) : fldM 0 "blocks" (.loc pp) S = some (.ok (.tup (p.blocks.map Bk.e)), S) := by
  obtain ⟨fs, q, h1, h2, h3, h4, h5, h6⟩ := h.ex
  exact fld_at h1 h4
theorem PAt.part (h : PAt S pp p) {x : Str} {b : Bk} (hb : getP p.parts x = some b) {a : CI.Env → M AV} {ρ : CI.Env} (ha : a ρ S = some (.ok (.loc pp), S)) : mOp ixM (mFld 0 "parts" a) (mC (.str x)) ρ S = some (.ok b.e, S) := by
  obtain ⟨fs, q, h1, h2, h3, h4, h5, h6⟩ := h.ex
  have e : ixM (.loc q) (.str x) S = some (.ok b.e, S) := ix_dct h6 (by rw [getK_kvE, hb]; rfl)
  simp [ha, fld_at h1 h5, e]
/-- the lists as a run tells them -/
def told (p : Pg) (L : Ls) : List AV := p.lists.map fun l => .tup (((getP L l).getD []).map .int)
def toldF (L : Ls) (x : AV) : AV := match x with
  | .str l => .tup (((getP L l).getD []).map .int)
  | _ => .non
theorem told_ok (m : Mst B S mp pp wl cl W C L) (hp : PAt S pp p) (hL : ∀ l ∈ p.lists, ∃ xs, getP L l = some xs) (hn : p.lists.length ≤ 100) : m_Machine_told_lists [.loc mp] S = some (.ok (.tup (told p L)), S ++ [.lst (told p L)]) := by
  have e1 : mLc (mIt itAny (mFld 0 "lists" (mFld 1 "program" (mVar 0)))) (mgName 1) mYes (mCb tupM (mCons (mOp ixM (mFld 1 "cells" (mVar 0)) (mVar 1)) mNil)) [1] [some (.loc mp), none] S = some (.ok (.loc S.length), S ++ [.lst ((p.lists.map AV.str).map (toldF L))]) := by
    refine lc_tup (by simp [m.fp, hp.lists, strsE]) (fun x hx => ?_) (by simp; omega)
    obtain ⟨l, hl, rfl⟩ := List.mem_map.mp hx
    obtain ⟨xs, hxs⟩ := hL l hl
    obtain ⟨n, hc, hn⟩ := m.lst l xs hxs
    simp [wipeA, m.fc, m.c hc, tupM, getS, getL, hn, toldF, hxs]
  have e2 : (p.lists.map AV.str).map (toldF L) = told p L := by
    rw [List.map_map]; rfl
  rw [e2] at e1
  unfold m_Machine_told_lists mb_Machine_told_lists
  simp only [ev_fn, startA, ev_bind, ev_sret, CI.ev_cb, CI.ev_cons, ev_nil, List.length_cons, List.length_nil, List.map_cons, List.map_nil, List.replicate, List.cons_append, List.nil_append, Nat.reduceAdd, Nat.reduceSub, if_true]
  simp only [e1]
  simp [tupM, getS, getL]
/-! the rows of a block -/
def rowsGo : List Rw → Nat → Wd → Ls → Option (Sum (Nat × Ls) (Wd × Ls))
  | [], _, W, L => some (.inr (W, L))
  | r :: rs, i, W, L => match r.bad W L with
    | none => none
    | some true => some (.inl (i, L))
    | some false => match r.step W L with
      | none => none
      | some (W', L') => rowsGo rs (i + 1) W' L'
def fRow : CI.Env → M Fl :=
  (msSeq (msDrop (mMeth 1 "look" m_Machine_look (mVar 0) (mCons (mTup (mCons (mVar 3) (mCons (mVar 12) mNil))) mNil)))
  (msSeq (msIte (mTest (mMeth 1 "fails" m_Machine_fails (mVar 0) (mCons (mTup (mCons (mVar 3) (mCons (mVar 12) mNil))) (mCons (mVar 13) mNil))))
  (msRet (mTup (mCons (mC (.str "fault")) (mCons (mVar 3) (mCons (mVar 12) (mCons (mMeth 1 "told_lists" m_Machine_told_lists (mVar 0) mNil) mNil))))))
  msNext)
  (msDrop (mMeth 1 "do_row" m_Machine_do_row (mVar 0) (mCons (mVar 13) mNil)))))
def numF (i : Nat) (xs : List AV) : List AV := (xs.zipIdx i).map fun p => .tup [.int (p.2 : Nat), p.1]
theorem numd_numF (xs : List AV) : numd xs = numF 0 xs := rfl
/-- the lists stand -/
def HasL (p : Pg) (L : Ls) : Prop := ∀ l ∈ p.lists, ∃ xs, getP L l = some xs
theorem HasL.step (h : HasL p L) {r : Rw} {W' : Wd} {L' : Ls} (e : r.step W L = some (W', L')) : HasL p L' := by
  cases r with
  | put l y z =>
    simp only [Rw.step, Option.bind_eq_bind, Option.bind_eq_some_iff] at e
    obtain ⟨i, hy, xs, hl, v, hz, e⟩ := e
    split at e
    · cases e
      intro l' hl'
      rw [getP_set]
      split
      · exact ⟨_, rfl⟩
      · exact h l' hl'
    · cases e
  | set x n => cases e; exact h
  | move x y n => simp only [Rw.step, Option.bind_eq_bind, Option.bind_eq_some_iff] at e; obtain ⟨i, _, e⟩ := e; cases e; exact h
  | sum x y z => simp only [Rw.step, Option.bind_eq_bind, Option.bind_eq_some_iff] at e; obtain ⟨i, _, j, _, e⟩ := e; cases e; exact h
  | len x l => simp only [Rw.step, Option.bind_eq_bind, Option.bind_eq_some_iff] at e; obtain ⟨i, _, e⟩ := e; cases e; exact h
  | get x l y =>
    simp only [Rw.step, Option.bind_eq_bind, Option.bind_eq_some_iff] at e
    obtain ⟨i, _, xs, _, e⟩ := e
    split at e
    · simp only [Option.bind_eq_some_iff] at e; obtain ⟨v, _, e⟩ := e; cases e; exact h
    · cases e
  | low y => cases e; exact h
  | high y l => cases e; exact h
theorem step_len {r : Rw} {W' : Wd} {L' : Ls} (e : r.step W L = some (W', L')) : W'.length ≤ W.length + 1 := by
  cases r with
  | put l y z =>
    simp only [Rw.step, Option.bind_eq_bind, Option.bind_eq_some_iff] at e
    obtain ⟨i, hy, xs, hl, v, hz, e⟩ := e
    split at e <;> cases e
    omega
  | set x n => cases e; exact setP_len ..
  | move x y n => simp only [Rw.step, Option.bind_eq_bind, Option.bind_eq_some_iff] at e; obtain ⟨i, _, e⟩ := e; cases e; exact setP_len ..
  | sum x y z => simp only [Rw.step, Option.bind_eq_bind, Option.bind_eq_some_iff] at e; obtain ⟨i, _, j, _, e⟩ := e; cases e; exact setP_len ..
  | len x l => simp only [Rw.step, Option.bind_eq_bind, Option.bind_eq_some_iff] at e; obtain ⟨i, _, e⟩ := e; cases e; exact setP_len ..
  | get x l y =>
    simp only [Rw.step, Option.bind_eq_bind, Option.bind_eq_some_iff] at e
    obtain ⟨i, _, xs, _, e⟩ := e
    split at e
    · simp only [Option.bind_eq_some_iff] at e; obtain ⟨v, _, e⟩ := e; cases e; exact setP_len ..
    · cases e
  | low y => cases e; omega
  | high y l => cases e; omega
/-- the slots of finish -/
def envF (mp : Nat) (s1 s2 : Option AV) (name : Str) (s4 s5 s6 s7 s8 s9 s10 s11 s12 s13 s14 : Option AV) : CI.Env :=
  [some (.loc mp), s1, s2, some (.str name), s4, s5, s6, s7, s8, s9, s10, s11, s12, s13, s14]
def faultE (p : Pg) (name : Str) (j : Nat) (L : Ls) : AV := .tup [.str "fault", .str name, .int j, .tup (told p L)]
theorem rows_ok {s1 s2 s4 s5 s6 s7 s8 s9 s10 s11 s14 : Option AV} {name : Str} {xs0 : List AV} (hp : PAt B pp p) (hn : p.lists.length ≤ 100) :
    ∀ (rs : List Rw) (i : Nat) (W : Wd) (L : Ls) (S : Store) (s12 s13 : Option AV) (res : Sum (Nat × Ls) (Wd × Ls)), Mst B S mp pp wl cl W C L → HasL p L → W.length + rs.length < 990 → rowsGo rs i W L = some res →
    match res with
    | .inr (W', L') => ∃ S' a b, forGo ⟨xs0, []⟩ (forStep (mgTup 2 (mgCons (mgName 12) (mgCons (mgName 13) mgNil))) fRow) (numF i (rs.map Rw.e)) (envF mp s1 s2 name s4 s5 s6 s7 s8 s9 s10 s11 s12 s13 s14) S = some (.ok (.nx (envF mp s1 s2 name s4 s5 s6 s7 s8 s9 s10 s11 a b s14)), S') ∧ Mst B S' mp pp wl cl W' C L' ∧ HasL p L' ∧ W'.length ≤ W.length + rs.length
    | .inl (j, L') => ∃ S', forGo ⟨xs0, []⟩ (forStep (mgTup 2 (mgCons (mgName 12) (mgCons (mgName 13) mgNil))) fRow) (numF i (rs.map Rw.e)) (envF mp s1 s2 name s4 s5 s6 s7 s8 s9 s10 s11 s12 s13 s14) S = some (.ok (.rt (faultE p name j L')), S') ∧ ∃ G, S' = B ++ G
  | [], i, W, L, S, s12, s13, res, m, hL, hw, h => by
    cases h
    refine ⟨S, s12, s13, ?_, m, hL, by simp⟩
    simp [numF, forGo]
  | r :: rs, i, W, L, S, s12, s13, res, m, hL, hw, h => by
    have i1 := m.ins "look" (by kernel_rfl)
    have i2 := m.ins "fails" (by kernel_rfl)
    have i3 := m.ins "told_lists" (by kernel_rfl)
    have i4 := m.ins "do_row" (by kernel_rfl)
    have hx : numF i ((r :: rs).map Rw.e) = .tup [.int (i : Nat), r.e] :: numF (i + 1) (rs.map Rw.e) := by simp [numF, List.zipIdx_cons]
    have lk : ∀ (x : AV) (T : Store), m_Machine_look [.loc mp, x] T = some (.ok .non, T) := fun x T => by simp [m_Machine_look, mb_Machine_look, startA]
    rw [hx]
    unfold rowsGo at h
    cases hb : r.bad W L with
    | none => rw [hb] at h; cases h
    | some bb =>
      rw [hb] at h
      have fl := fun pl => fails_ok m r pl hb
      cases bb with
      | true =>
        cases h
        have t := told_ok m (hp.pre m.pre) hL hn
        refine ⟨_, ?_, pre_app m.pre [.lst (told p L)]⟩
        unfold forGo
        simp [forStep, fRow, envF, i1, i2, i3, lk, fl, t, forK, faultE]
      | false =>
        simp only at h
        cases hs : r.step W L with
        | none => rw [hs] at h; cases h
        | some wl' =>
          obtain ⟨W', L'⟩ := wl'
          rw [hs] at h
          have hw' : W.length < 989 := by simp at hw; omega
          obtain ⟨S1, e1, m1⟩ := row_ok m r (by omega) hs
          have hl1 := step_len hs
          have ih := rows_ok (s1 := s1) (s2 := s2) (s4 := s4) (s5 := s5) (s6 := s6) (s7 := s7) (s8 := s8) (s9 := s9) (s10 := s10) (s11 := s11) (s14 := s14) (name := name) (xs0 := xs0) hp hn rs (i + 1) W' L' S1 (some (.int (i : Nat))) (some r.e) res m1 (hL.step hs) (by simp at hw; omega) h
          have st : forGo ⟨xs0, []⟩ (forStep (mgTup 2 (mgCons (mgName 12) (mgCons (mgName 13) mgNil))) fRow) (.tup [.int (i : Nat), r.e] :: numF (i + 1) (rs.map Rw.e)) (envF mp s1 s2 name s4 s5 s6 s7 s8 s9 s10 s11 s12 s13 s14) S =
              forGo ⟨xs0, []⟩ (forStep (mgTup 2 (mgCons (mgName 12) (mgCons (mgName 13) mgNil))) fRow) (numF (i + 1) (rs.map Rw.e)) (envF mp s1 s2 name s4 s5 s6 s7 s8 s9 s10 s11 (some (.int (i : Nat))) (some r.e) s14) S1 := by
            conv => lhs; unfold forGo
            simp [forStep, fRow, envF, i1, i2, i4, lk, fl, e1, forK]
          rw [st]
          cases res with
          | inl q => obtain ⟨j, L2⟩ := q; exact ih
          | inr q =>
            obtain ⟨W2, L2⟩ := q
            obtain ⟨S', a, b, g1, g2, g3, g4⟩ := ih
            exact ⟨S', a, b, g1, g2, g3, by simp; omega⟩
end
end CKP

set_option Elab.async false
set_option linter.all false
set_option maxRecDepth 100000
set_option maxHeartbeats 4000000
namespace CKP
open PySem PySem.Spec PyProof.Rows L2 Evl CI
section
variable {B S : Store} {mp pp wl cl : Nat} {W : Wd} {C : List (Str × Nat)} {L : Ls} {p : Pg}
def setsGo (W : Wd) : List (Str × Int) → Wd
  | [] => W
  | q :: qs => setsGo (setP W q.1 q.2) qs
theorem setsGo_len : ∀ (qs : List (Str × Int)) (W : Wd), (setsGo W qs).length ≤ W.length + qs.length
  | [], W => by simp [setsGo]
  | q :: qs, W => by
    have h1 := setsGo_len qs (setP W q.1 q.2)
    have h2 := setP_len W q.1 q.2
    simp [setsGo]
    omega
def fPar : CI.Env → M Fl := (msAsg (mVar 11) (mgSub (mFld 1 "worth" (mVar 0)) (mVar 10)))
theorem pars_ok {s1 s2 s4 s5 s6 s7 s8 s9 s12 s13 s14 : Option AV} {name : Str} {xs0 vs : List AV} {h : Nat} :
    ∀ (qs : List (Str × Int)) (W : Wd) (S : Store) (s10 s11 : Option AV), Mst B S mp pp wl cl W C L → S[h]? = some (.lst vs) → h ≠ wl → W.length + qs.length < 990 →
    ∃ S' a b, forGo ⟨xs0, [(h, vs)]⟩ (forStep (mgTup 2 (mgCons (mgName 10) (mgCons (mgName 11) mgNil))) fPar) (qs.map fun q => .tup [.str q.1, .int q.2]) (envF mp s1 s2 name s4 s5 s6 s7 s8 s9 s10 s11 s12 s13 s14) S = some (.ok (.nx (envF mp s1 s2 name s4 s5 s6 s7 s8 s9 a b s12 s13 s14)), S') ∧ Mst B S' mp pp wl cl (setsGo W qs) C L
  | [], W, S, s10, s11, m, hh, hne, hw => by
    refine ⟨S, s10, s11, ?_, m⟩
    simp [forGo, ev_chk (ok_at hh)]
  | q :: qs, W, S, s10, s11, m, hh, hne, hw => by
    have m1 := m.setw q.1 q.2 (by simp at hw; omega)
    have hl := setP_len W q.1 q.2
    obtain ⟨S', a, b, g1, g2⟩ := pars_ok (s1 := s1) (s2 := s2) (s4 := s4) (s5 := s5) (s6 := s6) (s7 := s7) (s8 := s8) (s9 := s9) (s12 := s12) (s13 := s13) (s14 := s14) (name := name) (xs0 := xs0) (vs := vs) (h := h) qs _ _ (some (.str q.1)) (some (.int q.2)) m1 (by rw [List.getElem?_set_ne (fun e => hne e.symm)]; exact hh) hne (by simp at hw; omega)
    refine ⟨S', a, b, ?_, g2⟩
    rw [← g1]
    conv => lhs; unfold forGo
    simp [ev_chk (ok_at hh), forStep, fPar, envF, m.fw, m.putw, forK]
/-! the turns -/
inductive Rs where
  | fault (name : Str) (j : Nat) (L : Ls) | value (v : Int) (L : Ls)
def Rs.e (p : Pg) : Rs → AV
  | .fault name j L => faultE p name j L
  | .value v L => .tup [.str "value", .int v, .tup (told p L)]
def valsOf (W : Wd) : List Str → Option (List Int)
  | [] => some []
  | x :: xs => match getP W x, valsOf W xs with
    | some i, some is => some (i :: is)
    | _, _ => none
def turnsGo (p : Pg) : Nat → Str → List Str → Wd → Ls → Option Rs
  | 0, _, _, _, _ => none
  | n + 1, name, args, W, L => match getP p.parts name with
    | none => none
    | some b => match valsOf W args with
      | none => none
      | some vs => if vs.length = b.params.length ∧ W.length + b.params.length + b.rows.length < 900 ∧ b.rows.length ≤ 1000 ∧ args.length ≤ 1000 then
          match rowsGo b.rows 0 (setsGo W (b.params.zip vs)) L with
          | none => none
          | some (.inl (j, L')) => some (.fault name j L')
          | some (.inr (W2, L2)) => match b.fin with
            | .ret x => (getP W2 x).map fun v => .value v L2
            | .go g as => turnsGo p n g as W2 L2
            | .less x y g as g2 as2 => match getP W2 x, getP W2 y with
              | some i, some j => if i < j then turnsGo p n g as W2 L2 else turnsGo p n g2 as2 W2 L2
              | _, _ => none
        else none
def fTurn : CI.Env → M Fl :=
  (msSeq (msAsg (mSl (mOp ixM (mFld 0 "parts" (mFld 1 "program" (mVar 0))) (mVar 3)) (mPart (mC (.int 1))) mNoP) (mgTup 3 (mgCons (mgName 7) (mgCons (mgName 8) (mgCons (mgName 9) mgNil)))))
  (msSeq (msAsg (mLc (mIt itAny (mVar 4)) (mgName 14) mYes (mOp ixM (mFld 1 "worth" (mVar 0)) (mVar 14)) [14]) (mgName 5))
  (msSeq (msLoop (mItA itZip (mCons (mVar 7) (mCons (mVar 5) mNil))) (mgTup 2 (mgCons (mgName 10) (mgCons (mgName 11) mgNil)))
  fPar)
  (msSeq (msLoop (mItA itEnum (mCons (mVar 8) mNil)) (mgTup 2 (mgCons (mgName 12) (mgCons (mgName 13) mgNil)))
  fRow)
  (msSeq (msDrop (mMeth 1 "look" m_Machine_look (mVar 0) (mCons (mTup (mCons (mVar 3) (mCons (mCb lenM (mCons (mVar 8) mNil)) mNil))) mNil)))
  (msSeq (msIte (mTest (mOp gEq (mOp ixM (mVar 9) (mC (.int 0))) (mC (.str "return"))))
  (msRet (mTup (mCons (mC (.str "value")) (mCons (mOp ixM (mFld 1 "worth" (mVar 0)) (mOp ixM (mVar 9) (mC (.int 1)))) (mCons (mMeth 1 "told_lists" m_Machine_told_lists (mVar 0) mNil) mNil)))))
  msNext)
  (msSeq (msAsg (mMeth 1 "way_of" m_Machine_way_of (mVar 0) (mCons (mVar 9) mNil)) (mgName 6))
  (msSeq (msDrop (mMeth 1 "look" m_Machine_look (mVar 0) (mCons (mTup (mCons (mVar 3) (mCons (mOp ixM (mC k_WAY_POINTS) (mVar 6)) mNil))) mNil)))
  (msAsg (mOp ixM (mCb m_goals (mCons (mVar 9) mNil)) (mVar 6)) (mgTup 2 (mgCons (mgName 3) (mgCons (mgName 4) mgNil))))))))))))
theorem mb_finish_eq : mb_Machine_finish = msSeq (msPar 3 4 (mCons (mOp ixM (mOp ixM (mFld 0 "blocks" (mFld 1 "program" (mVar 0))) (mC (.int 0))) (mC (.int 0))) (mCons (mTup mNil) mNil)))
  (msSeq (msLoop (mItA itRng (mCons (mVar 1) mNil)) (mgName 2) fTurn) msNever) := rfl
/-- the values handed -/
def valF (W : Wd) (x : AV) : AV := match x with
  | .str z => match getP W z with
    | some i => .int i
    | none => .non
  | _ => .non
theorem valsOf_map : ∀ {xs : List Str} {vs : List Int}, valsOf W xs = some vs → (xs.map AV.str).map (valF W) = vs.map .int ∧ (∀ x ∈ xs, ∃ i, getP W x = some i) ∧ xs.length = vs.length
  | [], vs, h => by cases h; exact ⟨rfl, by simp, rfl⟩
  | x :: xs, vs, h => by
    unfold valsOf at h
    cases hx : getP W x with
    | none => rw [hx] at h; cases h
    | some i =>
      rw [hx] at h
      cases hs : valsOf W xs with
      | none => rw [hs] at h; cases h
      | some is =>
        rw [hs] at h
        cases h
        obtain ⟨e1, e2, e3⟩ := valsOf_map hs
        refine ⟨by simp [valF, hx]; simpa using e1, fun y hy => ?_, by simp [e3]⟩
        rcases List.mem_cons.mp hy with rfl | hy
        · exact ⟨i, hx⟩
        · exact e2 y hy
theorem zipd_pars : ∀ (ps : List Str) (vs : List Int), zipd (ps.map .str) (vs.map .int) = (ps.zip vs).map fun q => .tup [.str q.1, .int q.2]
  | [], _ => rfl
  | _ :: _, [] => rfl
  | p :: ps, v :: vs => by
    have := zipd_pars ps vs
    simp only [zipd] at this ⊢
    simp [this]
def En.goals : En → List AV
  | .go g as => [.tup [.str g, strsE as]]
  | .less _ _ g as g2 as2 => [.tup [.str g, strsE as], .tup [.str g2, strsE as2]]
  | .ret _ => []
theorem goals_ok (e : En) (S : Store) : m_goals [e.e] S = some (.ok (.loc S.length), S ++ [.lst e.goals]) := by
  cases e <;> simp [m_goals, mb_goals, startA, En.e, En.goals, atI, ixN, eq_str, strsE]
end
end CKP

set_option Elab.async false
set_option linter.all false
set_option maxRecDepth 100000
set_option maxHeartbeats 1000000
namespace CKP
open PySem PySem.Spec PyProof.Rows L2 Evl CI
section
variable {B S : Store} {mp pp wl cl : Nat} {W : Wd} {C : List (Str × Nat)} {L : Ls} {p : Pg}
theorem PAt.parts (h : PAt S pp p) {x : Str} {b : Bk} (hb : getP p.parts x = some b) : ∃ q, fldM 0 "parts" (.loc pp) S = some (.ok (.loc q), S) ∧ ixM (.loc q) (.str x) S = some (.ok b.e, S) := by
  obtain ⟨fs, q, h1, h2, h3, h4, h5, h6⟩ := h.ex
  exact ⟨q, fld_at h1 h5, ix_dct h6 (by rw [getK_kvE, hb]; rfl)⟩
theorem cut4 (a b c d : AV) : cutA [a, b, c, d] (some 1) none = [b, c, d] := rfl
/-- what comes behind a turn -/
inductive Tn where
  | end_ (r : Rs) | on (name : Str) (args : List Str) (W : Wd) (L : Ls)
def turnT (p : Pg) (name : Str) (args : List Str) (W : Wd) (L : Ls) : Option Tn := match getP p.parts name with
    | none => none
    | some b => match valsOf W args with
      | none => none
      | some vs => if vs.length = b.params.length ∧ W.length + b.params.length + b.rows.length < 900 ∧ b.rows.length ≤ 1000 ∧ args.length ≤ 1000 then
          match rowsGo b.rows 0 (setsGo W (b.params.zip vs)) L with
          | none => none
          | some (.inl (j, L')) => some (.end_ (.fault name j L'))
          | some (.inr (W2, L2)) => match b.fin with
            | .ret x => (getP W2 x).map fun v => .end_ (.value v L2)
            | .go g as => some (.on g as W2 L2)
            | .less x y g as g2 as2 => match getP W2 x, getP W2 y with
              | some i, some j => if i < j then some (.on g as W2 L2) else some (.on g2 as2 W2 L2)
              | _, _ => none
        else none
theorem turn_ok {s1 s2 s5 s6 s7 s8 s9 s10 s11 s12 s13 s14 : Option AV} {name : Str} {args : List Str} {t : Tn} (hp : PAt B pp p) (hn : p.lists.length ≤ 100) (m : Mst B S mp pp wl cl W C L) (hL : HasL p L) (h : turnT p name args W L = some t) :
    match t with
    | .end_ r => ∃ S', fTurn (envF mp s1 s2 name (some (strsE args)) s5 s6 s7 s8 s9 s10 s11 s12 s13 s14) S = some (.ok (.rt (r.e p)), S') ∧ ∃ G, S' = B ++ G
    | .on name' args' W' L' => ∃ S' a5 a6 a7 a8 a9 a10 a11 a12 a13 a14, fTurn (envF mp s1 s2 name (some (strsE args)) s5 s6 s7 s8 s9 s10 s11 s12 s13 s14) S = some (.ok (.nx (envF mp s1 s2 name' (some (strsE args')) a5 a6 a7 a8 a9 a10 a11 a12 a13 a14)), S') ∧ Mst B S' mp pp wl cl W' C L' ∧ HasL p L' := by
  unfold turnT at h
  cases hb : getP p.parts name with
  | none => rw [hb] at h; cases h
  | some b =>
    rw [hb] at h
    simp only at h
    cases hv : valsOf W args with
    | none => rw [hv] at h; cases h
    | some vs =>
      rw [hv] at h
      simp only at h
      split at h
      · rename_i hc
        obtain ⟨hc1, hc2, hc3, hc4⟩ := hc
        obtain ⟨v1, v2, v3⟩ := valsOf_map hv
        obtain ⟨q, q1, q2⟩ := (hp.pre m.pre).parts hb
        -- the block
        have e1 : msAsg (mSl (mOp ixM (mFld 0 "parts" (mFld 1 "program" (mVar 0))) (mVar 3)) (mPart (mC (.int 1))) mNoP) (mgTup 3 (mgCons (mgName 7) (mgCons (mgName 8) (mgCons (mgName 9) mgNil)))) (envF mp s1 s2 name (some (strsE args)) s5 s6 s7 s8 s9 s10 s11 s12 s13 s14) S
            = some (.ok (.nx (envF mp s1 s2 name (some (strsE args)) s5 s6 (some (strsE b.params)) (some (.tup (b.rows.map Rw.e))) (some b.fin.e) s10 s11 s12 s13 s14)), S) := by
          simp [envF, m.fp, q1, q2, slM, Bk.e, cut4]
        -- what is handed
        have e2 : msAsg (mLc (mIt itAny (mVar 4)) (mgName 14) mYes (mOp ixM (mFld 1 "worth" (mVar 0)) (mVar 14)) [14]) (mgName 5) (envF mp s1 s2 name (some (strsE args)) s5 s6 (some (strsE b.params)) (some (.tup (b.rows.map Rw.e))) (some b.fin.e) s10 s11 s12 s13 s14) S
            = some (.ok (.nx (envF mp s1 s2 name (some (strsE args)) (some (.loc S.length)) s6 (some (strsE b.params)) (some (.tup (b.rows.map Rw.e))) (some b.fin.e) s10 s11 s12 s13 s14)), S ++ [.lst (vs.map .int)]) := by
          have := lc_tup (a := mVar 4) (e := mOp ixM (mFld 1 "worth" (mVar 0)) (mVar 14)) (i := 14) (vs := [14]) (ρ := envF mp s1 s2 name (some (strsE args)) s5 s6 (some (strsE b.params)) (some (.tup (b.rows.map Rw.e))) (some b.fin.e) s10 s11 s12 s13 s14) (S := S) (xs := args.map .str) (f := valF W) (by simp [envF, strsE]) (fun x hx => by
            obtain ⟨z, hz, rfl⟩ := List.mem_map.mp hx
            obtain ⟨i, hi⟩ := v2 z hz
            simp [envF, wipeA, m.fw, m.w hi, valF, hi]) (by simp; omega)
          simp only [ev_sasg, ev_bind, this, ev_gname, ev_pure, v1]
          rfl
        have m2 := m.app [.lst (vs.map .int)]
        have hh : (S ++ [AO.lst (vs.map .int)])[S.length]? = some (.lst (vs.map .int)) := by simp
        have hw : S.length ≠ wl := fun e => by
          have := (List.getElem?_eq_some_iff.mp m.wor).1
          omega
        obtain ⟨S3, a10, a11, e3, m3⟩ := pars_ok (s1 := s1) (s2 := s2) (s4 := some (strsE args)) (s5 := some (.loc S.length)) (s6 := s6) (s7 := some (strsE b.params)) (s8 := some (.tup (b.rows.map Rw.e))) (s9 := some b.fin.e) (s12 := s12) (s13 := s13) (s14 := s14) (name := name) (xs0 := zipd (b.params.map .str) (vs.map .int)) (vs := vs.map .int) (h := S.length) (b.params.zip vs) W _ s10 s11 m2 hh hw (by rw [List.length_zip]; omega)
        have e3' : msLoop (mItA itZip (mCons (mVar 7) (mCons (mVar 5) mNil))) (mgTup 2 (mgCons (mgName 10) (mgCons (mgName 11) mgNil))) fPar (envF mp s1 s2 name (some (strsE args)) (some (.loc S.length)) s6 (some (strsE b.params)) (some (.tup (b.rows.map Rw.e))) (some b.fin.e) s10 s11 s12 s13 s14) (S ++ [.lst (vs.map .int)])
            = some (.ok (.nx (envF mp s1 s2 name (some (strsE args)) (some (.loc S.length)) s6 (some (strsE b.params)) (some (.tup (b.rows.map Rw.e))) (some b.fin.e) a10 a11 s12 s13 s14)), S3) := by
          rw [← e3, ← zipd_pars]
          simp [envF, itZip, itAny, itLst, strsE, hc1]
        have hlen : (setsGo W (b.params.zip vs)).length ≤ W.length + b.params.length := by
          have := setsGo_len (b.params.zip vs) W
          rw [List.length_zip] at this
          omega
        have rk := fun res hres => rows_ok (s1 := s1) (s2 := s2) (s4 := some (strsE args)) (s5 := some (.loc S.length)) (s6 := s6) (s7 := some (strsE b.params)) (s8 := some (.tup (b.rows.map Rw.e))) (s9 := some b.fin.e) (s10 := a10) (s11 := a11) (s14 := s14) (name := name) (xs0 := numd (b.rows.map Rw.e)) hp hn b.rows 0 (setsGo W (b.params.zip vs)) L S3 s12 s13 res m3 hL (by omega) hres
        have e4 : msLoop (mItA itEnum (mCons (mVar 8) mNil)) (mgTup 2 (mgCons (mgName 12) (mgCons (mgName 13) mgNil))) fRow (envF mp s1 s2 name (some (strsE args)) (some (.loc S.length)) s6 (some (strsE b.params)) (some (.tup (b.rows.map Rw.e))) (some b.fin.e) a10 a11 s12 s13 s14) S3
            = forGo ⟨numd (b.rows.map Rw.e), []⟩ (forStep (mgTup 2 (mgCons (mgName 12) (mgCons (mgName 13) mgNil))) fRow) (numF 0 (b.rows.map Rw.e)) (envF mp s1 s2 name (some (strsE args)) (some (.loc S.length)) s6 (some (strsE b.params)) (some (.tup (b.rows.map Rw.e))) (some b.fin.e) a10 a11 s12 s13 s14) S3 := by
          rw [← numd_numF]
          simp [envF, itEnum, itAny]
        have lk : ∀ (x : AV) (T : Store), m_Machine_look [.loc mp, x] T = some (.ok .non, T) := fun x T => by simp [m_Machine_look, mb_Machine_look, startA]
        cases hr : rowsGo b.rows 0 (setsGo W (b.params.zip vs)) L with
        | none => rw [hr] at h; cases h
        | some res =>
          rw [hr] at h
          have r := rk res hr
          cases res with
          | inl jl =>
            obtain ⟨j, L'⟩ := jl
            cases h
            obtain ⟨S4, g1, g2⟩ := r
            rw [← e4] at g1
            refine ⟨S4, ?_, g2⟩
            unfold fTurn
            simp only [ev_sseq, ev_bind, e1, e2, e3', g1, ev_seqN, ev_seqR, ev_pure, Rs.e]
          | inr wl2 =>
            obtain ⟨W2, L2⟩ := wl2
            obtain ⟨S4, a12, a13, g1, m4, hL4, _⟩ := r
            rw [← e4] at g1
            have i1 := m4.ins "look" (by kernel_rfl)
            have i2 := m4.ins "way_of" (by kernel_rfl)
            have i3 := m4.ins "told_lists" (by kernel_rfl)
            have rl : lenM [.tup (b.rows.map Rw.e)] S4 = some (.ok (.int b.rows.length), S4) := by rw [show lenM [.tup (b.rows.map Rw.e)] S4 = some (.ok (.int (b.rows.map Rw.e).length), S4) from rfl, List.length_map]
            simp only at h
            cases hf : b.fin with
            | ret x =>
              rw [hf] at h
              obtain ⟨v, hx, e⟩ := Option.map_eq_some_iff.mp h
              cases e
              have tt := told_ok m4 (hp.pre m4.pre) hL4 hn
              refine ⟨S4 ++ [.lst (told p L2)], ?_, pre_app m4.pre _⟩
              unfold fTurn
              simp only [ev_sseq, ev_bind, e1, e2, e3', g1, ev_seqN]
              simp [envF, hf, En.e, i1, i3, lk, rl, atI, ixN, eq_str, m4.fw, m4.w hx, tt, Rs.e]
            | go g as =>
              rw [hf] at h
              cases h
              refine ⟨S4 ++ [.lst (En.go g as).goals], some (.loc S.length), some (.int 0), some (strsE b.params), some (.tup (b.rows.map Rw.e)), some (En.go g as).e, a10, a11, a12, a13, s14, ?_, m4.app _, hL4⟩
              have gk := goals_ok (.go g as) S4
              have gx : ixM (.loc S4.length) (.int 0) (S4 ++ [.lst (En.go g as).goals]) = some (.ok (.tup [.str g, strsE as]), S4 ++ [.lst (En.go g as).goals]) := by
                rw [ev_ixL (last_at S4 _)]; rfl
              have wy : m_Machine_way_of [.loc mp, (En.go g as).e] S4 = some (.ok (.int 0), S4) := by
                simp [m_Machine_way_of, mb_Machine_way_of, startA, En.e, atI, ixN, eq_str]
              have en : ixM (En.go g as).e (.int 0) S4 = some (.ok (.str "go"), S4) := rfl
              have wp : ixM k_WAY_POINTS (.int 0) S4 = some (.ok (.str "first"), S4) := rfl
              unfold fTurn
              simp only [ev_sseq, ev_bind, e1, e2, e3', g1, ev_seqN]
              simp [envF, hf, i1, i2, lk, rl, en, eq_str, wy, wp, gk, gx]
            | less x y g as g2 as2 =>
              rw [hf] at h
              simp only at h
              cases hx : getP W2 x with
              | none => rw [hx] at h; cases h
              | some i =>
                cases hy : getP W2 y with
                | none => rw [hx, hy] at h; cases h
                | some j =>
                  rw [hx, hy] at h
                  simp only at h
                  have gk := goals_ok (.less x y g as g2 as2) S4
                  have gx0 : ixM (.loc S4.length) (.int 0) (S4 ++ [.lst (En.less x y g as g2 as2).goals]) = some (.ok (.tup [.str g, strsE as]), S4 ++ [.lst (En.less x y g as g2 as2).goals]) := by
                    rw [ev_ixL (last_at S4 _)]; rfl
                  have gx1 : ixM (.loc S4.length) (.int 1) (S4 ++ [.lst (En.less x y g as g2 as2).goals]) = some (.ok (.tup [.str g2, strsE as2]), S4 ++ [.lst (En.less x y g as g2 as2).goals]) := by
                    rw [ev_ixL (last_at S4 _)]; rfl
                  have wy : m_Machine_way_of [.loc mp, (En.less x y g as g2 as2).e] S4 = some (.ok (.int (if i < j then 0 else 1)), S4) := by
                    by_cases hij : i < j <;> simp [m_Machine_way_of, mb_Machine_way_of, startA, En.e, atI, ixN, eq_str, m4.fw, m4.w hx, m4.w hy, hij]
                  have en : ixM (En.less x y g as g2 as2).e (.int 0) S4 = some (.ok (.str "less"), S4) := rfl
                  have wp0 : ixM k_WAY_POINTS (.int 0) S4 = some (.ok (.str "first"), S4) := rfl
                  have wp1 : ixM k_WAY_POINTS (.int 1) S4 = some (.ok (.str "second"), S4) := rfl
                  by_cases hij : i < j
                  · rw [if_pos hij] at h wy
                    cases h
                    refine ⟨S4 ++ [.lst (En.less x y g as g2 as2).goals], some (.loc S.length), some (.int 0), some (strsE b.params), some (.tup (b.rows.map Rw.e)), some (En.less x y g as g2 as2).e, a10, a11, a12, a13, s14, ?_, m4.app _, hL4⟩
                    unfold fTurn
                    simp only [ev_sseq, ev_bind, e1, e2, e3', g1, ev_seqN]
                    simp [envF, hf, i1, i2, lk, rl, en, eq_str, wy, wp0, gk, gx0]
                  · rw [if_neg hij] at h wy
                    cases h
                    refine ⟨S4 ++ [.lst (En.less x y g as g2 as2).goals], some (.loc S.length), some (.int 1), some (strsE b.params), some (.tup (b.rows.map Rw.e)), some (En.less x y g as g2 as2).e, a10, a11, a12, a13, s14, ?_, m4.app _, hL4⟩
                    unfold fTurn
                    simp only [ev_sseq, ev_bind, e1, e2, e3', g1, ev_seqN]
                    simp [envF, hf, i1, i2, lk, rl, en, eq_str, wy, wp1, gk, gx1]
      · cases h
end
end CKP

set_option Elab.async false
set_option linter.all false
set_option maxRecDepth 100000
set_option maxHeartbeats 1000000
namespace CKP
open PySem PySem.Spec PyProof.Rows L2 Evl CI
section
variable {B S : Store} {mp pp wl cl : Nat} {W : Wd} {C : List (Str × Nat)} {L : Ls} {p : Pg}
/-- n turns at most -/
def runT (p : Pg) : Nat → Str → List Str → Wd → Ls → Option Rs
  | 0, _, _, _, _ => none
  | n + 1, name, args, W, L => match turnT p name args W L with
    | none => none
    | some (.end_ r) => some r
    | some (.on name' args' W' L') => runT p n name' args' W' L'
theorem turns_ok {s1 : Option AV} {ys0 : List AV} {r : Rs} (hp : PAt B pp p) (hn : p.lists.length ≤ 100) : ∀ (n : Nat) (ys : List AV) (name : Str) (args : List Str) (W : Wd) (L : Ls) (S : Store) (s2 s5 s6 s7 s8 s9 s10 s11 s12 s13 s14 : Option AV), n ≤ ys.length → Mst B S mp pp wl cl W C L → HasL p L → runT p n name args W L = some r →
    ∃ S', forGo ⟨ys0, []⟩ (forStep (mgName 2) fTurn) ys (envF mp s1 s2 name (some (strsE args)) s5 s6 s7 s8 s9 s10 s11 s12 s13 s14) S = some (.ok (.rt (r.e p)), S') ∧ ∃ G, S' = B ++ G
  | 0, ys, name, args, W, L, S, s2, s5, s6, s7, s8, s9, s10, s11, s12, s13, s14, hl, m, hL, h => by cases h
  | n + 1, [], name, args, W, L, S, s2, s5, s6, s7, s8, s9, s10, s11, s12, s13, s14, hl, m, hL, h => by simp at hl
  | n + 1, y :: ys, name, args, W, L, S, s2, s5, s6, s7, s8, s9, s10, s11, s12, s13, s14, hl, m, hL, h => by
    unfold runT at h
    cases ht : turnT p name args W L with
    | none => rw [ht] at h; cases h
    | some t =>
      rw [ht] at h
      have tk := turn_ok (s1 := s1) (s2 := some y) (s5 := s5) (s6 := s6) (s7 := s7) (s8 := s8) (s9 := s9) (s10 := s10) (s11 := s11) (s12 := s12) (s13 := s13) (s14 := s14) hp hn m hL ht
      have es : mgName 2 y (envF mp s1 s2 name (some (strsE args)) s5 s6 s7 s8 s9 s10 s11 s12 s13 s14) S = some (.ok (envF mp s1 (some y) name (some (strsE args)) s5 s6 s7 s8 s9 s10 s11 s12 s13 s14), S) := rfl
      cases t with
      | end_ r' =>
        cases h
        obtain ⟨S', g1, g2⟩ := tk
        refine ⟨S', ?_, g2⟩
        unfold forGo forStep
        simp only [ev_bind, ev_chk0, es, g1, forK, ev_pure]
      | on name' args' W' L' =>
        obtain ⟨S1, a5, a6, a7, a8, a9, a10, a11, a12, a13, a14, g1, m1, hL1⟩ := tk
        obtain ⟨S', g2, g3⟩ := turns_ok (s1 := s1) (ys0 := ys0) hp hn n ys name' args' W' L' S1 (some y) a5 a6 a7 a8 a9 a10 a11 a12 a13 a14 (by simp at hl; omega) m1 hL1 h
        refine ⟨S', ?_, g3⟩
        rw [← g2]
        conv => lhs; unfold forGo
        simp only [forStep, ev_bind, ev_chk0, es, g1, forK]
theorem nats_len (lo : Int) (n : Nat) : (nats lo n).length = n := by simp [nats]
theorem p62 : (2 : Int) ^ 62 = 4611686018427387904 := by decide +kernel
theorem in62 (n : Nat) (h : n ≤ 100000) : -(2 ^ 62) ≤ (n : Int) ∧ (n : Int) < 2 ^ 62 := by
  rw [p62]
  exact ⟨by omega, by omega⟩
theorem itRng_ok (n : Nat) (h : n ≤ 100000) : itRng [.int (n : Int)] = pure ⟨nats 0 n, []⟩ := by
  have e : itRng [.int (n : Int)] = if -(2 ^ 62) ≤ (n : Int) ∧ (n : Int) < 2 ^ 62 then pure ⟨nats 0 (n : Int).toNat, []⟩ else M.no := by simp only [itRng]
  rw [e, if_pos (in62 n h), Int.toNat_natCast]
theorem finish_ok {r : Rs} {steps : Nat} {b0 : Bk} {bs : List Bk} (hp : PAt B pp p) (hn : p.lists.length ≤ 100) (m : Mst B S mp pp wl cl W C L) (hL : HasL p L) (hb : p.blocks = b0 :: bs) (hs : steps ≤ 100000) (h : runT p steps b0.name [] W L = some r) :
    ∃ S', m_Machine_finish [.loc mp, .int steps] S = some (.ok (r.e p), S') ∧ ∃ G, S' = B ++ G := by
  have e0 : msPar 3 4 (mCons (mOp ixM (mOp ixM (mFld 0 "blocks" (mFld 1 "program" (mVar 0))) (mC (.int 0))) (mC (.int 0))) (mCons (mTup mNil) mNil)) (startA 15 [.loc mp, .int steps]) S
      = some (.ok (.nx (envF mp (some (.int steps)) none b0.name (some (strsE [])) none none none none none none none none none none)), S) := by
    have hbl := (hp.pre m.pre).blocks
    rw [hb] at hbl
    simp [startA, m.fp, hbl, atI, ixN, Bk.e, envF, strsE]
  obtain ⟨S', g1, g2⟩ := turns_ok (s1 := some (.int steps)) (ys0 := nats 0 steps) hp hn steps (nats 0 steps) b0.name [] W L S none none none none none none none none none none none (by rw [nats_len]; exact Nat.le_refl _) m hL h
  refine ⟨S', ?_, g2⟩
  have e1 : mItA itRng (mCons (mVar 1) mNil) (envF mp (some (.int steps)) none b0.name (some (strsE [])) none none none none none none none none none none) S = some (.ok ⟨nats 0 steps, []⟩, S) := by
    have ea : mCons (mVar 1) mNil (envF mp (some (.int steps)) none b0.name (some (strsE [])) none none none none none none none none none none) S = some (.ok [.int steps], S) := rfl
    exact mItA_ok ea (by rw [itRng_ok _ hs]; rfl)
  unfold m_Machine_finish
  rw [mb_finish_eq]
  exact fn_rt rfl ((seq_nx e0).trans (seq_rt ((loop_ok e1).trans g1)))
end
end CKP

set_option Elab.async false
set_option linter.all false
set_option maxRecDepth 100000
set_option maxHeartbeats 1000000
namespace CKP
open PySem PySem.Spec PyProof.Rows L2 Evl CI
theorem getL_app {x : AV} {S : Store} {ys : List AV} (h : getL x S = some (.ok ys, S)) (G : Store) : getL x (S ++ G) = some (.ok ys, S ++ G) := by
  unfold getL at h ⊢
  cases x with
  | loc n =>
    simp only at h ⊢
    cases q : S[n]? with
    | none => rw [q] at h; cases h
    | some o =>
      rw [List.getElem?_append_left (List.getElem?_eq_some_iff.mp q).1, q]
      rw [q] at h
      cases o with
      | lst xs => cases h; rfl
      | _ => cases h
  | fl xs => cases h; rfl
  | _ => cases h
theorem getS_app {x : AV} {S : Store} {ys : List AV} (h : getS x S = some (.ok ys, S)) (G : Store) : getS x (S ++ G) = some (.ok ys, S ++ G) := by
  cases x with
  | tup xs => unfold getS at h ⊢; cases h; rfl
  | loc n => exact getL_app (x := .loc n) h G
  | fl xs => exact getL_app (x := .fl xs) h G
  | _ => unfold getS getL at h; cases h
/-- the i-th of xs has these ints -/
def HasI (S : Store) : List AV → List (List Int) → Prop
  | [], [] => True
  | x :: xs, v :: vs => getS x S = some (.ok (v.map .int), S) ∧ HasI S xs vs
  | _, _ => False
theorem HasI.app {S : Store} (G : Store) : ∀ {xs : List AV} {vs : List (List Int)}, HasI S xs vs → HasI (S ++ G) xs vs
  | [], [], _ => trivial
  | x :: xs, v :: vs, h => ⟨getS_app h.1 G, HasI.app G h.2⟩
  | [], _ :: _, h => h.elim
  | _ :: _, [], h => h.elim
theorem HasI.len {S : Store} : ∀ {xs : List AV} {vs : List (List Int)}, HasI S xs vs → xs.length = vs.length
  | [], [], _ => rfl
  | x :: xs, v :: vs, h => by simp [HasI.len h.2]
  | [], _ :: _, h => h.elim
  | _ :: _, [], h => h.elim
theorem setP_new {α : Type} {W : List (Str × α)} {x : Str} {v : α} (h : x ∉ W.map (·.1)) : setP W x v = W ++ [(x, v)] := by
  unfold setP
  rw [if_neg]
  intro q
  obtain ⟨p, hp, e⟩ := List.any_eq_true.mp q
  exact h (List.mem_map.mpr ⟨p, hp, of_decide_eq_true e⟩)
def cellC : List Str → Nat → List (Str × Nat)
  | [], _ => []
  | x :: xs, n => (x, n) :: cellC xs (n + 1)
def cellT (ρ : CI.Env) : AV → M (Option (AV × AV)) := dcTurn (mgTup 2 (mgCons (mgName 4) (mgCons (mgName 5) mgNil))) mYes (mVar 4) (mCb listM (mCons (mVar 5) mNil)) ρ
theorem cells_go {a0 a1 a2 a3 : Option AV} {ys0 : List AV} : ∀ (ns : List Str) (xs : List AV) (vs : List (List Int)) (S : Store) (acc : List (Str × Nat)), HasI S xs vs → ns.length = xs.length → ns.Nodup → (∀ x ∈ ns, x ∉ acc.map (·.1)) → acc.length + ns.length < 1000 →
    dcGo ⟨ys0, []⟩ (cellT [a0, a1, a2, a3, none, none]) (zipd (ns.map .str) xs) (kvE .loc acc) S = some (.ok (kvE .loc (acc ++ cellC ns S.length)), S ++ vs.map fun v => .lst (v.map .int))
  | [], [], [], S, acc, h, hl, nd, hd, hz => by simp [zipd, dcGo, cellC]
  | x :: ns, y :: xs, v :: vs, S, acc, h, hl, nd, hd, hz => by
    have t : cellT [a0, a1, a2, a3, none, none] (.tup [.str x, y]) S = some (.ok (some (.str x, .loc S.length)), S ++ [.lst (v.map .int)]) := by
      simp [cellT, dcTurn, listM, h.1]
    have z : zipd ((x :: ns).map .str) (y :: xs) = .tup [.str x, y] :: zipd (ns.map .str) xs := rfl
    have nx : x ∉ acc.map (·.1) := hd x (by simp)
    have ih := cells_go (a0 := a0) (a1 := a1) (a2 := a2) (a3 := a3) (ys0 := ys0) ns xs vs (S ++ [.lst (v.map .int)]) (acc ++ [(x, S.length)]) (h.2.app _) (by simpa using hl) (List.nodup_cons.mp nd).2 (fun w hw => by
      have h1 := hd w (by simp [hw])
      have h2 : w ≠ x := fun e => (List.nodup_cons.mp nd).1 (e ▸ hw)
      simp at h1 ⊢
      exact ⟨h1, h2⟩) (by simp at hz ⊢; omega)
    rw [z]
    unfold dcGo
    have hlt : (kvE AV.loc acc).length < 100000 := by rw [kvE_len]; simp at hz; omega
    simp only [ev_bind, ev_chk0, t, toKey, ev_ite, if_pos hlt]
    rw [setK_kvE, setP_new nx, ih]
    simp [cellC]
  | [], _ :: _, _, _, _, h, hl, _, _, _ => by simp at hl
  | _ :: _, [], _, _, _, h, hl, _, _, _ => by simp at hl
  | [], [], _ :: _, _, _, h, _, _, _, _ => h.elim
  | _ :: _, _ :: _, [], _, _, h, _, _, _, _ => h.elim
end CKP

set_option Elab.async false
set_option linter.all false
set_option maxRecDepth 100000
set_option maxHeartbeats 1000000
namespace CKP
open PySem PySem.Spec PyProof.Rows L2 Evl CI
theorem cellC_at : ∀ (ns : List Str) (n : Nat) (l : Str) (m : Nat), getP (cellC ns n) l = some m → n ≤ m ∧ ns[m - n]? = some l
  | [], n, l, m, h => by simp [cellC, getP] at h
  | x :: ns, n, l, m, h => by
    by_cases e : x = l
    · simp [cellC, getP, List.find?_cons, e] at h
      subst h
      simp [e]
    · have h2 : getP (cellC ns (n + 1)) l = some m := by
        simpa [cellC, getP, List.find?_cons, e] using h
      obtain ⟨h3, h4⟩ := cellC_at ns (n + 1) l m h2
      refine ⟨by omega, ?_⟩
      have : m - n = (m - (n + 1)) + 1 := by omega
      rw [this, List.getElem?_cons_succ]
      exact h4
theorem zip_at : ∀ (ns : List Str) (vs : List (List Int)) (n : Nat) (l : Str) (xs : List Int), getP (ns.zip vs) l = some xs → ∃ i, getP (cellC ns n) l = some (n + i) ∧ vs[i]? = some xs
  | [], vs, n, l, xs, h => by simp [getP] at h
  | _ :: _, [], n, l, xs, h => by simp [getP] at h
  | x :: ns, v :: vs, n, l, xs, h => by
    by_cases e : x = l
    · simp [getP, List.find?_cons, e] at h
      subst h
      exact ⟨0, by simp [cellC, getP, List.find?_cons, e], rfl⟩
    · have h2 : getP (ns.zip vs) l = some xs := by
        simpa [getP, List.find?_cons, e] using h
      obtain ⟨i, h3, h4⟩ := zip_at ns vs (n + 1) l xs h2
      refine ⟨i + 1, ?_, by simpa using h4⟩
      have : getP (cellC (x :: ns) n) l = getP (cellC ns (n + 1)) l := by simp [cellC, getP, List.find?_cons, e]
      rw [this, h3]
      congr 1
      omega
theorem keysOf_strs : ∀ xs : List Str, keysOf (xs.map .str) = some (xs.map .inr)
  | [] => rfl
  | x :: xs => by simp [keysOf, toKey, keysOf_strs xs]
theorem fold_kv : ∀ (xs : List Str) (is : List Int) (W : Wd), ((xs.map Sum.inr).zip (is.map AV.int)).foldl (fun acc (kv : Key × AV) => setK acc kv.1 kv.2) (kvE .int W) = kvE .int (setsGo W (xs.zip is))
  | [], _, W => by simp [setsGo]
  | _ :: _, [], W => by simp [setsGo]
  | x :: xs, i :: is, W => by
    have := fold_kv xs is (setP W x i)
    simp only [List.map_cons, List.zip_cons_cons, List.foldl_cons, setK_kvE, setsGo]
    exact this
theorem setF_at {S : Store} {n C : Nat} {fs : List (Str × AV)} {f : Str} {x : AV} (h : S[n]? = some (.ins C fs)) (hl : fs.length < 1000) : setF C f (.loc n) x S = some (.ok (), S.set n (.ins C (putF f x fs))) := by
  unfold setF
  simp [h, hl]
/-- the machine's store -/
def machS (S : Store) (pp : Nat) (p : Pg) (vs : List (List Int)) (is : List Int) : Store :=
  S ++ [.ins 1 [("program", .loc pp), ("cells", .loc (S.length + 1 + vs.length)), ("worth", .loc (S.length + 2 + vs.length))]] ++ (vs.map fun v => .lst (v.map .int)) ++ [.dct (kvE .loc (cellC p.lists (S.length + 1))) false] ++ [.dct (kvE .int (setsGo [] (p.numbers.zip is))) false]
theorem mach_mst {S : Store} {pp : Nat} {p : Pg} {vs : List (List Int)} {is : List Int} (hl : p.lists.length = vs.length) (hw : (p.numbers.zip is).length < 900) :
    Mst S (machS S pp p vs is) S.length pp (S.length + 2 + vs.length) (S.length + 1 + vs.length) (setsGo [] (p.numbers.zip is)) (cellC p.lists (S.length + 1)) (p.lists.zip vs) := by
  have at1 : ∀ i, (machS S pp p vs is)[S.length + 1 + i]? = ((vs.map fun v => AO.lst (v.map .int)) ++ [AO.dct (kvE .loc (cellC p.lists (S.length + 1))) false] ++ [.dct (kvE .int (setsGo [] (p.numbers.zip is))) false])[i]? := fun i => by
    unfold machS
    rw [List.append_assoc, List.append_assoc, List.getElem?_append_right (by first | (simp; done) | (simp; omega))]
    congr 1
    all_goals first | (simp; done) | (simp; omega)
  refine ⟨?_, ?_, ?_, fun l xs h => ?_, by omega, fun l l' n h h' => ?_, by omega, fun l n h => ?_, ⟨_, by unfold machS; simp only [List.append_assoc]; rfl⟩, ?_⟩
  · unfold machS
    rw [List.append_assoc, List.append_assoc, List.append_assoc, List.getElem?_append_right (Nat.le_refl _)]
    simp
  · have : S.length + 2 + vs.length = S.length + 1 + (vs.length + 1) := by omega
    rw [this, at1, List.getElem?_append_right (by simp)]
    simp
  · rw [at1, List.append_assoc, List.getElem?_append_right (by simp)]
    simp
  · obtain ⟨i, h1, h2⟩ := zip_at p.lists vs (S.length + 1) l xs h
    refine ⟨_, h1, ?_⟩
    have hi := (List.getElem?_eq_some_iff.mp h2).1
    rw [at1, List.append_assoc, List.getElem?_append_left (by simp; exact hi), List.getElem?_map, h2]; rfl
  · have h1 := (cellC_at _ _ _ _ h).2
    rw [(cellC_at _ _ _ _ h').2] at h1
    exact (Option.some.inj h1).symm
  · have := (cellC_at _ _ _ _ h).1
    omega
  · have := setsGo_len (p.numbers.zip is) []
    simp only [List.length_nil] at this
    omega
end CKP

set_option Elab.async false
set_option linter.all false
set_option maxRecDepth 100000
set_option maxHeartbeats 1000000
namespace CKP
open PySem PySem.Spec PyProof.Rows L2 Evl CI
theorem set_mid (S T : Store) (o o' : AO) : (S ++ [o] ++ T).set S.length o' = S ++ [o'] ++ T := by
  rw [List.append_assoc, List.set_append_right _ _ (Nat.le_refl _), Nat.sub_self, List.append_assoc]
  rfl
theorem at_mid (S T : Store) (o : AO) : (S ++ [o] ++ T)[S.length]? = some o := by
  rw [List.append_assoc, List.getElem?_append_right (Nat.le_refl _), Nat.sub_self]
  rfl
theorem setf_ok {S S1 S2 : Store} {a e : CI.Env → M AV} {ρ : CI.Env} {C : Nat} {f : Str} {o x : AV} {S3 : Store} (he : e ρ S = some (.ok x, S1)) (ha : a ρ S1 = some (.ok o, S2)) (hs : setF C f o x S2 = some (.ok (), S3)) : msSetf C f a e ρ S = some (.ok (.nx ρ), S3) := by
  simp [he, ha, hs]
theorem dc_ok {S S1 S2 : Store} {w : CI.Env → M AI} {g : AV → CI.Env → M CI.Env} {t : CI.Env → M Bool} {k e : CI.Env → M AV} {vs : List Nat} {ρ : CI.Env} {ai : AI} {kvs : List (Key × AV)} (hw : w ρ S = some (.ok ai, S1)) (hg : dcGo ai (dcTurn g t k e (wipeA ρ vs)) ai.xs [] S1 = some (.ok kvs, S2)) : mDc w g t k e vs ρ S = some (.ok (.loc S2.length), S2 ++ [.dct kvs false]) := by
  show M.bind _ _ _ = _
  unfold M.bind
  rw [hw]
  show M.bind _ _ _ = _
  unfold M.bind
  rw [hg]
  rfl
theorem init_ok {S : Store} {pp : Nat} {p : Pg} {ls : List AV} {vs : List (List Int)} {is : List Int} (hp : PAt S pp p) (hi : HasI S ls vs) (hl : p.lists.length = ls.length) (hn : p.numbers.length = is.length) (nd : p.lists.Nodup) (h9 : p.lists.length < 900) (h9' : p.numbers.length < 900) :
    m_Machine_init [.loc S.length, .loc pp, .tup ls, .tup (is.map .int)] (S ++ [.ins 1 []]) = some (.ok .non, machS S pp p vs is) := by
  have hl2 := hi.len
  have p1 : PAt (S ++ [.ins 1 [("program", .loc pp)]]) pp p := hp.pre ⟨_, rfl⟩
  have e1 : msSetf 1 "program" (mVar 0) (mVar 1) [some (.loc S.length), some (.loc pp), some (.tup ls), some (.tup (is.map .int)), none, none] (S ++ [.ins 1 []]) = some (.ok (.nx [some (.loc S.length), some (.loc pp), some (.tup ls), some (.tup (is.map .int)), none, none]), S ++ [.ins 1 [("program", .loc pp)]]) := by
    refine setf_ok rfl rfl ?_
    rw [setF_at (C := 1) (fs := []) (by simp) (by simp)]
    have := set_mid S [] (.ins 1 []) (.ins 1 [("program", .loc pp)])
    simp only [List.append_nil] at this
    rw [show CI.putF ("program" : Str) (AV.loc pp) [] = [(("program" : Str), AV.loc pp)] from rfl, this]
  have hw : mItA itZip (mCons (mFld 0 "lists" (mVar 1)) (mCons (mVar 2) mNil)) [some (.loc S.length), some (.loc pp), some (.tup ls), some (.tup (is.map .int)), none, none] (S ++ [.ins 1 [("program", .loc pp)]]) = some (.ok ⟨zipd (p.lists.map .str) ls, []⟩, S ++ [.ins 1 [("program", .loc pp)]]) := by
    simp [p1.lists, itZip, itAny, strsE, hl]
  have cg := cells_go (a0 := some (.loc S.length)) (a1 := some (.loc pp)) (a2 := some (.tup ls)) (a3 := some (.tup (is.map .int))) (ys0 := zipd (p.lists.map .str) ls) p.lists ls vs (S ++ [.ins 1 [("program", .loc pp)]]) [] (hi.app _) hl nd (by simp) (by simp; omega)
  have ec := dc_ok (w := mItA itZip (mCons (mFld 0 "lists" (mVar 1)) (mCons (mVar 2) mNil))) (g := mgTup 2 (mgCons (mgName 4) (mgCons (mgName 5) mgNil))) (t := mYes) (k := mVar 4) (e := mCb listM (mCons (mVar 5) mNil)) (vs := [4, 5]) hw cg
  have e2 : msSetf 1 "cells" (mVar 0) (mDc (mItA itZip (mCons (mFld 0 "lists" (mVar 1)) (mCons (mVar 2) mNil))) (mgTup 2 (mgCons (mgName 4) (mgCons (mgName 5) mgNil))) mYes (mVar 4) (mCb listM (mCons (mVar 5) mNil)) [4, 5]) [some (.loc S.length), some (.loc pp), some (.tup ls), some (.tup (is.map .int)), none, none] (S ++ [.ins 1 [("program", .loc pp)]])
      = some (.ok (.nx [some (.loc S.length), some (.loc pp), some (.tup ls), some (.tup (is.map .int)), none, none]), S ++ [.ins 1 [("program", .loc pp), ("cells", .loc (S.length + 1 + vs.length))]] ++ ((vs.map fun v => .lst (v.map .int)) ++ [.dct (kvE .loc (cellC p.lists (S.length + 1))) false])) := by
    refine setf_ok ec rfl ?_
    rw [List.nil_append, List.append_assoc (S ++ _), setF_at (C := 1) (fs := [("program", .loc pp)]) (at_mid S _ _) (by simp), set_mid]
    have e : CI.putF ("cells" : Str) (AV.loc (S.length + 1 + vs.length)) [(("program" : Str), AV.loc pp)] = [(("program" : Str), AV.loc pp), (("cells" : Str), AV.loc (S.length + 1 + vs.length))] := by kernel_rfl
    simp only [List.length_append, List.length_cons, List.length_nil, List.length_map, Nat.zero_add] at *
    rw [e]
  have p2 : PAt (S ++ [.ins 1 [("program", .loc pp), ("cells", .loc (S.length + 1 + vs.length))]] ++ ((vs.map fun v => .lst (v.map .int)) ++ [.dct (kvE .loc (cellC p.lists (S.length + 1))) false])) pp p := hp.pre ⟨_, List.append_assoc ..⟩
  have ez : mCb dzM (mCons (mFld 0 "numbers" (mVar 1)) (mCons (mVar 3) mNil)) [some (.loc S.length), some (.loc pp), some (.tup ls), some (.tup (is.map .int)), none, none] (S ++ [.ins 1 [("program", .loc pp), ("cells", .loc (S.length + 1 + vs.length))]] ++ ((vs.map fun v => .lst (v.map .int)) ++ [.dct (kvE .loc (cellC p.lists (S.length + 1))) false]))
      = some (.ok (.loc (S.length + 2 + vs.length)), S ++ [.ins 1 [("program", .loc pp), ("cells", .loc (S.length + 1 + vs.length))]] ++ ((vs.map fun v => .lst (v.map .int)) ++ [.dct (kvE .loc (cellC p.lists (S.length + 1))) false]) ++ [.dct (kvE .int (setsGo [] (p.numbers.zip is))) false]) := by
    have fk := fold_kv p.numbers is []
    have d : dzM [strsE p.numbers, .tup (is.map .int)] = M.new (.dct (kvE .int (setsGo [] (p.numbers.zip is))) false) := by
      unfold dzM strsE
      simp only [keysOf_strs]
      rw [if_pos (by simp [hn]), ← fk]
      rfl
    simp only [CI.ev_cb, ev_bind, CI.ev_cons, CI.ev_nil, ev_fld, CI.ev_var, ev_pure, List.getElem?_cons_succ, List.getElem?_cons_zero]
    simp only [Option.join, Option.bind_some, id, ev_ofO, p2.numbers, d, ev_new]
    simp
    omega
  have e3 : msSetf 1 "worth" (mVar 0) (mCb dzM (mCons (mFld 0 "numbers" (mVar 1)) (mCons (mVar 3) mNil))) [some (.loc S.length), some (.loc pp), some (.tup ls), some (.tup (is.map .int)), none, none] (S ++ [.ins 1 [("program", .loc pp), ("cells", .loc (S.length + 1 + vs.length))]] ++ ((vs.map fun v => .lst (v.map .int)) ++ [.dct (kvE .loc (cellC p.lists (S.length + 1))) false]))
      = some (.ok (.nx [some (.loc S.length), some (.loc pp), some (.tup ls), some (.tup (is.map .int)), none, none]), machS S pp p vs is) := by
    refine setf_ok ez rfl ?_
    rw [List.append_assoc (S ++ _), setF_at (C := 1) (fs := [(("program" : Str), AV.loc pp), (("cells" : Str), AV.loc (S.length + 1 + vs.length))]) (at_mid S _ _) (by simp), set_mid]
    have e : CI.putF ("worth" : Str) (AV.loc (S.length + 2 + vs.length)) [(("program" : Str), AV.loc pp), (("cells" : Str), AV.loc (S.length + 1 + vs.length))] = [(("program" : Str), AV.loc pp), (("cells" : Str), AV.loc (S.length + 1 + vs.length)), (("worth" : Str), AV.loc (S.length + 2 + vs.length))] := by kernel_rfl
    rw [e]
    unfold machS
    simp only [List.append_assoc]
  exact fn_nx rfl ((seq_nx e1).trans ((seq_nx e2).trans e3))
end CKP

set_option Elab.async false
set_option linter.all false
set_option maxRecDepth 100000
set_option maxHeartbeats 1000000
namespace CKP
open PySem PySem.Spec PyProof.Rows L2 Evl CI
theorem lc_pure {w : CI.Env → M AI} {e : CI.Env → M AV} {i : Nat} {vs : List Nat} {ρ : CI.Env} {S : Store} {ai : AI} {f : AV → AV} (hw : w ρ S = some (.ok ai, S)) (hk : ai.ok S = true) (he : ∀ x ∈ ai.xs, e ((wipeA ρ vs).set i (some x)) S = some (.ok (f x), S)) (hl : ai.xs.length ≤ 100000) :
    mLc w (mgName i) mYes e vs ρ S = some (.ok (.loc S.length), S ++ [.lst (ai.xs.map f)]) := by
  simp only [ev_lc, ev_bind, hw]
  rw [lcGo_pure (f := f) hk ai.xs [] (fun x hx => ?_) (by simp; exact hl)]
  · simp
  · simp [lcTurn, he x hx]
theorem lcGo_grow {ai : AI} {T : AV → M (Option AV)} {f : AV → AV} {P : Store → Prop} (hk : ∀ S, P S → ai.ok S = true) : ∀ (xs acc : List AV) (S : Store), (∀ x ∈ xs, ∀ S, P S → ∃ G, T x S = some (.ok (some (f x)), S ++ G) ∧ P (S ++ G)) → acc.length + xs.length ≤ 100000 → P S → ∃ G, lcGo ai T xs acc S = some (.ok (acc ++ xs.map f), S ++ G) ∧ P (S ++ G)
  | [], acc, S, h, hl, p => ⟨[], by unfold lcGo; simp [ev_chk (hk S p)], by simpa using p⟩
  | x :: xs, acc, S, h, hl, p => by
    obtain ⟨G, g1, g2⟩ := h x (by simp) S p
    have hl' : acc.length < 100000 := by simp at hl; omega
    obtain ⟨G2, g3, g4⟩ := lcGo_grow hk xs (acc ++ [f x]) (S ++ G) (fun y hy => h y (by simp [hy])) (by simp at hl ⊢; omega) g2
    refine ⟨G ++ G2, ?_, by rw [← List.append_assoc]; exact g4⟩
    unfold lcGo
    simp only [ev_bind, ev_chk (hk S p), g1, ev_ite, if_pos hl']
    rw [g3]
    simp
/-- walking what holds these items -/
theorem any_of {x : AV} {S : Store} {ys : List AV} (h : getS x S = some (.ok ys, S)) : ∃ ck, itAny x S = some (.ok ⟨ys, ck⟩, S) ∧ AI.ok ⟨ys, ck⟩ S = true ∧ (tyA x S = some "list" ∨ tyA x S = some "tuple") := by
  cases x with
  | tup xs => unfold getS at h; cases h; exact ⟨[], rfl, rfl, .inr rfl⟩
  | fl xs => unfold getS getL at h; cases h; exact ⟨[], rfl, rfl, .inl rfl⟩
  | loc n =>
    unfold getS getL at h
    simp only at h
    cases q : S[n]? with
    | none => rw [q] at h; cases h
    | some o =>
      rw [q] at h
      cases o with
      | lst xs =>
        cases h
        exact ⟨[(n, ys)], by unfold itAny itLst; simp only [q], ok_at q, .inl (by unfold tyA; simp only [q])⟩
      | _ => cases h
  | _ => unfold getS getL at h; cases h
theorem is_int_ok (i : Int) (S : Store) : m_is_integer [.int i] S = some (.ok (.bl true), S) := by
  have e1 : CK.tyIs "int" "int" = true := by decide +kernel
  have e2 : CK.tyIs "int" "bool" = false := by decide +kernel
  simp [m_is_integer, mb_is_integer, startA, isiM, tyA, e1, e2]
theorem are_ints_ok {x : AV} {S : Store} {v : List Int} (h : getS x S = some (.ok (v.map .int), S)) (hl : v.length ≤ 100000) : m_are_integers [x] S = some (.ok (.bl true), S ++ [.lst (v.map fun _ => .bl true)]) := by
  obtain ⟨ck, h1, h2, h3⟩ := any_of h
  have e0 : mIsi2 "list" "tuple" (mVar 0) [some x, none] S = some (.ok (.bl true), S) := by
    have a1 : (CK.tyIs "list" "list" || CK.tyIs "list" "tuple") = true := by decide +kernel
    have a2 : (CK.tyIs "tuple" "list" || CK.tyIs "tuple" "tuple") = true := by decide +kernel
    show (match M.ofO ((([some x, none] : CI.Env)[0]?).join) S with | none => none | some (.ok a, S') => (tyA a S').map fun t => ((.ok (.bl (CK.tyIs t "list" || CK.tyIs t "tuple")) : Except XV AV), S') | some (.error y, S') => some (.error y, S')) = _
    simp only [List.getElem?_cons_zero, Option.join, Option.bind_some, id, ev_ofO]
    rcases h3 with h3 | h3
    · rw [h3]; simp only [Option.map_some, a1]
    · rw [h3]; simp only [Option.map_some, a2]
  have e1 := lc_pure (w := mIt itAny (mVar 0)) (e := mCb m_is_integer (mCons (mVar 1) mNil)) (i := 1) (vs := [1]) (ρ := [some x, none]) (S := S) (ai := ⟨v.map .int, ck⟩) (f := fun _ => .bl true) (by simp [h1]) h2 (fun y hy => by
    obtain ⟨i, _, rfl⟩ := List.mem_map.mp hy
    simp [wipeA, is_int_ok]) (by simp; exact hl)
  have e2 : (v.map AV.int).map (fun _ => AV.bl true) = (v.map fun _ => true).map AV.bl := by simp
  have e3 : allM [.loc S.length] (S ++ [.lst ((v.map fun _ => true).map AV.bl)]) = some (.ok (.bl ((v.map fun _ => true).all id)), S ++ [.lst ((v.map fun _ => true).map AV.bl)]) := all_at (last_at S _)
  have e4 : (v.map fun _ => true).all id = true := by simp
  have e5 : (v.map fun _ => true).map AV.bl = v.map fun _ => AV.bl true := by simp
  simp only at e1
  rw [e2, e5] at e1
  rw [e4, e5] at e3
  refine fn_rt rfl ?_
  show msRet _ [some x, none] S = _
  simp only [ev_sret, ev_and, ev_bind, e0, ev_toB, ev_pure, if_true, CI.ev_cb, CI.ev_cons, CI.ev_nil, e1, e3]
end CKP

set_option Elab.async false
set_option linter.all false
set_option maxRecDepth 100000
set_option maxHeartbeats 400000
namespace CKP
open PySem PySem.Spec PyProof.Rows L2 Evl CI
theorem HasI.mem {S : Store} {x : AV} : ∀ {xs : List AV} {vs : List (List Int)}, HasI S xs vs → x ∈ xs → ∃ v ∈ vs, getS x S = some (.ok (v.map .int), S)
  | [], _, _, h => by cases h
  | _ :: _, [], h, _ => h.elim
  | y :: ys, v :: vs, h, hx => by
    rcases List.mem_cons.mp hx with rfl | hx
    · exact ⟨v, by simp, h.1⟩
    · obtain ⟨w, h1, h2⟩ := HasI.mem h.2 hx
      exact ⟨w, by simp [h1], h2⟩
theorem lenT (xs : List AV) (S : Store) : lenM [.tup xs] S = some (.ok (.int xs.length), S) := rfl
theorem ne_same (i : Int) (S : Store) : gNe (.int i) (.int i) S = some (.ok (.bl false), S) := by
  have e : scal (.int i) (.int i) = true := rfl
  simp [gNe, eqM, AV.sc, e]
theorem between_ok (i a b : Int) (S : Store) (h1 : a ≤ i) (h2 : i ≤ b) : m_is_between [.int i, .int a, .int b] S = some (.ok (.bl true), S) := by
  have e := is_int_ok i S
  refine fn_rt rfl ?_
  show msRet _ [some (.int i), some (.int a), some (.int b)] S = _
  simp [e, h1, h2]
theorem isi_tup (xs : List AV) (i : Nat) (ρ : CI.Env) (S : Store) (h : ρ[i]? = some (some (.tup xs))) : mIsi "tuple" (mVar i) ρ S = some (.ok (.bl true), S) := by
  have a1 : CK.tyIs "tuple" "tuple" = true := by decide +kernel
  simp [h, isiM, tyA, a1]
theorem check_values_ok {S : Store} {pp : Nat} {p : Pg} {ls : List AV} {vs : List (List Int)} {is : List Int} {steps : Int} (hp : PAt S pp p) (hi : HasI S ls vs) (hl : p.lists.length = ls.length) (hn : p.numbers.length = is.length) (h9 : ls.length ≤ 1000) (h9' : is.length ≤ 1000) (hv : ∀ v ∈ vs, v.length ≤ 100000) (s1 : 1 ≤ steps) (s2 : steps ≤ 1000) :
    ∃ G, m_check_values [.loc pp, .tup ls, .tup (is.map .int), .int steps] S = some (.ok .non, S ++ G) := by
  obtain ⟨G, g1, g2⟩ := lcGo_grow (ai := ⟨ls, []⟩) (T := lcTurn (mgName 4) mYes (mCb m_are_integers (mCons (mVar 4) mNil)) (wipeA [some (.loc pp), some (.tup ls), some (.tup (is.map .int)), some (.int steps), none] [4])) (f := fun _ => .bl true) (P := fun S => HasI S ls vs) (fun S _ => rfl) ls [] S (fun x hx S hS => by
    obtain ⟨v, v1, v2⟩ := hS.mem hx
    have e := are_ints_ok v2 (hv v v1)
    refine ⟨_, ?_, hS.app [.lst (v.map fun _ => .bl true)]⟩
    simp [lcTurn, wipeA, e]) (by simp; omega) hi
  have hp1 := hp.pre ⟨G ++ [.lst (ls.map fun _ => .bl true)], rfl⟩
  have a1 : allM [.loc (S ++ G).length] (S ++ G ++ [.lst ((ls.map fun _ => true).map .bl)]) = some (.ok (.bl ((ls.map fun _ => true).all id)), S ++ G ++ [.lst ((ls.map fun _ => true).map .bl)]) := all_at (last_at _ _)
  have a2 : (ls.map fun _ => true).all id = true := by simp
  have a3 : (ls.map fun _ => true).map AV.bl = ls.map fun _ => AV.bl true := by simp
  rw [a2, a3] at a1
  have ai := are_ints_ok (x := .tup (is.map .int)) (S := S ++ (G ++ [.lst (ls.map fun _ => .bl true)])) (v := is) (by unfold getS; rfl) (by omega)
  have bt := between_ok steps 1 1000 (S ++ (G ++ [.lst (ls.map fun _ => .bl true)]) ++ [.lst (is.map fun _ => .bl true)]) s1 s2
  have u1 := isi_tup ls 1 [some (.loc pp), some (.tup ls), some (.tup (is.map .int)), some (.int steps), none] S rfl
  have u2 := isi_tup (is.map .int) 2 [some (.loc pp), some (.tup ls), some (.tup (is.map .int)), some (.int steps), none] (S ++ (G ++ [.lst (ls.map fun _ => .bl true)])) rfl
  have c1 : (msIte (mTOr (mTNot (mTest (mIsi "tuple" (mVar 1)))) (mTest (mOp gNe (mCb lenM (mCons (mVar 1) mNil)) (mCb lenM (mCons (mFld 0 "lists" (mVar 0)) mNil))))) msNever msNext) [some (.loc pp), some (.tup ls), some (.tup (is.map .int)), some (.int steps), none] S = some (.ok (.nx [some (.loc pp), some (.tup ls), some (.tup (is.map .int)), some (.int steps), none]), S) := by
    simp only [ev_site, ev_bind, ev_tor, ev_tnot, ev_test, u1, ev_toB, ev_pure, ev_op, CI.ev_cb, CI.ev_cons, CI.ev_nil, CI.ev_var, ev_fld, List.getElem?_cons_succ, List.getElem?_cons_zero, Option.join, Option.bind_some, id, ev_ofO, lenT]
    simp [hp.lists, hl, lenT, strsE, ne_same]
  have c2 : (msIte (mTNot (mTest (mCb allM (mCons (mLc (mIt itAny (mVar 1)) (mgName 4) mYes (mCb m_are_integers (mCons (mVar 4) mNil)) [4]) mNil)))) msNever msNext) [some (.loc pp), some (.tup ls), some (.tup (is.map .int)), some (.int steps), none] S = some (.ok (.nx [some (.loc pp), some (.tup ls), some (.tup (is.map .int)), some (.int steps), none]), S ++ (G ++ [.lst (ls.map fun _ => .bl true)])) := by
    rw [← List.append_assoc S]
    simp only [ev_site, ev_bind, ev_tnot, ev_test, CI.ev_cb, CI.ev_cons, CI.ev_nil, ev_lc, ev_it, CI.ev_var]
    simp only [List.getElem?_cons_succ, List.getElem?_cons_zero, Option.join, Option.bind_some, id, ev_ofO, itAny, ev_pure, g1, List.nil_append, ev_lcEnd, ev_new, a1, ev_toB, Bool.not_true, Bool.false_eq_true, if_false, ev_snext]
  have c3 : (msIte (mTOr (mTNot (mTest (mIsi "tuple" (mVar 2)))) (mTOr (mTest (mOp gNe (mCb lenM (mCons (mVar 2) mNil)) (mCb lenM (mCons (mFld 0 "numbers" (mVar 0)) mNil)))) (mTNot (mTest (mCb m_are_integers (mCons (mVar 2) mNil)))))) msNever msNext) [some (.loc pp), some (.tup ls), some (.tup (is.map .int)), some (.int steps), none] (S ++ (G ++ [.lst (ls.map fun _ => .bl true)])) = some (.ok (.nx [some (.loc pp), some (.tup ls), some (.tup (is.map .int)), some (.int steps), none]), S ++ (G ++ [.lst (ls.map fun _ => .bl true)]) ++ [.lst (is.map fun _ => .bl true)]) := by
    clear a1 g1 bt c1 c2
    generalize (S ++ (G ++ [.lst (ls.map fun _ => .bl true)])) = X at hp1 ai u2 ⊢
    simp only [ev_site, ev_bind, ev_tor, ev_tnot, ev_test, u2, ev_toB, ev_pure, ev_op, CI.ev_cb, CI.ev_cons, CI.ev_nil, CI.ev_var, ev_fld, List.getElem?_cons_succ, List.getElem?_cons_zero, Option.join, Option.bind_some, id, ev_ofO, lenT]
    simp [hp1.numbers, hn, lenT, ai, strsE, ne_same]
  have c4 : (msIte (mTNot (mTest (mCb m_is_between (mCons (mVar 3) (mCons (mC (.int 1)) (mCons (mC (.int 1000)) mNil)))))) msNever msNext) [some (.loc pp), some (.tup ls), some (.tup (is.map .int)), some (.int steps), none] (S ++ (G ++ [.lst (ls.map fun _ => .bl true)]) ++ [.lst (is.map fun _ => .bl true)]) = some (.ok (.nx [some (.loc pp), some (.tup ls), some (.tup (is.map .int)), some (.int steps), none]), S ++ (G ++ [.lst (ls.map fun _ => .bl true)]) ++ [.lst (is.map fun _ => .bl true)]) := by
    clear a1 g1 ai u2 c1 c2 c3
    generalize (S ++ (G ++ [.lst (ls.map fun _ => .bl true)]) ++ [.lst (is.map fun _ => .bl true)]) = X at bt ⊢
    simp [bt]
  refine ⟨G ++ [.lst (ls.map fun _ => .bl true)] ++ [.lst (is.map fun _ => .bl true)], ?_⟩
  rw [← List.append_assoc S]
  exact fn_nx rfl ((seq_nx c1).trans ((seq_nx c2).trans ((seq_nx c3).trans c4)))
end CKP

set_option Elab.async false
set_option linter.all false
set_option maxRecDepth 100000
set_option maxHeartbeats 400000
namespace CKP
open PySem PySem.Spec PyProof.Rows L2 Evl CI
theorem zip_hasL : ∀ (ns : List Str) (vs : List (List Int)), ns.length = vs.length → ∀ l ∈ ns, ∃ xs, getP (ns.zip vs) l = some xs
  | [], _, _, l, h => by cases h
  | _ :: _, [], h, _, _ => by simp at h
  | x :: ns, v :: vs, h, l, hl => by
    by_cases e : x = l
    · exact ⟨v, by simp [getP, List.find?_cons, e]⟩
    · obtain ⟨xs, h1⟩ := zip_hasL ns vs (by simpa using h) l (by
        rcases List.mem_cons.mp hl with rfl | h
        · exact absurd rfl e
        · exact h)
      refine ⟨xs, ?_⟩
      rw [← h1]
      simp [getP, List.find?_cons, e]
theorem run_ok {S : Store} {pp : Nat} {p : Pg} {ls : List AV} {vs : List (List Int)} {is : List Int} {steps : Nat} {b0 : Bk} {bs : List Bk} {r : Rs} (hp : PAt S pp p) (hi : HasI S ls vs) (hl : p.lists.length = ls.length) (hn : p.numbers.length = is.length) (nd : p.lists.Nodup) (h9 : p.lists.length ≤ 100) (h9' : p.numbers.length < 900) (hv : ∀ v ∈ vs, v.length ≤ 100000) (s1 : 1 ≤ steps) (s2 : steps ≤ 1000)
    (hb : p.blocks = b0 :: bs) (h : runT p steps b0.name [] (setsGo [] (p.numbers.zip is)) (p.lists.zip vs) = some r) :
    ∃ G, m_run [.loc pp, .tup ls, .tup (is.map .int), .int steps] S = some (.ok (r.e p), S ++ G) := by
  obtain ⟨G, g1⟩ := check_values_ok (steps := steps) hp hi hl hn (by omega) (by omega) hv (by omega) (by omega)
  have hp1 : PAt (S ++ G) pp p := hp.pre ⟨G, rfl⟩
  have hl2 := hi.len
  have i1 := init_ok hp1 (hi.app G) hl hn nd (by omega) h9'
  have m := mach_mst (S := S ++ G) (pp := pp) (p := p) (vs := vs) (is := is) (by omega) (by simp; omega)
  obtain ⟨S', f1, G2, f2⟩ := finish_ok hp1 h9 m (zip_hasL _ _ (by omega)) hb (by omega) h
  refine ⟨G ++ G2, fn_rt rfl ?_⟩
  rw [f2] at f1
  show msSeq _ _ [some (.loc pp), some (.tup ls), some (.tup (is.map .int)), some (.int steps)] S = _
  have c1 : msDrop (mCb m_check_values (mCons (mVar 0) (mCons (mVar 1) (mCons (mVar 2) (mCons (mVar 3) mNil))))) [some (.loc pp), some (.tup ls), some (.tup (is.map .int)), some (.int steps)] S = some (.ok (.nx [some (.loc pp), some (.tup ls), some (.tup (is.map .int)), some (.int steps)]), S ++ G) := by
    simp [g1]
  rw [seq_nx c1]
  have im : insM 1 "finish" (.loc (S ++ G).length) (machS (S ++ G) pp p vs is) = some (.ok (), machS (S ++ G) pp p vs is) := by
    unfold insM
    simp only [m.obj]
    rfl
  simp only [ev_sret, ev_bind, ev_meth, ev_make, CI.ev_cons, CI.ev_nil, CI.ev_var, List.getElem?_cons_succ, List.getElem?_cons_zero, Option.join, Option.bind_some, id, ev_ofO, ev_pure, ev_new, i1, ev_nonM, im, f1]
  simp only [List.append_assoc]
end CKP

set_option Elab.async false
set_option linter.all false
set_option maxRecDepth 100000
set_option maxHeartbeats 400000
namespace CKP
open PySem PySem.Spec PyProof.Rows L2 Evl CI
theorem strs_sh (k : Nat) : ∀ xs : List Str, AV.shs k (xs.map .str) = xs.map .str
  | [] => rfl
  | x :: xs => by
    show AV.sh k (.str x) :: AV.shs k (xs.map .str) = _
    rw [strs_sh k xs]; rfl
theorem strsE_sh (k : Nat) (xs : List Str) : (strsE xs).sh k = strsE xs := by
  unfold strsE
  show AV.tup _ = _
  rw [strs_sh]
theorem rw_sh (k : Nat) (r : Rw) : r.e.sh k = r.e := by cases r <;> rfl
theorem rws_sh (k : Nat) : ∀ rs : List Rw, AV.shs k (rs.map Rw.e) = rs.map Rw.e
  | [] => rfl
  | r :: rs => by
    show AV.sh k r.e :: AV.shs k (rs.map Rw.e) = _
    rw [rw_sh, rws_sh k rs]; rfl
theorem en_sh (k : Nat) (e : En) : e.e.sh k = e.e := by
  cases e <;> simp [En.e, AV.sh, AV.shs, strsE_sh]
theorem bk_sh (k : Nat) (b : Bk) : b.e.sh k = b.e := by
  show AV.tup [AV.str b.name, (strsE b.params).sh k, AV.tup (AV.shs k (b.rows.map Rw.e)), b.fin.e.sh k] = _
  rw [strsE_sh, rws_sh, en_sh]; rfl
theorem bks_sh (k : Nat) : ∀ bs : List Bk, AV.shs k (bs.map Bk.e) = bs.map Bk.e
  | [] => rfl
  | b :: bs => by
    show AV.sh k b.e :: AV.shs k (bs.map Bk.e) = _
    rw [bk_sh, bks_sh k bs]; rfl
theorem lookup_sh {f : Str} {x : AV} (k : Nat) : ∀ {fs : List (Str × AV)}, fs.lookup f = some x → (shP k fs).lookup f = some (x.sh k)
  | [], h => by cases h
  | (g, y) :: fs, h => by
    show List.lookup f ((g, y.sh k) :: shP k fs) = _
    by_cases e : f = g
    · subst e
      simp at h ⊢
      rw [h]
    · have e' : (f == g) = false := by simpa using e
      rw [List.lookup_cons, e'] at h ⊢
      exact lookup_sh k h
theorem kvE_sh (k : Nat) : ∀ bs : List (Str × Bk), shP k (kvE Bk.e bs) = kvE Bk.e bs
  | [] => rfl
  | (x, b) :: bs => by
    show (_, b.e.sh k) :: shP k (kvE Bk.e bs) = _
    rw [bk_sh, kvE_sh k bs]; rfl
theorem at_sh {S T : Store} {n : Nat} {o : AO} (h : T[n]? = some o) : (S ++ shS S.length T)[n + S.length]? = some (o.sh S.length) := by
  rw [List.getElem?_append_right (by omega)]
  unfold shS
  simp [h]
theorem PAt.sh {T : Store} {n : Nat} {p : Pg} (S : Store) (h : PAt T n p) : PAt (S ++ shS S.length T) (n + S.length) p := by
  obtain ⟨fs, q, h1, h2, h3, h4, h5, h6⟩ := h.ex
  refine ⟨shP S.length fs, q + S.length, at_sh h1, ?_, ?_, ?_, ?_, ?_⟩
  · rw [lookup_sh _ h2, strsE_sh]
  · rw [lookup_sh _ h3, strsE_sh]
  · rw [lookup_sh _ h4]
    show some (AV.tup _) = _
    rw [bks_sh]
  · rw [lookup_sh _ h5]; rfl
  · rw [at_sh h6]
    show some (AO.dct _ _) = _
    rw [kvE_sh]
end CKP

set_option Elab.async false
set_option linter.all false
set_option maxRecDepth 100000
set_option maxHeartbeats 400000
namespace CKP
open PySem PySem.Spec PyProof.Rows L2 Evl CI
/-! rows and turns, one by one -/
section
variable {W W' : Wd} {L L' : Ls} {rs : List Rw} {n : Nat} {x y z l : Str} {i v : Int} {zs : List Int} {r : Rw}
theorem r_bad (h : r.bad W L = some true) : rowsGo (r :: rs) n W L = some (.inl (n, L)) := by
  unfold rowsGo
  simp only [h]
theorem r_good (h : r.bad W L = some false) (h2 : r.step W L = some (W', L')) : rowsGo (r :: rs) n W L = rowsGo rs (n + 1) W' L' := by
  conv => lhs; unfold rowsGo
  simp only [h, h2]
theorem r_get (h1 : getP W y = some i) (h2 : getP L l = some zs) (h0 : 0 ≤ i) (hv : zs[i.toNat]? = some v) : rowsGo (.get x l y :: rs) n W L = rowsGo rs (n + 1) (setP W x v) L := by
  have hl := (List.getElem?_eq_some_iff.mp hv).1
  have h3 : i < (zs.length : Int) := by omega
  refine r_good ?_ ?_
  · simp only [Rw.bad, h1, h2, Option.bind_eq_bind, Option.bind_some, decide_eq_true h0, decide_eq_true h3]; rfl
  · simp only [Rw.step, h1, h2, Option.bind_eq_bind, Option.bind_some, if_pos h0, hv]
theorem r_put (h1 : getP W y = some i) (h2 : getP L l = some zs) (h4 : getP W z = some v) (h0 : 0 ≤ i) (h3 : i < (zs.length : Int)) : rowsGo (.put l y z :: rs) n W L = rowsGo rs (n + 1) W (setP L l (zs.set i.toNat v)) := by
  refine r_good ?_ ?_
  · simp only [Rw.bad, h1, h2, Option.bind_eq_bind, Option.bind_some, decide_eq_true h0, decide_eq_true h3]; rfl
  · simp only [Rw.step, h1, h2, h4, Option.bind_eq_bind, Option.bind_some, if_pos (⟨h0, h3⟩ : 0 ≤ i ∧ i < (zs.length : Int))]
theorem r_putBad (h1 : getP W y = some i) (h2 : getP L l = some zs) (h3 : (zs.length : Int) ≤ i) : rowsGo (.put l y z :: rs) n W L = some (.inl (n, L)) := by
  refine r_bad ?_
  have h4 : ¬ i < (zs.length : Int) := by omega
  simp only [Rw.bad, h1, h2, Option.bind_eq_bind, Option.bind_some, decide_eq_false h4, Bool.and_false]; rfl
theorem r_low (h1 : getP W y = some i) (h0 : 0 ≤ i) : rowsGo (.low y :: rs) n W L = rowsGo rs (n + 1) W L := by
  refine r_good ?_ rfl
  have h4 : ¬ i < 0 := by omega
  simp only [Rw.bad, h1, Option.bind_eq_bind, Option.bind_some, decide_eq_false h4]
theorem r_high (h1 : getP W y = some i) (h2 : getP L l = some zs) (h3 : i < (zs.length : Int)) : rowsGo (.high y l :: rs) n W L = rowsGo rs (n + 1) W L := by
  refine r_good ?_ rfl
  have h4 : ¬ (zs.length : Int) ≤ i := by omega
  simp only [Rw.bad, h1, h2, Option.bind_eq_bind, Option.bind_some, decide_eq_false h4]
theorem r_highBad (h1 : getP W y = some i) (h2 : getP L l = some zs) (h3 : (zs.length : Int) ≤ i) : rowsGo (.high y l :: rs) n W L = some (.inl (n, L)) := by
  refine r_bad ?_
  simp only [Rw.bad, h1, h2, Option.bind_eq_bind, Option.bind_some, decide_eq_true h3]
end
section
variable {p : Pg} {name : Str} {args : List Str} {W W2 : Wd} {L L2 : Ls} {b : Bk} {vs : List Int}
def finT (b : Bk) (name : Str) (o : Sum (Nat × Ls) (Wd × Ls)) : Option Tn := match o with
      | .inl (j, L') => some (.end_ (.fault name j L'))
      | .inr (W2, L2) => match b.fin with
        | .ret x => (getP W2 x).map fun v => .end_ (.value v L2)
        | .go g as => some (.on g as W2 L2)
        | .less x y g as g2 as2 => match getP W2 x, getP W2 y with
          | some i, some j => if i < j then some (.on g as W2 L2) else some (.on g2 as2 W2 L2)
          | _, _ => none
/-- a turn's rows -/
theorem turn_of (hb : getP p.parts name = some b) (hv : valsOf W args = some vs) (hc : vs.length = b.params.length ∧ W.length + b.params.length + b.rows.length < 900 ∧ b.rows.length ≤ 1000 ∧ args.length ≤ 1000)
    {o : Sum (Nat × Ls) (Wd × Ls)} (hr : rowsGo b.rows 0 (setsGo W (b.params.zip vs)) L = some o) :
    turnT p name args W L = finT b name o := by
  unfold turnT
  rw [hb]
  simp only [hv]
  rw [if_pos hc, hr]
  rcases o with ⟨j, L'⟩ | ⟨W2, L2⟩ <;> rfl
theorem run_on {n : Nat} {name' : Str} {args' : List Str} (h : turnT p name args W L = some (.on name' args' W2 L2)) : runT p (n + 1) name args W L = runT p n name' args' W2 L2 := by
  conv => lhs; unfold runT
  rw [h]
theorem run_end {n : Nat} {r : Rs} (h : turnT p name args W L = some (.end_ r)) : runT p (n + 1) name args W L = some r := by
  unfold runT
  rw [h]
end
/-- more steps, the same answer -/
theorem run_more {p : Pg} {r : Rs} : ∀ {n : Nat} {name : Str} {args : List Str} {W : Wd} {L : Ls} (k : Nat), runT p n name args W L = some r → runT p (n + k) name args W L = some r
  | 0, _, _, _, _, k, h => by cases h
  | n + 1, name, args, W, L, k, h => by
    have e : n + 1 + k = (n + k) + 1 := by omega
    rw [e]
    unfold runT at h ⊢
    cases ht : turnT p name args W L with
    | none => rw [ht] at h; cases h
    | some t =>
      rw [ht] at h
      cases t with
      | end_ r' => exact h
      | on name' args' W' L' => exact run_more k h
end CKP

set_option Elab.async false
set_option linter.all false
set_option maxRecDepth 100000
set_option maxHeartbeats 400000
namespace CKP
open PySem PySem.Spec PyProof.Rows L2 Evl CI
/-! the sum of a list -/
def LA (xs ys : List Int) : Ls := [("a", xs), ("b", ys)]
theorem la_a (xs ys : List Int) : getP (LA xs ys) "a" = some xs := by kernel_rfl
theorem la_b (xs ys : List Int) : getP (LA xs ys) "b" = some ys := by kernel_rfl
theorem la_sa (xs ys zs : List Int) : setP (LA xs ys) "a" zs = LA zs ys := by kernel_rfl
theorem la_sb (xs ys zs : List Int) : setP (LA xs ys) "b" zs = LA xs zs := by kernel_rfl
def prog4 (first : List Rw) (body : List Rw) (fin : En) : Pg := ⟨["a", "b"], ["n"], [⟨"start", [], first, .go "loop" ["z", "y"]⟩, ⟨"loop", ["i", "t"], [], .less "i" "l" "body" [] "out" []⟩, ⟨"body", [], body, fin⟩, ⟨"out", [], [], .ret "t"⟩]⟩
def chkR (k : Bool) (l : Str) : List Rw := if k then [.low "i", .high "i" l] else []
def setR : List Rw := [.set "z" 0, .set "y" 0, .len "l" "a"]
def PSum (k : Bool) : Pg := prog4 setR (chkR k "a" ++ [.get "x" "a" "i", .sum "u" "t" "x", .move "j" "i" 1]) (.go "loop" ["j", "u"])
def WS0 (n l : Int) : Wd := [("n", n), ("z", 0), ("y", 0), ("l", l)]
def WS1 (n l i t : Int) : Wd := [("n", n), ("z", 0), ("y", 0), ("l", l), ("i", i), ("t", t)]
def WS (n l i t x u j : Int) : Wd := [("n", n), ("z", 0), ("y", 0), ("l", l), ("i", i), ("t", t), ("x", x), ("u", u), ("j", j)]
section
variable {k : Bool} {xs ys : List Int} {n : Int}
theorem sum_start : turnT (PSum k) "start" [] [("n", n)] (LA xs ys) = some (.on "loop" ["z", "y"] (WS0 n xs.length) (LA xs ys)) := by cases k <;> kernel_rfl
theorem sum_loop0 (l : Int) : turnT (PSum k) "loop" ["z", "y"] (WS0 n l) (LA xs ys) = if 0 < l then some (.on "body" [] (WS1 n l 0 0) (LA xs ys)) else some (.on "out" [] (WS1 n l 0 0) (LA xs ys)) := by cases k <;> kernel_rfl
theorem sum_loop (l i t x u j : Int) : turnT (PSum k) "loop" ["j", "u"] (WS n l i t x u j) (LA xs ys) = if j < l then some (.on "body" [] (WS n l j u x u j) (LA xs ys)) else some (.on "out" [] (WS n l j u x u j) (LA xs ys)) := by cases k <;> kernel_rfl
theorem sum_out0 (l t i : Int) : turnT (PSum k) "out" [] (WS1 n l i t) (LA xs ys) = some (.end_ (.value t (LA xs ys))) := by cases k <;> kernel_rfl
theorem sum_out (l i t x u j : Int) : turnT (PSum k) "out" [] (WS n l i t x u j) (LA xs ys) = some (.end_ (.value t (LA xs ys))) := by cases k <;> kernel_rfl
theorem chk_go {l : Str} {zs : List Int} {rs : List Rw} {W : Wd} {L : Ls} {i : Int} (h1 : getP W "i" = some i) (h2 : getP L l = some zs) (h0 : 0 ≤ i) (h3 : i < (zs.length : Int)) (m : Nat) : ∃ m', rowsGo (chkR k l ++ rs) m W L = rowsGo rs m' W L := by
  cases k with
  | false => exact ⟨m, rfl⟩
  | true => exact ⟨_, (r_low h1 h0).trans (r_high h1 h2 h3)⟩
theorem sum_rows {W : Wd} {i : Nat} {v : Int} {W' : Wd} (h1 : getP W "i" = some (i : Int)) (hv : xs[i]? = some v) (e : ∀ m, rowsGo [.sum "u" "t" "x", .move "j" "i" 1] m (setP W "x" v) (LA xs ys) = some (.inr (W', LA xs ys))) :
    rowsGo (chkR k "a" ++ [.get "x" "a" "i", .sum "u" "t" "x", .move "j" "i" 1]) 0 W (LA xs ys) = some (.inr (W', LA xs ys)) := by
  have hl := (List.getElem?_eq_some_iff.mp hv).1
  obtain ⟨m, e1⟩ := chk_go (k := k) (rs := [.get "x" "a" "i", .sum "u" "t" "x", .move "j" "i" 1]) h1 (la_a xs ys) (by omega) (by omega) 0
  rw [e1, r_get h1 (la_a xs ys) (by omega) (by simpa using hv)]
  exact e _
theorem sum_body0 {l : Int} {v : Int} (hv : xs[0]? = some v) : turnT (PSum k) "body" [] (WS1 n l 0 0) (LA xs ys) = some (.on "loop" ["j", "u"] (WS n l 0 0 v (0 + v) (0 + 1)) (LA xs ys)) := by
  have hb : getP (PSum k).parts "body" = some ⟨"body", [], chkR k "a" ++ [.get "x" "a" "i", .sum "u" "t" "x", .move "j" "i" 1], .go "loop" ["j", "u"]⟩ := by kernel_rfl
  exact turn_of (vs := []) hb rfl (by cases k <;> simp [chkR, WS1]) (sum_rows (i := 0) (by kernel_rfl) hv fun m => by kernel_rfl)
theorem sum_body {l t x u j : Int} {i : Nat} {v : Int} (hv : xs[i]? = some v) : turnT (PSum k) "body" [] (WS n l i t x u j) (LA xs ys) = some (.on "loop" ["j", "u"] (WS n l i t v (t + v) (i + 1)) (LA xs ys)) := by
  have hb : getP (PSum k).parts "body" = some ⟨"body", [], chkR k "a" ++ [.get "x" "a" "i", .sum "u" "t" "x", .move "j" "i" 1], .go "loop" ["j", "u"]⟩ := by kernel_rfl
  exact turn_of (vs := []) hb rfl (by cases k <;> simp [chkR, WS]) (sum_rows (i := i) (by kernel_rfl) hv fun m => by kernel_rfl)
theorem sum_from (d : Nat) : ∀ (j : Nat) (i t x u : Int), xs.length = j + d → runT (PSum k) (2 * d + 2) "loop" ["j", "u"] (WS n xs.length i t x u j) (LA xs ys) = some (.value (u + (xs.drop j).sum) (LA xs ys)) := by
  induction d with
  | zero =>
    intro j i t x u h
    have hn : ¬ (j : Int) < (xs.length : Int) := by omega
    rw [run_on ((sum_loop _ _ _ _ _ _).trans (if_neg hn)), run_end (sum_out _ _ _ _ _ _), List.drop_of_length_le (by omega)]
    simp
  | succ d ih =>
    intro j i t x u h
    have hj : j < xs.length := by omega
    have hn : (j : Int) < (xs.length : Int) := by omega
    have e : 2 * (d + 1) + 2 = (2 * d + 2) + 1 + 1 := by omega
    rw [e, run_on ((sum_loop _ _ _ _ _ _).trans (if_pos hn)), run_on (sum_body (v := xs[j]) (List.getElem?_eq_getElem hj))]
    have := ih (j + 1) j u xs[j] (u + xs[j]) (by omega)
    rw [show ((j + 1 : Nat) : Int) = (j : Int) + 1 by omega] at this
    rw [this, List.drop_eq_getElem_cons hj, List.sum_cons]
    congr 2
    omega
theorem sum_run (hx : xs.length ≤ 90) : runT (PSum k) 200 "start" [] [("n", n)] (LA xs ys) = some (.value xs.sum (LA xs ys)) := by
  cases xs with
  | nil =>
    rw [run_on sum_start, run_on ((sum_loop0 _).trans (if_neg (by simp))), run_end (sum_out0 _ _ _)]
    rfl
  | cons v tl =>
    rw [run_on sum_start, run_on ((sum_loop0 _).trans (if_pos (by simp <;> omega))), run_on (sum_body0 (v := v) rfl)]
    have := sum_from (k := k) (n := n) (xs := v :: tl) (ys := ys) tl.length 1 0 0 v (0 + v) (by simp <;> omega)
    have e := run_more (197 - (2 * tl.length + 2)) this
    rw [show 2 * tl.length + 2 + (197 - (2 * tl.length + 2)) = 197 by simp at hx; omega] at e
    rw [show ((0 : Int) + 1) = ((1 : Nat) : Int) by omega, e]
    simp
end
end CKP

set_option Elab.async false
set_option linter.all false
set_option maxRecDepth 100000
set_option maxHeartbeats 400000
namespace CKP
open PySem PySem.Spec PyProof.Rows L2 Evl CI
/-! a list copied into another one -/
def PCop (k : Bool) : Pg := prog4 setR ([.get "x" "a" "i", .sum "u" "x" "n"] ++ (chkR k "b" ++ [.put "b" "i" "u", .move "j" "i" 1])) (.go "loop" ["j", "u"])
def spotC (k : Bool) : Nat := if k then 3 else 2
section
variable {k : Bool} {xs ys zs : List Int} {n : Int}
theorem cop_start : turnT (PCop k) "start" [] [("n", n)] (LA xs ys) = some (.on "loop" ["z", "y"] (WS0 n xs.length) (LA xs ys)) := by cases k <;> kernel_rfl
theorem cop_loop0 (l : Int) : turnT (PCop k) "loop" ["z", "y"] (WS0 n l) (LA xs ys) = if 0 < l then some (.on "body" [] (WS1 n l 0 0) (LA xs ys)) else some (.on "out" [] (WS1 n l 0 0) (LA xs ys)) := by cases k <;> kernel_rfl
theorem cop_loop (l i t x u j : Int) : turnT (PCop k) "loop" ["j", "u"] (WS n l i t x u j) (LA xs ys) = if j < l then some (.on "body" [] (WS n l j u x u j) (LA xs ys)) else some (.on "out" [] (WS n l j u x u j) (LA xs ys)) := by cases k <;> kernel_rfl
theorem cop_out0 (l t i : Int) : turnT (PCop k) "out" [] (WS1 n l i t) (LA xs ys) = some (.end_ (.value t (LA xs ys))) := by cases k <;> kernel_rfl
theorem cop_out (l i t x u j : Int) : turnT (PCop k) "out" [] (WS n l i t x u j) (LA xs ys) = some (.end_ (.value t (LA xs ys))) := by cases k <;> kernel_rfl
theorem cop_rows {W W1 W2 : Wd} {i : Nat} {v w : Int} (h1 : getP W "i" = some (i : Int)) (hv : xs[i]? = some v) (e1 : ∀ rs m, rowsGo (.sum "u" "x" "n" :: rs) m (setP W "x" v) (LA xs ys) = rowsGo rs (m + 1) W1 (LA xs ys)) (h2 : getP W1 "i" = some (i : Int)) (h3 : getP W1 "u" = some w) (hi : i < ys.length) (e2 : setP W1 "j" ((i : Int) + 1) = W2) :
    rowsGo ([.get "x" "a" "i", .sum "u" "x" "n"] ++ (chkR k "b" ++ [.put "b" "i" "u", .move "j" "i" 1])) 0 W (LA xs ys) = some (.inr (W2, LA xs (ys.set i w))) := by
  obtain ⟨m, e3⟩ := chk_go (k := k) (rs := [.put "b" "i" "u", .move "j" "i" 1]) h2 (la_b xs ys) (by omega) (by omega) (0 + 1 + 1)
  refine (r_get h1 (la_a xs ys) (by omega) (by simpa using hv)).trans ((e1 _ _).trans (e3.trans ?_))
  rw [r_put h2 (la_b xs ys) h3 (by omega) (by omega), la_sb, Int.toNat_natCast]
  have g : Rw.step W1 (LA xs (ys.set i w)) (.move "j" "i" 1) = some (W2, LA xs (ys.set i w)) := by
    simp only [Rw.step, h2, Option.bind_eq_bind, Option.bind_some, e2]
  rw [r_good rfl g]
  rfl
theorem cop_rowsBad {W W1 : Wd} {i : Nat} {v w : Int} (h1 : getP W "i" = some (i : Int)) (hv : xs[i]? = some v) (e1 : ∀ rs m, rowsGo (.sum "u" "x" "n" :: rs) m (setP W "x" v) (LA xs ys) = rowsGo rs (m + 1) W1 (LA xs ys)) (h2 : getP W1 "i" = some (i : Int)) (hi : ys.length ≤ i) :
    rowsGo ([.get "x" "a" "i", .sum "u" "x" "n"] ++ (chkR k "b" ++ [.put "b" "i" "u", .move "j" "i" 1])) 0 W (LA xs ys) = some (.inl (spotC k, LA xs ys)) := by
  refine (r_get h1 (la_a xs ys) (by omega) (by simpa using hv)).trans ((e1 _ _).trans ?_)
  cases k with
  | false => exact r_putBad h2 (la_b xs ys) (by omega)
  | true => exact (r_low h2 (by omega)).trans (r_highBad h2 (la_b xs ys) (by omega))
theorem cop_b : getP (PCop k).parts "body" = some ⟨"body", [], [.get "x" "a" "i", .sum "u" "x" "n"] ++ (chkR k "b" ++ [.put "b" "i" "u", .move "j" "i" 1]), .go "loop" ["j", "u"]⟩ := by kernel_rfl
theorem cop_body0 {l : Int} {v : Int} (hv : xs[0]? = some v) (hi : 0 < ys.length) : turnT (PCop k) "body" [] (WS1 n l 0 0) (LA xs ys) = some (.on "loop" ["j", "u"] (WS n l 0 0 v (v + n) (0 + 1)) (LA xs (ys.set 0 (v + n)))) :=
  turn_of (vs := []) cop_b rfl (by cases k <;> simp [chkR, WS1]) (cop_rows (i := 0) (W1 := [("n", n), ("z", 0), ("y", 0), ("l", l), ("i", 0), ("t", 0), ("x", v), ("u", v + n)]) (by kernel_rfl) hv (fun rs m => by kernel_rfl) (by kernel_rfl) (by kernel_rfl) hi (by kernel_rfl))
theorem cop_bad0 {l : Int} {v : Int} (hv : xs[0]? = some v) (hi : ys.length ≤ 0) : turnT (PCop k) "body" [] (WS1 n l 0 0) (LA xs ys) = some (.end_ (.fault "body" (spotC k) (LA xs ys))) :=
  turn_of (vs := []) cop_b rfl (by cases k <;> simp [chkR, WS1]) (cop_rowsBad (i := 0) (w := 0) (W1 := [("n", n), ("z", 0), ("y", 0), ("l", l), ("i", 0), ("t", 0), ("x", v), ("u", v + n)]) (by kernel_rfl) hv (fun rs m => by kernel_rfl) (by kernel_rfl) hi)
theorem cop_body {l t x u j : Int} {i : Nat} {v : Int} (hv : xs[i]? = some v) (hi : i < ys.length) : turnT (PCop k) "body" [] (WS n l i t x u j) (LA xs ys) = some (.on "loop" ["j", "u"] (WS n l i t v (v + n) (i + 1)) (LA xs (ys.set i (v + n)))) :=
  turn_of (vs := []) cop_b rfl (by cases k <;> simp [chkR, WS]) (cop_rows (i := i) (W1 := WS n l i t v (v + n) j) (by kernel_rfl) hv (fun rs m => by kernel_rfl) (by kernel_rfl) (by kernel_rfl) hi (by kernel_rfl))
theorem cop_bad {l t x u j : Int} {i : Nat} {v : Int} (hv : xs[i]? = some v) (hi : ys.length ≤ i) : turnT (PCop k) "body" [] (WS n l i t x u j) (LA xs ys) = some (.end_ (.fault "body" (spotC k) (LA xs ys))) :=
  turn_of (vs := []) cop_b rfl (by cases k <;> simp [chkR, WS]) (cop_rowsBad (i := i) (w := 0) (W1 := WS n l i t v (v + n) j) (by kernel_rfl) hv (fun rs m => by kernel_rfl) (by kernel_rfl) hi)
/-- item by item -/
def copR (k : Bool) (n : Int) (xs : List Int) : List Int → Nat → Int → List Int → Rs
  | [], _, u, zs => .value u (LA xs zs)
  | v :: rest, j, u, zs => if j < zs.length then copR k n xs rest (j + 1) (v + n) (zs.set j (v + n)) else .fault "body" (spotC k) (LA xs zs)
theorem cop_from (rest : List Int) : ∀ (j : Nat) (i t x u : Int) (zs : List Int), xs.drop j = rest → runT (PCop k) (2 * rest.length + 2) "loop" ["j", "u"] (WS n xs.length i t x u j) (LA xs zs) = some (copR k n xs rest j u zs) := by
  induction rest with
  | nil =>
    intro j i t x u zs h
    have hn : ¬ (j : Int) < (xs.length : Int) := by
      have := List.drop_eq_nil_iff.mp h
      omega
    rw [List.length_nil, run_on ((cop_loop _ _ _ _ _ _).trans (if_neg hn)), run_end (cop_out _ _ _ _ _ _)]
    rfl
  | cons v rest ih =>
    intro j i t x u zs h
    have hj : j < xs.length := by
      rcases Nat.lt_or_ge j xs.length with g | g
      · exact g
      · rw [List.drop_of_length_le g] at h; cases h
    have hn : (j : Int) < (xs.length : Int) := by omega
    have h' := h
    rw [List.drop_eq_getElem_cons hj] at h'
    obtain ⟨h1, h2⟩ := List.cons.inj h'
    have hv : xs[j]? = some v := by rw [List.getElem?_eq_getElem hj, h1]
    have e : 2 * (v :: rest).length + 2 = (2 * rest.length + 2) + 1 + 1 := by simp; omega
    rw [e, run_on ((cop_loop _ _ _ _ _ _).trans (if_pos hn))]
    unfold copR
    by_cases hz : j < zs.length
    · rw [if_pos hz, run_on (cop_body hv hz)]
      have := ih (j + 1) j u v (v + n) (zs.set j (v + n)) h2
      rw [show ((j + 1 : Nat) : Int) = (j : Int) + 1 by omega] at this
      exact this
    · rw [if_neg hz, run_end (cop_bad hv (by omega))]
/-- the copy's lists -/
def cells (n : Int) (xs ys : List Int) (m : Nat) : List Int := (xs.take m).map (· + n) ++ ys.drop m
theorem cop_fin (rest : List Int) : ∀ (done : List Int) (u : Int), xs = done ++ rest → done.length ≤ ys.length → copR k n xs rest done.length u (done.map (· + n) ++ ys.drop done.length) =
    if ys.length < xs.length then .fault "body" (spotC k) (LA xs (cells n xs ys ys.length)) else .value (match rest.getLast? with | some v => v + n | none => u) (LA xs (cells n xs ys xs.length)) := by
  induction rest with
  | nil =>
    intro done u h hd
    rw [List.append_nil] at h
    subst h
    rw [if_neg (by omega)]
    unfold copR cells
    rw [List.take_length]
    rfl
  | cons v rest ih =>
    intro done u h hd
    unfold copR
    have hl : (done.map (· + n) ++ ys.drop done.length).length = ys.length := by simp; omega
    have hx : xs.length = done.length + rest.length + 1 := by rw [h]; simp; omega
    by_cases hz : done.length < ys.length
    · rw [if_pos (by rw [hl]; exact hz)]
      have e : (done.map (· + n) ++ ys.drop done.length).set done.length (v + n) = (done ++ [v]).map (· + n) ++ ys.drop (done ++ [v]).length := by
        rw [List.set_append_right _ _ (by simp)]
        simp only [List.length_map, Nat.sub_self]
        rw [List.drop_eq_getElem_cons hz, List.set_cons_zero]
        simp
      rw [e]
      have := ih (done ++ [v]) (v + n) (by rw [h]; simp) (by simp <;> omega)
      rw [show (done ++ [v]).length = done.length + 1 by simp] at this ⊢
      rw [this]
      cases rest with
      | nil => rfl
      | cons w ws =>
        have : (v :: w :: ws).getLast? = (w :: ws).getLast? := by simp [List.getLast?_cons_cons]
        rw [this]
        cases h2 : (w :: ws).getLast? with
        | none => simp at h2
        | some z => rfl
    · rw [if_neg (by rw [hl]; exact hz), if_pos (by omega)]
      have : done.length = ys.length := by omega
      unfold cells
      rw [h, ← this, List.take_left]
theorem cop_run (hx : xs.length ≤ 90) : runT (PCop k) 200 "start" [] [("n", n)] (LA xs ys) = some (if ys.length < xs.length then .fault "body" (spotC k) (LA xs (cells n xs ys ys.length)) else .value (match xs.getLast? with | some v => v + n | none => 0) (LA xs (cells n xs ys xs.length))) := by
  have fin := cop_fin (k := k) (n := n) (xs := xs) (ys := ys) xs [] 0 rfl (by simp)
  rw [← fin]
  cases xs with
  | nil =>
    rw [run_on cop_start, run_on ((cop_loop0 _).trans (if_neg (by simp))), run_end (cop_out0 _ _ _)]
    rfl
  | cons v tl =>
    rw [run_on cop_start, run_on ((cop_loop0 _).trans (if_pos (by simp <;> omega)))]
    unfold copR
    simp only [List.map_nil, List.nil_append, List.length_nil, List.drop_zero]
    by_cases hz : 0 < ys.length
    · rw [if_pos hz, run_on (cop_body0 (v := v) rfl hz)]
      have := cop_from (k := k) (n := n) (xs := v :: tl) tl 1 0 0 v (v + n) (ys.set 0 (v + n)) rfl
      have e := run_more (197 - (2 * tl.length + 2)) this
      rw [show 2 * tl.length + 2 + (197 - (2 * tl.length + 2)) = 197 by simp at hx; omega] at e
      rw [show ((0 : Int) + 1) = ((1 : Nat) : Int) by omega, e]
    · rw [if_neg hz, run_end (cop_bad0 (v := v) rfl (by omega))]
end
end CKP

set_option Elab.async false
set_option linter.all false
set_option maxRecDepth 100000
set_option maxHeartbeats 400000
namespace CKP
open PySem PySem.Spec PyProof.Rows L2 Evl CI
/-! the greatest item -/
def PGr : Pg := prog4 [.set "z" 0, .move "y" "n" 0, .len "l" "a"] [.get "x" "a" "i", .move "j" "i" 1] (.less "t" "x" "loop" ["j", "x"] "loop" ["j", "t"])
def WG0 (n y l : Int) : Wd := [("n", n), ("z", 0), ("y", y), ("l", l)]
def WG1 (n y l i t : Int) : Wd := [("n", n), ("z", 0), ("y", y), ("l", l), ("i", i), ("t", t)]
def WG (n y l i t x j : Int) : Wd := [("n", n), ("z", 0), ("y", y), ("l", l), ("i", i), ("t", t), ("x", x), ("j", j)]
def argG (b : Bool) : List Str := ["j", if b then "x" else "t"]
section
variable {xs ys : List Int} {n y : Int}
theorem gr_start : turnT PGr "start" [] [("n", n)] (LA xs ys) = some (.on "loop" ["z", "y"] (WG0 n (n + 0) xs.length) (LA xs ys)) := by kernel_rfl
theorem gr_loop0 (l : Int) : turnT PGr "loop" ["z", "y"] (WG0 n y l) (LA xs ys) = if 0 < l then some (.on "body" [] (WG1 n y l 0 y) (LA xs ys)) else some (.on "out" [] (WG1 n y l 0 y) (LA xs ys)) := by kernel_rfl
theorem gr_loop (b : Bool) (l i t x j : Int) : turnT PGr "loop" (argG b) (WG n y l i t x j) (LA xs ys) = if j < l then some (.on "body" [] (WG n y l j (if b then x else t) x j) (LA xs ys)) else some (.on "out" [] (WG n y l j (if b then x else t) x j) (LA xs ys)) := by cases b <;> kernel_rfl
theorem gr_out0 (l t i : Int) : turnT PGr "out" [] (WG1 n y l i t) (LA xs ys) = some (.end_ (.value t (LA xs ys))) := by kernel_rfl
theorem gr_out (l i t x j : Int) : turnT PGr "out" [] (WG n y l i t x j) (LA xs ys) = some (.end_ (.value t (LA xs ys))) := by kernel_rfl
theorem gr_b : getP PGr.parts "body" = some ⟨"body", [], [.get "x" "a" "i", .move "j" "i" 1], .less "t" "x" "loop" ["j", "x"] "loop" ["j", "t"]⟩ := by kernel_rfl
theorem gr_rows {W W2 : Wd} {i : Nat} {v : Int} (h1 : getP W "i" = some (i : Int)) (hv : xs[i]? = some v) (e : ∀ m, rowsGo [.move "j" "i" 1] m (setP W "x" v) (LA xs ys) = some (.inr (W2, LA xs ys))) :
    rowsGo [.get "x" "a" "i", .move "j" "i" 1] 0 W (LA xs ys) = some (.inr (W2, LA xs ys)) := (r_get h1 (la_a xs ys) (by omega) (by simpa using hv)).trans (e _)
theorem gr_less {W : Wd} {t x : Int} (h1 : getP W "t" = some t) (h2 : getP W "x" = some x) (L : Ls) : finT ⟨"body", [], [.get "x" "a" "i", .move "j" "i" 1], .less "t" "x" "loop" ["j", "x"] "loop" ["j", "t"]⟩ "body" (.inr (W, L)) = some (.on "loop" (argG (decide (t < x))) W L) := by
  unfold finT
  simp only [h1, h2]
  by_cases h : t < x
  · rw [if_pos h, decide_eq_true h]; rfl
  · rw [if_neg h, decide_eq_false h]; rfl
theorem gr_body0 {l t : Int} {v : Int} (hv : xs[0]? = some v) : turnT PGr "body" [] (WG1 n y l 0 t) (LA xs ys) = some (.on "loop" (argG (decide (t < v))) (WG n y l 0 t v (0 + 1)) (LA xs ys)) :=
  (turn_of (vs := []) gr_b rfl (by simp [WG1]) (gr_rows (i := 0) (W2 := WG n y l 0 t v (0 + 1)) (by kernel_rfl) hv fun m => by kernel_rfl)).trans (gr_less (by kernel_rfl) (by kernel_rfl) _)
theorem gr_body {l t x j : Int} {i : Nat} {v : Int} (hv : xs[i]? = some v) : turnT PGr "body" [] (WG n y l i t x j) (LA xs ys) = some (.on "loop" (argG (decide (t < v))) (WG n y l i t v (i + 1)) (LA xs ys)) :=
  (turn_of (vs := []) gr_b rfl (by simp [WG]) (gr_rows (i := i) (W2 := WG n y l i t v (i + 1)) (by kernel_rfl) hv fun m => by kernel_rfl)).trans (gr_less (by kernel_rfl) (by kernel_rfl) _)
theorem gr_from (d : Nat) : ∀ (b : Bool) (j : Nat) (i t x : Int), xs.length = j + d → runT PGr (2 * d + 2) "loop" (argG b) (WG n y xs.length i t x j) (LA xs ys) = some (.value (mxI (fun b a => decide (b > a)) (if b then x else t) (xs.drop j)) (LA xs ys)) := by
  induction d with
  | zero =>
    intro b j i t x h
    have hn : ¬ (j : Int) < (xs.length : Int) := by omega
    rw [run_on ((gr_loop _ _ _ _ _ _).trans (if_neg hn)), run_end (gr_out _ _ _ _ _), List.drop_of_length_le (by omega)]
    rfl
  | succ d ih =>
    intro b j i t x h
    have hj : j < xs.length := by omega
    have hn : (j : Int) < (xs.length : Int) := by omega
    have e : 2 * (d + 1) + 2 = (2 * d + 2) + 1 + 1 := by omega
    rw [e, run_on ((gr_loop _ _ _ _ _ _).trans (if_pos hn)), run_on (gr_body (v := xs[j]) (List.getElem?_eq_getElem hj))]
    have := ih (decide ((if b then x else t) < xs[j])) (j + 1) j (if b then x else t) xs[j] (by omega)
    rw [show ((j + 1 : Nat) : Int) = (j : Int) + 1 by omega] at this
    rw [this, List.drop_eq_getElem_cons hj]
    conv => rhs; unfold mxI
    try rfl
theorem gr_run (hx : xs.length ≤ 90) : runT PGr 200 "start" [] [("n", n)] (LA xs ys) = some (.value (mxI (fun b a => decide (b > a)) n xs) (LA xs ys)) := by
  cases xs with
  | nil =>
    rw [run_on gr_start, run_on ((gr_loop0 _).trans (if_neg (by simp))), run_end (gr_out0 _ _ _), Int.add_zero]
    rfl
  | cons v tl =>
    rw [run_on gr_start, run_on ((gr_loop0 _).trans (if_pos (by simp <;> omega))), run_on (gr_body0 (v := v) rfl)]
    have := gr_from (n := n) (y := n + 0) (xs := v :: tl) (ys := ys) tl.length (decide (n + 0 < v)) 1 0 (n + 0) v (by simp <;> omega)
    have e := run_more (197 - (2 * tl.length + 2)) this
    rw [show 2 * tl.length + 2 + (197 - (2 * tl.length + 2)) = 197 by simp at hx; omega] at e
    rw [show ((0 : Int) + 1) = ((1 : Nat) : Int) by omega, e, Int.add_zero]
    conv => rhs; unfold mxI
    try rfl
end
end CKP

set_option Elab.async false
set_option linter.all false
set_option maxRecDepth 100000
set_option maxHeartbeats 400000
namespace CKP
open PySem PySem.Spec PyProof.Rows L2 Evl CI
/-! a list turned about in its place -/
def rowsT : List Rw := [.low "i", .high "k" "a", .get "x" "a" "i", .get "v" "a" "k", .put "a" "i" "v", .put "a" "k" "x"]
def PTu : Pg := ⟨["a", "b"], ["n"], [⟨"start", [], [.set "z" 0, .len "l" "a", .move "y" "l" (-1)], .go "loop" ["z", "y"]⟩, ⟨"loop", ["i", "k"], [], .less "i" "k" "body" [] "out" []⟩, ⟨"body", [], rowsT, .go "on" []⟩, ⟨"on", [], [.move "p" "i" 1, .move "q" "k" (-1)], .go "loop" ["p", "q"]⟩, ⟨"out", [], [], .ret "l"⟩]⟩
def WT0 (n l : Int) : Wd := [("n", n), ("z", 0), ("l", l), ("y", l + -1)]
def WT1 (n l i k : Int) : Wd := [("n", n), ("z", 0), ("l", l), ("y", l + -1), ("i", i), ("k", k)]
def WT2 (n l i k x v : Int) : Wd := [("n", n), ("z", 0), ("l", l), ("y", l + -1), ("i", i), ("k", k), ("x", x), ("v", v)]
def WT (n l i k x v p q : Int) : Wd := [("n", n), ("z", 0), ("l", l), ("y", l + -1), ("i", i), ("k", k), ("x", x), ("v", v), ("p", p), ("q", q)]
section
variable {xs ys zs : List Int} {n l i k x v p q : Int}
theorem tu_start : turnT PTu "start" [] [("n", n)] (LA xs ys) = some (.on "loop" ["z", "y"] (WT0 n xs.length) (LA xs ys)) := by kernel_rfl
theorem tu_loop0 : turnT PTu "loop" ["z", "y"] (WT0 n l) (LA xs ys) = if 0 < l + -1 then some (.on "body" [] (WT1 n l 0 (l + -1)) (LA xs ys)) else some (.on "out" [] (WT1 n l 0 (l + -1)) (LA xs ys)) := by kernel_rfl
theorem tu_loop : turnT PTu "loop" ["p", "q"] (WT n l i k x v p q) (LA xs ys) = if p < q then some (.on "body" [] (WT n l p q x v p q) (LA xs ys)) else some (.on "out" [] (WT n l p q x v p q) (LA xs ys)) := by kernel_rfl
theorem tu_out0 : turnT PTu "out" [] (WT1 n l i k) (LA xs ys) = some (.end_ (.value l (LA xs ys))) := by kernel_rfl
theorem tu_out : turnT PTu "out" [] (WT n l i k x v p q) (LA xs ys) = some (.end_ (.value l (LA xs ys))) := by kernel_rfl
theorem tu_on0 : turnT PTu "on" [] (WT2 n l i k x v) (LA xs ys) = some (.on "loop" ["p", "q"] (WT n l i k x v (i + 1) (k + -1)) (LA xs ys)) := by kernel_rfl
theorem tu_on : turnT PTu "on" [] (WT n l i k x v p q) (LA xs ys) = some (.on "loop" ["p", "q"] (WT n l i k x v (i + 1) (k + -1)) (LA xs ys)) := by kernel_rfl
theorem tu_b : getP PTu.parts "body" = some ⟨"body", [], rowsT, .go "on" []⟩ := by kernel_rfl
theorem tu_rows {W W1 W2 : Wd} {i k : Nat} {x v : Int} (h1 : getP W "i" = some (i : Int)) (h2 : getP W "k" = some (k : Int)) (hi : xs[i]? = some x) (hk : xs[k]? = some v)
    (e1 : setP W "x" x = W1) (h3 : getP W1 "k" = some (k : Int)) (e2 : setP W1 "v" v = W2) (h4 : getP W2 "i" = some (i : Int)) (h5 : getP W2 "k" = some (k : Int)) (h6 : getP W2 "v" = some v) (h7 : getP W2 "x" = some x) :
    rowsGo rowsT 0 W (LA xs ys) = some (.inr (W2, LA ((xs.set i v).set k x) ys)) := by
  have li := (List.getElem?_eq_some_iff.mp hi).1
  have lk := (List.getElem?_eq_some_iff.mp hk).1
  unfold rowsT
  rw [r_low h1 (by omega), r_high h2 (la_a xs ys) (by omega), r_get h1 (la_a xs ys) (by omega) (by simpa using hi), e1, r_get h3 (la_a xs ys) (by omega) (by simpa using hk), e2,
    r_put h4 (la_a xs ys) h6 (by omega) (by omega), la_sa, r_put h5 (la_a _ ys) h7 (by omega) (by rw [List.length_set]; omega), la_sa, Int.toNat_natCast, Int.toNat_natCast]
  rfl
theorem tu_body0 {i k : Nat} {x v : Int} (hi : xs[i]? = some x) (hk : xs[k]? = some v) : turnT PTu "body" [] (WT1 n l i k) (LA xs ys) = some (.on "on" [] (WT2 n l i k x v) (LA ((xs.set i v).set k x) ys)) :=
  turn_of (vs := []) tu_b rfl (by simp [WT1, rowsT]) (tu_rows (W1 := [("n", n), ("z", 0), ("l", l), ("y", l + -1), ("i", (i : Int)), ("k", (k : Int)), ("x", x)]) (by kernel_rfl) (by kernel_rfl) hi hk (by kernel_rfl) (by kernel_rfl) (by kernel_rfl) (by kernel_rfl) (by kernel_rfl) (by kernel_rfl) (by kernel_rfl))
theorem tu_body {i k : Nat} {x v x0 v0 : Int} (hi : xs[i]? = some x) (hk : xs[k]? = some v) : turnT PTu "body" [] (WT n l i k x0 v0 p q) (LA xs ys) = some (.on "on" [] (WT n l i k x v p q) (LA ((xs.set i v).set k x) ys)) :=
  turn_of (vs := []) tu_b rfl (by simp [WT, rowsT]) (tu_rows (W1 := WT n l i k x v0 p q) (by kernel_rfl) (by kernel_rfl) hi hk (by kernel_rfl) (by kernel_rfl) (by kernel_rfl) (by kernel_rfl) (by kernel_rfl) (by kernel_rfl) (by kernel_rfl))
/-- turned about at both ends -/
def RevTo (xs zs : List Int) (p : Nat) : Prop := zs.length = xs.length ∧ ∀ m, m < xs.length → zs[m]? = if m < p ∨ xs.length ≤ m + p then xs[xs.length - 1 - m]? else xs[m]?
theorem rev0 (xs : List Int) : RevTo xs xs 0 := ⟨rfl, fun m h => by rw [if_neg (by omega)]⟩
theorem rev_on {xs zs : List Int} {p : Nat} (h : RevTo xs zs p) (hp : 2 * p + 1 < xs.length) {x v : Int} (hx : zs[p]? = some x) (hv : zs[xs.length - 1 - p]? = some v) : RevTo xs ((zs.set p v).set (xs.length - 1 - p) x) (p + 1) := by
  have hx' : xs[p]? = some x := by
    have := h.2 p (by omega)
    rw [if_neg (by omega)] at this
    rw [← this]; exact hx
  have hv' : xs[xs.length - 1 - p]? = some v := by
    have := h.2 (xs.length - 1 - p) (by omega)
    rw [if_neg (by omega)] at this
    rw [← this]; exact hv
  refine ⟨by simp [h.1], fun m hm => ?_⟩
  have hl := h.1
  by_cases h1 : m = xs.length - 1 - p
  · subst h1
    rw [List.getElem?_set_self (by simp <;> omega), if_pos (by omega), show xs.length - 1 - (xs.length - 1 - p) = p by omega]
    exact hx'.symm
  · rw [List.getElem?_set_ne (fun e => h1 e.symm)]
    by_cases h2 : m = p
    · subst h2
      rw [List.getElem?_set_self (by omega), if_pos (by omega)]
      exact hv'.symm
    · rw [List.getElem?_set_ne (fun e => h2 e.symm), h.2 m hm]
      by_cases h3 : m < p ∨ xs.length ≤ m + p
      · rw [if_pos h3, if_pos (by omega)]
      · rw [if_neg h3, if_neg (by omega)]
theorem rev_end {xs zs : List Int} {p : Nat} (h : RevTo xs zs p) (hp : xs.length ≤ 2 * p + 1) : zs = xs.reverse := by
  apply List.ext_getElem?
  intro m
  by_cases hm : m < xs.length
  · rw [h.2 m hm, List.getElem?_reverse hm]
    by_cases h3 : m < p ∨ xs.length ≤ m + p
    · rw [if_pos h3]
    · rw [if_neg h3]
      congr 1
      omega
  · rw [List.getElem?_eq_none (by rw [h.1]; omega), List.getElem?_eq_none (by simp <;> omega)]
theorem tu_from (d : Nat) : ∀ (p : Nat) (i k x v q : Int) (zs : List Int) (e : Nat), RevTo xs zs p → xs.length ≤ 2 * p + 1 + 2 * d → q = (xs.length : Int) - 1 - p → runT PTu (3 * d + 2 + e) "loop" ["p", "q"] (WT n l i k x v p q) (LA zs ys) = some (.value l (LA xs.reverse ys)) := by
  induction d with
  | zero =>
    intro p i k x v q zs e h hd hq
    have hn : ¬ (p : Int) < q := by omega
    rw [show 3 * 0 + 2 + e = e + 1 + 1 by omega, run_on (tu_loop.trans (if_neg hn)), run_end tu_out, rev_end h (by omega)]
  | succ d ih =>
    intro p i k x v q zs e h hd hq
    by_cases hn : (p : Int) < q
    · have hl := h.1
      have h1 : p < zs.length := by omega
      have h2 : xs.length - 1 - p < zs.length := by omega
      have hq' : q = ((xs.length - 1 - p : Nat) : Int) := by omega
      have a1 : zs[p]? = some zs[p] := List.getElem?_eq_getElem h1
      have a2 : zs[xs.length - 1 - p]? = some zs[xs.length - 1 - p] := List.getElem?_eq_getElem h2
      rw [show 3 * (d + 1) + 2 + e = (3 * d + 2 + e) + 1 + 1 + 1 by omega, run_on (tu_loop.trans (if_pos hn)), hq', run_on (tu_body a1 a2), run_on tu_on]
      exact ih (p + 1) _ _ _ _ _ _ e (rev_on h (by omega) a1 a2) (by omega) (by omega)
    · rw [show 3 * (d + 1) + 2 + e = (3 * d + 3 + e) + 1 + 1 by omega, run_on (tu_loop.trans (if_neg hn)), run_end tu_out, rev_end h (by omega)]
theorem tu_run (hx : xs.length ≤ 90) : runT PTu 200 "start" [] [("n", n)] (LA xs ys) = some (.value xs.length (LA xs.reverse ys)) := by
  rw [run_on tu_start]
  by_cases hn : (0 : Int) < (xs.length : Int) + -1
  · have hq : (xs.length : Int) + -1 = ((xs.length - 1 : Nat) : Int) := by omega
    have h1 : 0 < xs.length := by omega
    have h2 : xs.length - 1 < xs.length := by omega
    have a1 : xs[0]? = some xs[0] := List.getElem?_eq_getElem h1
    have a2 : xs[xs.length - 1]? = some xs[xs.length - 1] := List.getElem?_eq_getElem h2
    rw [run_on (tu_loop0.trans (if_pos hn)), hq]
    have b0 := tu_body0 (n := n) (l := xs.length) (ys := ys) a1 a2
    rw [show ((0 : Nat) : Int) = 0 by rfl] at b0
    rw [run_on b0, run_on tu_on0]
    exact tu_from (xs := xs) 45 1 _ _ _ _ _ _ 59 (rev_on (rev0 xs) (by omega) a1 (by rw [Nat.sub_zero]; exact a2)) (by omega) (by omega)
  · rw [run_on (tu_loop0.trans (if_neg hn)), run_end tu_out0, ← rev_end (rev0 xs) (by omega)]
end
end CKP

set_option Elab.async false
set_option linter.all false
set_option maxRecDepth 100000
set_option maxHeartbeats 1000000
namespace CKP
open PySem PySem.Spec PyProof.Rows L2 Evl CI
/-! plain data is no other than itself -/
theorem toDs_ints : ∀ is : List Int, AV.toDs (is.map .int) = some (is.map .int)
  | [] => rfl
  | i :: is => by
    show (match AV.toD (.int i), AV.toDs (is.map .int) with
      | some d, some ds => some (d :: ds)
      | _, _ => none) = _
    rw [toDs_ints is]; rfl
theorem toDs_c {x : AV} {xs : List AV} {d : PyData} {ds : List PyData} (h : AV.toD x = some d) (h2 : AV.toDs xs = some ds) : AV.toDs (x :: xs) = some (d :: ds) := by
  conv => lhs; unfold AV.toDs
  simp only [h, h2]
theorem can_ints : ∀ ns : List Int, PyData.canLayAll0 (ns.map PyData.int) = true
  | [] => rfl
  | _ :: r => by simp [PyData.canLayAll0, PyData.canLay0, can_ints r]
theorem dep_ints : ∀ ns : List Int, PyData.depthAll (ns.map PyData.int) = 0
  | [] => rfl
  | _ :: r => by simp [PyData.depthAll, PyData.depth, dep_ints r]
theorem shaped_tup {ds : List PyData} (h1 : PyData.canLayAll0 ds = true) (h2 : PyData.depthAll ds ≤ 63) : SeqAt.shaped (.tuple ds) = true := by
  have c : PyData.canLay0 (.tuple ds) = true := by unfold PyData.canLay0; exact h1
  unfold SeqAt.shaped
  rw [c]
  have : PyData.depth (.tuple ds) ≤ 64 := by unfold PyData.depth; omega
  simpa using this
theorem data_tup {xs : List AV} {ds : List PyData} (S : Store) (h : AV.toDs xs = some ds) : dataOf (.tup xs) S = some (.tuple ds) := by
  show AV.toD (.tup xs) = _
  unfold AV.toD
  rw [h]; rfl
theorem ne_tup {xs : List AV} {ds : List PyData} (S : Store) (h : AV.toDs xs = some ds) (h1 : PyData.canLayAll0 ds = true) (h2 : PyData.depthAll ds ≤ 63) : gNe (.tup xs) (.tup xs) S = some (.ok (.bl false), S) := by
  have c : PyData.canLay0 (.tuple ds) = true := by unfold PyData.canLay0; exact h1
  have e := SeqAt.eqv_refl _ c
  unfold gNe eqM
  simp [AV.sc, data_tup S h, shaped_tup h1 h2, e]
theorem eq_tup {xs : List AV} {ds : List PyData} (S : Store) (h : AV.toDs xs = some ds) (h1 : PyData.canLayAll0 ds = true) (h2 : PyData.depthAll ds ≤ 63) : gEq (.tup xs) (.tup xs) S = some (.ok (.bl true), S) := by
  have c : PyData.canLay0 (.tuple ds) = true := by unfold PyData.canLay0; exact h1
  have e := SeqAt.eqv_refl _ c
  unfold gEq eqM
  simp [AV.sc, data_tup S h, shaped_tup h1 h2, e]
def valA (v : Int) (xs ys : List Int) : AV := .tup [.str "value", .int v, .tup [.tup (xs.map .int), .tup (ys.map .int)]]
def fltA (name : Str) (j : Int) (xs ys : List Int) : AV := .tup [.str "fault", .str name, .int j, .tup [.tup (xs.map .int), .tup (ys.map .int)]]
theorem toD_ints (is : List Int) : AV.toD (.tup (is.map .int)) = some (.tuple (is.map .int)) := by
  unfold AV.toD
  rw [toDs_ints]; rfl
theorem toDs2 (xs ys : List Int) : AV.toD (.tup [.tup (xs.map .int), .tup (ys.map .int)]) = some (.tuple [.tuple (xs.map .int), .tuple (ys.map .int)]) := by
  have b : AV.toDs [.tup (xs.map .int), .tup (ys.map .int)] = some [.tuple (xs.map .int), .tuple (ys.map .int)] := toDs_c (toD_ints xs) (toDs_c (toD_ints ys) rfl)
  unfold AV.toD
  rw [b]; rfl
/-- what is the same as itself, in any store -/
structure Same (x : AV) : Prop where
  ne : ∀ S, gNe x x S = some (.ok (.bl false), S)
  eq : ∀ S, gEq x x S = some (.ok (.bl true), S)
theorem same_tup {xs : List AV} {ds : List PyData} (h : AV.toDs xs = some ds) (h1 : PyData.canLayAll0 ds = true) (h2 : PyData.depthAll ds ≤ 63) : Same (.tup xs) := ⟨fun S => ne_tup S h h1 h2, fun S => eq_tup S h h1 h2⟩
theorem same_val (v : Int) (xs ys : List Int) : Same (valA v xs ys) := by
  refine same_tup (ds := [.str "value", .int v, .tuple [.tuple (xs.map .int), .tuple (ys.map .int)]]) ?_ ?_ ?_
  · exact toDs_c rfl (toDs_c rfl (toDs_c (toDs2 xs ys) rfl))
  · have : PyData.strOk ("value" : Str) = true := by decide +kernel
    simp [PyData.canLayAll0, PyData.canLay0, can_ints, this]
  · simp [PyData.depthAll, PyData.depth, dep_ints]
theorem same_flt (name : Str) (hn : PyData.strOk name = true) (j : Int) (xs ys : List Int) : Same (fltA name j xs ys) := by
  refine same_tup (ds := [.str "fault", .str name, .int j, .tuple [.tuple (xs.map .int), .tuple (ys.map .int)]]) ?_ ?_ ?_
  · exact toDs_c rfl (toDs_c rfl (toDs_c rfl (toDs_c (toDs2 xs ys) rfl)))
  · have : PyData.strOk ("fault" : Str) = true := by decide +kernel
    simp [PyData.canLayAll0, PyData.canLay0, can_ints, this, hn]
  · simp [PyData.depthAll, PyData.depth, dep_ints]
theorem eqStr (a b : Str) (S : Store) : gEq (.str a) (.str b) S = some (.ok (.bl (decide (a = b))), S) := by
  have e : scal (.str a) (.str b) = true := rfl
  simp [gEq, eqM, AV.sc, e]
theorem neStr (a b : Str) (S : Store) : gNe (.str a) (.str b) S = some (.ok (.bl (!decide (a = b))), S) := by
  have e : scal (.str a) (.str b) = true := rfl
  simp [gNe, eqM, AV.sc, e]
theorem ix0 (a : AV) (as : List AV) : atI (a :: as) 0 = some a := by
  simp [atI, ixN]
theorem ix1 (a b : AV) (as : List AV) : atI (a :: b :: as) 1 = some b := by
  have : (1 : Int) < (as.length : Int) + 1 + 1 := by omega
  simp [atI, ixN, this]
/-! lists in the store -/
section
variable {X : Store} {v : Nat} {zs : List Int}
theorem gets_at (h : X[v]? = some (.lst (zs.map .int))) : getS (.loc v) X = some (.ok (zs.map .int), X) := by
  unfold getS getL
  simp only [h]
theorem tup_at (h : X[v]? = some (.lst (zs.map .int))) : tupM [.loc v] X = some (.ok (.tup (zs.map .int)), X) := by
  unfold tupM
  simp only [ev_bind, gets_at h, ev_pure]
theorem list_at (h : X[v]? = some (.lst (zs.map .int))) : listM [.loc v] X = some (.ok (.loc X.length), X ++ [.lst (zs.map .int)]) := by
  unfold listM
  simp only [ev_bind, gets_at h, ev_new]
theorem len_ints (h : X[v]? = some (.lst (zs.map .int))) : lenM [.loc v] X = some (.ok (.int zs.length), X) := by
  have := len_at h
  rwa [List.length_map] at this
end
theorem forGo_nil {ai : AI} {step : AV → CI.Env → M Fl} {ρ : CI.Env} {S : Store} (hk : ai.ok S = true) : forGo ai step [] ρ S = some (.ok (.nx ρ), S) := by
  unfold forGo
  simp only [ev_bind, ev_chk hk, ev_pure]
theorem forGo_cons {ai : AI} {step : AV → CI.Env → M Fl} {x : AV} {xs : List AV} {ρ ρ' : CI.Env} {S S' : Store} (hk : ai.ok S = true) (h : step x ρ S = some (.ok (.nx ρ'), S')) : forGo ai step (x :: xs) ρ S = forGo ai step xs ρ' S' := by
  conv => lhs; unfold forGo
  simp only [ev_bind, ev_chk hk, h, forK]
/-! the well: a list that draws change in its place -/
def Wl (W : Nat) (S : Store) : Prop := ∃ a b c : Int, S[W]? = some (.lst [.int a, .int b, .int c])
def Kp (W : Nat) (S S' : Store) : Prop := S.length ≤ S'.length ∧ ∀ (n : Nat) (o : AO), n ≠ W → S[n]? = some o → S'[n]? = some o
theorem Kp.refl (W : Nat) (S : Store) : Kp W S S := ⟨Nat.le_refl _, fun _ _ _ h => h⟩
theorem Kp.trans {W : Nat} {S S1 S2 : Store} (a : Kp W S S1) (b : Kp W S1 S2) : Kp W S S2 := ⟨Nat.le_trans a.1 b.1, fun n o h e => b.2 n o h (a.2 n o h e)⟩
theorem Kp.app (W : Nat) (S G : Store) : Kp W S (S ++ G) := ⟨by simp, fun n o _ e => get_pre ⟨G, rfl⟩ e⟩
theorem Wl.app {W : Nat} {S : Store} (G : Store) (h : Wl W S) : Wl W (S ++ G) := let ⟨a, b, c, e⟩ := h; ⟨a, b, c, get_pre ⟨G, rfl⟩ e⟩
theorem Wl.lt {W : Nat} {S : Store} (h : Wl W S) : W < S.length := let ⟨_, _, _, e⟩ := h; (List.getElem?_eq_some_iff.mp e).1
theorem draw_kp {W : Nat} {S : Store} (h : Wl W S) {many : Int} (h0 : 0 < many) (h1 : many < 1073741824) :
    ∃ d S', m__law_draw [.loc W, .int many] S = some (.ok (.int d), S') ∧ 0 ≤ d ∧ d < many ∧ Kp W S S' ∧ Wl W S' := by
  obtain ⟨a, b, c, e⟩ := h
  obtain ⟨d, a', b', c', d0, d1, e1⟩ := draw_ok e h0 h1
  have hw := (List.getElem?_eq_some_iff.mp e).1
  refine ⟨d, _, e1, d0, d1, ⟨by simp, fun n o hn q => ?_⟩, a', b', c', List.getElem?_set_self hw⟩
  rw [List.getElem?_set_ne (fun z => hn z.symm)]
  exact q
/-- a comprehension of drawn ints -/
theorem lcGo_draw {W : Nat} {ai : AI} (hk : ∀ S, ai.ok S = true) {T : AV → M (Option AV)} (hT : ∀ x S, Wl W S → ∃ d S', T x S = some (.ok (some (.int d)), S') ∧ Kp W S S' ∧ Wl W S') :
    ∀ (xs : List AV) (acc : List Int) (S : Store), acc.length + xs.length ≤ 1000 → Wl W S → ∃ ds S', lcGo ai T xs (acc.map .int) S = some (.ok ((acc ++ ds).map .int), S') ∧ ds.length = xs.length ∧ Kp W S S' ∧ Wl W S'
  | [], acc, S, hl, h => ⟨[], S, by unfold lcGo; simp [ev_chk (hk S)], rfl, .refl _ _, h⟩
  | x :: xs, acc, S, hl, h => by
    obtain ⟨d, S1, e1, k1, w1⟩ := hT x S h
    obtain ⟨ds, S2, e2, h2, k2, w2⟩ := lcGo_draw hk hT xs (acc ++ [d]) S1 (by simp at hl ⊢; omega) w1
    refine ⟨d :: ds, S2, ?_, by simp [h2], k1.trans k2, w2⟩
    have hl' : (acc.map AV.int).length < 100000 := by simp at hl ⊢; omega
    unfold lcGo
    simp only [ev_bind, ev_chk (hk S), e1, ev_ite, if_pos hl']
    have : acc.map AV.int ++ [.int d] = (acc ++ [d]).map .int := by simp
    rw [this, e2]
    simp
theorem lc_draw {W : Nat} {w : CI.Env → M AI} {e : CI.Env → M AV} {ρ : CI.Env} {S S1 : Store} {n j : Nat} (hw : w ρ S = some (.ok ⟨nats 0 n, []⟩, S1)) (hn : n ≤ 1000) (w1 : Wl W S1) (hT : ∀ x S, Wl W S → ∃ d S', e ((wipeA ρ [j]).set j (some x)) S = some (.ok (.int d), S') ∧ Kp W S S' ∧ Wl W S') :
    ∃ (ds : List Int) (S' : Store) (l : Nat), mLc w (mgName j) mYes e [j] ρ S = some (.ok (.loc l), S') ∧ S'[l]? = some (.lst (ds.map .int)) ∧ ds.length = n ∧ Kp W S1 S' ∧ Wl W S' ∧ S1.length ≤ l := by
  obtain ⟨ds, S2, e2, h2, k2, w2⟩ := lcGo_draw (W := W) (ai := ⟨nats 0 n, []⟩) (fun S => rfl) (T := lcTurn (mgName j) mYes e (wipeA ρ [j])) (fun x S h => by
    obtain ⟨d, S', a, b, c⟩ := hT x S h
    refine ⟨d, S', ?_, b, c⟩
    unfold lcTurn
    simp [a]) (nats 0 n) [] S1 (by simp [nats]; omega) w1
  refine ⟨ds, S2 ++ [.lst (ds.map .int)], S2.length, ?_, last_at _ _, by rw [h2]; simp [nats], k2.trans (.app ..), w2.app _, k2.1⟩
  simp only [ev_lc, ev_bind, hw]
  simp only [List.map_nil, List.nil_append] at e2
  rw [e2]
  rfl
theorem well_ok (n : Int) (S : Store) : ∃ a b, m__law_well [.int n] S = some (.ok (.loc S.length), S ++ [.lst [.int a, .int b, .int 0]]) := by
  have b1 : bPow 10 18 = true := by decide +kernel
  have b2 : ∀ k : Bool, bMul n (if k = true then 1 else 0) = true := fun k => by
    unfold bMul
    refine decide_eq_true (.inr ?_)
    cases k <;> simp
  have a2 := b2 (decide (1000000000000000000 ≤ n))
  refine ⟨n * (if decide (1000000000000000000 ≤ n) = true then 1 else 0), n % 2147483629, ?_⟩
  refine fn_rt rfl ?_
  show msRet _ [some (.int n)] S = _
  simp only [ev_sret, ev_bind, ev_mlst, CI.ev_cons, CI.ev_nil, ev_mop, CI.ev_cb, CI.ev_var, CI.ev_c, List.getElem?_cons_zero, Option.join, Option.bind_some, id, ev_ofO, ev_pure, ev_intI, ev_I0, ev_intB, ev_I, b1, if_true]
  simp [a2] at *
  simp [a2]
theorem rng_nat {r : CI.Env → M (List AV)} {ρ : CI.Env} {S S1 : Store} {d : Int} (h : r ρ S = some (.ok [.int d], S1)) (h0 : 0 ≤ d) (h1 : d ≤ 100000) : mItA itRng r ρ S = some (.ok ⟨nats 0 d.toNat, []⟩, S1) := by
  refine mItA_ok h ?_
  have := itRng_ok d.toNat (by omega)
  rw [Int.toNat_of_nonneg h0] at this
  rw [this]; rfl
/-- one of some ints -/
theorem one_ints {W l : Nat} {S : Store} (h : Wl W S) (hl : l ≠ W) {is : List Int} (q : S[l]? = some (.lst (is.map .int))) (h0 : 0 < is.length) (h1 : is.length < 1000) :
    ∃ i ∈ is, ∃ S', m__law_one [.loc W, .loc l] S = some (.ok (.int i), S') ∧ Kp W S S' ∧ Wl W S' := by
  obtain ⟨k, S1, e1, k0, k1, kp, w1⟩ := draw_kp (many := is.length) h (by omega) (by omega)
  have q1 := kp.2 _ _ hl q
  have hk : k.toNat < is.length := by omega
  have hx : ixM (.loc l) (.int k) S1 = some (.ok (.int is[k.toNat]), S1) := by
    have e : ixN (is.map AV.int).length k = some k.toNat := by
      unfold ixN
      rw [if_pos k0, if_pos (by rw [List.length_map]; omega)]
    have : atI (is.map AV.int) k = some (.int is[k.toNat]) := by
      unfold atI
      rw [e]
      simp [hk]
    rw [ev_ixL q1, this]; rfl
  refine ⟨is[k.toNat], List.getElem_mem hk, S1, fn_rt rfl ?_, kp, w1⟩
  show msRet _ [some (.loc W), some (.loc l)] S = _
  simp only [ev_sret, ev_bind, ev_mop, CI.ev_cb, CI.ev_cons, CI.ev_nil, CI.ev_var, List.getElem?_cons_succ, List.getElem?_cons_zero, Option.join, Option.bind_some, id, ev_ofO, ev_pure, len_ints q, e1, hx]
/-! programs that are made of written things -/
def callS (o : Option (Except XV AV × Store)) : Store := match o with
  | some (_, S) => S
  | none => []
def callL (o : Option (Except XV AV × Store)) : Nat := match o with
  | some (.ok (.loc n), _) => n
  | _ => 0
def insAt (S : Store) (n : Nat) : List (Str × AV) := match S[n]? with
  | some (.ins 0 fs) => fs
  | _ => []
def locOf : Option AV → Nat
  | some (.loc q) => q
  | _ => 0
structure Made (f : List AV → M AV) (xs : List AV) (pg : Pg) : Prop where
  call : f xs [] = some (.ok (.loc (callL (f xs []))), callS (f xs []))
  pat : PAt (callS (f xs [])) (callL (f xs [])) pg
theorem made_of {f : List AV → M AV} {xs : List AV} {pg : Pg} (h1 : f xs [] = some (.ok (.loc (callL (f xs []))), callS (f xs []))) (h2 : (callS (f xs []))[callL (f xs [])]? = some (.ins 0 (insAt (callS (f xs [])) (callL (f xs [])))))
    (h3 : (insAt (callS (f xs [])) (callL (f xs []))).lookup ("lists" : Str) = some (strsE pg.lists)) (h4 : (insAt (callS (f xs [])) (callL (f xs []))).lookup ("numbers" : Str) = some (strsE pg.numbers))
    (h5 : (insAt (callS (f xs [])) (callL (f xs []))).lookup ("blocks" : Str) = some (.tup (pg.blocks.map Bk.e))) (h6 : (insAt (callS (f xs [])) (callL (f xs []))).lookup ("parts" : Str) = some (.loc (locOf ((insAt (callS (f xs [])) (callL (f xs []))).lookup ("parts" : Str)))))
    (h7 : (callS (f xs []))[locOf ((insAt (callS (f xs [])) (callL (f xs []))).lookup ("parts" : Str))]? = some (.dct (kvE Bk.e pg.parts) false)) : Made f xs pg := ⟨h1, ⟨_, _, h2, h3, h4, h5, h6, h7⟩⟩
theorem made_at {f : List AV → M AV} {xs : List AV} {pg : Pg} (h : Made f xs pg) (hf : Fd f) (hx : ∀ k, AV.shs k xs = xs) (S : Store) : ∃ p G, f xs S = some (.ok (.loc p), S ++ G) ∧ PAt (S ++ G) p pg := by
  obtain ⟨o', e1, e2⟩ := hf S.length xs S [] _ _ rfl h.call
  have e0 : S ++ shS S.length [] = S := by simp [shS]
  rw [e0, hx] at e1
  cases o' with
  | error y => exact e2.elim
  | ok y =>
    have e4 : y = .loc (callL (f xs []) + S.length) := by
      first | exact e2 | exact e2.symm
    subst e4
    exact ⟨_, _, e1, h.pat.sh S⟩
end CKP

set_option Elab.async false
set_option linter.all false
set_option maxRecDepth 100000
set_option maxHeartbeats 400000
namespace CKP
open PySem PySem.Spec PyProof.Rows L2 Evl CI
/-! the four programs are made -/
theorem made_sum (k : Bool) : Made m__law_sums [.bl k] (PSum k) := by
  cases k <;> exact made_of (by kernel_rfl) (by kernel_rfl) (by kernel_rfl) (by kernel_rfl) (by kernel_rfl) (by kernel_rfl) (by kernel_rfl)
theorem made_cop (k : Bool) : Made m__law_copies [.bl k] (PCop k) := by
  cases k <;> exact made_of (by kernel_rfl) (by kernel_rfl) (by kernel_rfl) (by kernel_rfl) (by kernel_rfl) (by kernel_rfl) (by kernel_rfl)
theorem made_gr : Made m__law_greatest [] PGr := made_of (by kernel_rfl) (by kernel_rfl) (by kernel_rfl) (by kernel_rfl) (by kernel_rfl) (by kernel_rfl) (by kernel_rfl)
theorem made_tu : Made m__law_turns [] PTu := made_of (by kernel_rfl) (by kernel_rfl) (by kernel_rfl) (by kernel_rfl) (by kernel_rfl) (by kernel_rfl) (by kernel_rfl)
theorem e_sum (k : Bool) (v : Int) (xs ys : List Int) : Rs.e (PSum k) (.value v (LA xs ys)) = valA v xs ys := by kernel_rfl
theorem e_cop (k : Bool) (v : Int) (xs ys : List Int) : Rs.e (PCop k) (.value v (LA xs ys)) = valA v xs ys := by kernel_rfl
theorem e_copF (k : Bool) (j : Nat) (xs ys : List Int) : Rs.e (PCop k) (.fault "body" j (LA xs ys)) = fltA "body" j xs ys := by kernel_rfl
theorem e_gr (v : Int) (xs ys : List Int) : Rs.e PGr (.value v (LA xs ys)) = valA v xs ys := by kernel_rfl
theorem e_tu (v : Int) (xs ys : List Int) : Rs.e PTu (.value v (LA xs ys)) = valA v xs ys := by kernel_rfl
/-- one of the programs -/
structure PgOk (pg : Pg) : Prop where
  l : pg.lists = (["a", "b"] : List Str)
  n : pg.numbers = (["n"] : List Str)
  b : ∃ b0 bs, pg.blocks = b0 :: bs ∧ b0.name = "start"
theorem nodup_ab : (["a", "b"] : List Str).Nodup := by decide +kernel
theorem w0_eq (i : Int) : setsGo [] ((["n"] : List Str).zip [i]) = ([(("n" : Str), i)] : Wd) := by kernel_rfl
theorem run_at {S : Store} {p : Nat} {pg : Pg} {ls : List AV} {xs ys : List Int} {n : Int} {res : Rs} (ok : PgOk pg) (hp : PAt S p pg) (hi : HasI S ls [xs, ys]) (hl : xs.length ≤ 90) (hy : ys.length ≤ 90) (h : runT pg 200 "start" [] [("n", n)] (LA xs ys) = some res) :
    ∃ G, m_run [.loc p, .tup ls, .tup [.int n], .int 200] S = some (.ok (res.e pg), S ++ G) := by
  obtain ⟨b0, bs, hb, hn⟩ := ok.b
  have hls := hi.len
  refine run_ok (is := [n]) (steps := 200) hp hi ?_ ?_ ?_ ?_ ?_ ?_ (by omega) (by omega) hb ?_
  · rw [ok.l, hls]; rfl
  · rw [ok.n]; rfl
  · rw [ok.l]; exact nodup_ab
  · rw [ok.l]; simp
  · rw [ok.n]; simp
  · intro v hv
    simp only [List.mem_cons, List.not_mem_nil, or_false] at hv
    rcases hv with rfl | rfl <;> omega
  · rw [hn, ok.l, ok.n, w0_eq]
    exact h
theorem pg_sum (k : Bool) : PgOk (PSum k) := ⟨rfl, rfl, _, _, rfl, rfl⟩
theorem pg_cop (k : Bool) : PgOk (PCop k) := ⟨rfl, rfl, _, _, rfl, rfl⟩
theorem pg_gr : PgOk PGr := ⟨rfl, rfl, _, _, rfl, rfl⟩
theorem pg_tu : PgOk PTu := ⟨rfl, rfl, _, _, rfl, rfl⟩
/-- the program is made, then run -/
theorem mrun {f : List AV → M AV} {as : List AV} {pg : Pg} {S : Store} {F : Nat} {xs ys : List Int} {n : Int} {res : Rs} (hm : Made f as pg) (hf : Fd f) (hx : ∀ k, AV.shs k as = as) (ok : PgOk pg) (hF : S[F]? = some (.lst (xs.map .int))) (hl : xs.length ≤ 90) (hy : ys.length ≤ 90) (h : runT pg 200 "start" [] [("n", n)] (LA xs ys) = some res) :
    ∃ p S1 G, f as S = some (.ok (.loc p), S1) ∧ m_run [.loc p, .tup [.loc F, .tup (ys.map .int)], .tup [.int n], .int 200] S1 = some (.ok (res.e pg), S ++ G) := by
  obtain ⟨p, G, e1, hp⟩ := made_at hm hf hx S
  have hi : HasI (S ++ G) [.loc F, .tup (ys.map .int)] [xs, ys] := ⟨gets_at (get_pre ⟨_, rfl⟩ hF), rfl, trivial⟩
  obtain ⟨G2, e2⟩ := run_at ok hp hi hl hy h
  exact ⟨p, S ++ G, G ++ G2, e1, by rw [e2, List.append_assoc]⟩
end CKP

set_option Elab.async false
set_option linter.all false
set_option maxRecDepth 100000
set_option maxHeartbeats 1000000
namespace CKP
open PySem PySem.Spec PyProof.Rows L2 Evl CI
/-! what is due of a copied list -/
/-- a comprehension over a list of the store, no test, no effects -/
theorem lc_loc {a e : CI.Env → M AV} {i : Nat} {vs : List Nat} {ρ : CI.Env} {S S1 : Store} {n : Nat} {xs : List AV} {f : AV → AV} (ha : a ρ S = some (.ok (.loc n), S1)) (hn : S1[n]? = some (.lst xs)) (he : ∀ x ∈ xs, e ((wipeA ρ vs).set i (some x)) S1 = some (.ok (f x), S1)) (hl : xs.length ≤ 100000) :
    mLc (mIt itAny a) (mgName i) mYes e vs ρ S = some (.ok (.loc S1.length), S1 ++ [.lst (xs.map f)]) := by
  have w : mIt itAny a ρ S = some (.ok ⟨xs, [(n, xs)]⟩, S1) := by
    simp only [ev_it, ev_bind, ha]
    unfold itAny itLst
    simp only [hn]
  simp only [ev_lc, ev_bind, w]
  rw [lcGo_pure (f := f) (ok_at hn) xs [] (fun x hx => ?_) (by simp; exact hl)]
  · simp
  · simp [lcTurn, he x hx]
theorem sIx_take (xs : List AV) (k : Nat) (h : k ≤ xs.length) : cutA xs none (some (k : Int)) = xs.take k := by
  unfold cutA
  rw [HT.sIx_none, HT.sIx_nat, Nat.min_eq_left h]
  simp
theorem sIx_drop (xs : List AV) (k : Nat) (h : k ≤ xs.length) : cutA xs (some (k : Int)) none = xs.drop k := by
  unfold cutA
  rw [HT.sIx_none, HT.sIx_nat, Nat.min_eq_left h]
  exact List.take_of_length_le (by simp)
theorem sl_at {S : Store} {n : Nat} {xs : List AV} (h : S[n]? = some (.lst xs)) (lo hi : Option Int) : slM (.loc n) lo hi S = some (.ok (.loc S.length), S ++ [.lst (cutA xs lo hi)]) := by
  unfold slM
  simp only [h]
theorem tupL_at {X : Store} {v : Nat} {xs : List AV} (h : X[v]? = some (.lst xs)) : tupM [.loc v] X = some (.ok (.tup xs), X) := by
  have e : getS (.loc v) X = some (.ok xs, X) := by
    unfold getS getL
    simp only [h]
  unfold tupM
  simp only [ev_bind, e, ev_pure]
theorem ne_nil {S : Store} {F q : Nat} {xs : List Int} (hF : S[F]? = some (.lst (xs.map .int))) (hq : S[q]? = some (.lst [])) : gNe (.loc F) (.loc q) S = some (.ok (.bl (!decide (xs = []))), S) := by
  have d1 : CI.dataOf (.loc F) S = some (.list (xs.map .int)) := by
    unfold CI.dataOf
    simp only [hF, toDs_ints, Option.map_some]
  have d2 : CI.dataOf (.loc q) S = some (.list []) := by
    unfold CI.dataOf
    simp only [hq]; rfl
  have s1 : SeqAt.shaped (.list (xs.map PyData.int)) = true := by
    simp [SeqAt.shaped, PyData.canLay0, PyData.depth, can_ints, dep_ints]
  have s2 : SeqAt.shaped (.list []) = true := by decide
  have e : PyData.eqv (.list (xs.map PyData.int)) (.list []) = decide (xs = []) := by
    cases xs <;> simp [PyData.eqv, PyData.eqvAll]
  unfold gNe eqM
  simp [AV.sc, d1, d2, s1, s2, e]
def dueC (spot : Nat) (n : Int) (xs ys : List Int) : AV := if ys.length < xs.length then fltA "body" spot xs (cells n xs ys ys.length) else valA (match xs.getLast? with | some v => v + n | none => 0) xs (cells n xs ys xs.length)
def copN : CI.Env → M Fl := (msSeq (msIte (mTest (mOp gLt (mVar 4) (mCb lenM (mCons (mVar 0) mNil))))
  (msRet (mTup (mCons (mC (.str "fault")) (mCons (mC (.str "body")) (mCons (mVar 3) (mCons (mTup (mCons (mCb tupM (mCons (mVar 0) mNil)) (mCons (mVar 5) mNil))) mNil))))))
  msNext)
  (msRet (mTup (mCons (mC (.str "value")) (mCons (mIfe (mTest (mOp gNe (mVar 0) (mLst mNil))) (mOp gAdd (mOp ixM (mVar 0) (mNeg (mC (.int 1)))) (mVar 2)) (mC (.int 0))) (mCons (mTup (mCons (mCb tupM (mCons (mVar 0) mNil)) (mCons (mVar 5) mNil))) mNil))))))
section
variable {S X : Store} {F O : Nat} {xs ys : List Int} {n : Int} {spot : Nat}
theorem copN_ok {m : Nat} {cs : List Int} (hF : X[F]? = some (.lst (xs.map .int))) (s1 s6 : Option AV) : ∃ G, copN [some (.loc F), s1, some (.int n), some (.int spot), some (.int m), some (.tup (cs.map .int)), s6] X
    = some (.ok (.rt (if m < xs.length then fltA "body" spot xs cs else valA (match xs.getLast? with | some v => v + n | none => 0) xs cs)), X ++ G) := by
  have l := len_ints hF
  have t := tup_at hF
  by_cases h : m < xs.length
  · refine ⟨[], ?_⟩
    have h' : (m : Int) < (xs.length : Int) := by omega
    rw [if_pos h, List.append_nil]
    unfold copN
    simp [l, t, h', fltA]
  · refine ⟨[.lst []], ?_⟩
    have h' : ¬ (m : Int) < (xs.length : Int) := by omega
    rw [if_neg h]
    have hF1 := get_pre (S := X ++ [.lst []]) ⟨_, rfl⟩ hF
    have t1 := tup_at hF1
    have nn := ne_nil hF1 (last_at X (.lst []))
    cases hx : xs with
    | nil =>
      subst hx
      simp only [decide_true, Bool.not_true] at nn
      unfold copN
      generalize hY : X ++ [.lst []] = Y at t1 nn
      have h0 : ¬ (m : Int) < 0 := by omega
      simp [l, hY, nn, t1, valA, h0]
    | cons x tl =>
      have hne : decide (xs = []) = false := by rw [hx]; rfl
      rw [hne] at nn
      obtain ⟨v, hv⟩ : ∃ v, xs.getLast? = some v := by
        cases e : xs.getLast? with
        | none => rw [List.getLast?_eq_none_iff] at e; rw [e] at hx; cases hx
        | some v => exact ⟨v, rfl⟩
      have hi : ixM (.loc F) (.int (-1)) (X ++ [.lst []]) = some (.ok (.int v), X ++ [.lst []]) := by
        have hl : xs.length = tl.length + 1 := by rw [hx]; rfl
        have e1 : ixN (xs.map AV.int).length (-1) = some (xs.length - 1) := by
          unfold ixN
          rw [if_neg (by omega), if_pos (by rw [List.length_map]; omega), List.length_map]
          congr 1
          omega
        have : atI (xs.map AV.int) (-1) = some (.int v) := by
          unfold atI
          rw [e1]
          rw [List.getLast?_eq_getElem?] at hv
          simp [hv]
        rw [ev_ixL hF1, this]; rfl
      rw [← hx, hv]
      unfold copN
      generalize hY : X ++ [.lst []] = Y at t1 nn hi
      simp [l, hY, nn, t1, hi, h', valA]
theorem copied_ok (hF : S[F]? = some (.lst (xs.map .int))) (hO : S[O]? = some (.lst (ys.map .int))) (hl : xs.length ≤ 90) (hy : ys.length ≤ 90) : ∃ G, m__law_copied [.loc F, .loc O, .int n, .int spot] S = some (.ok (dueC spot n xs ys), S ++ G) := by
  have l1 := len_ints hF
  have l2 := len_ints hO
  obtain ⟨m, hm, m1, m2, m3⟩ : ∃ m : Nat, (if decide ((ys.length : Int) < (xs.length : Int)) = true then (ys.length : Int) else (xs.length : Int)) = (m : Int) ∧ m = min xs.length ys.length ∧ m ≤ xs.length ∧ m ≤ ys.length := by
    by_cases h : ys.length < xs.length
    · exact ⟨ys.length, by simp [h], by omega, by omega, by omega⟩
    · exact ⟨xs.length, by simp; omega, by omega, by omega, by omega⟩
  have c1 : msAsg (mCb minM (mCons (mCb lenM (mCons (mVar 0) mNil)) (mCons (mCb lenM (mCons (mVar 1) mNil)) mNil))) (mgName 4) [some (.loc F), some (.loc O), some (.int n), some (.int spot), none, none, none] S = some (.ok (.nx [some (.loc F), some (.loc O), some (.int n), some (.int spot), some (.int m), none, none]), S) := by
    simp only [ev_sasg, ev_bind, CI.ev_cb, CI.ev_cons, CI.ev_nil, CI.ev_var, List.getElem?_cons_succ, List.getElem?_cons_zero, Option.join, Option.bind_some, id, ev_ofO, ev_pure, l1, l2, ev_min2, hm, ev_gname, List.set_cons_succ, List.set_cons_zero]
  have q1 : cutA (xs.map AV.int) none (some (m : Int)) = (xs.take m).map .int := by
    rw [sIx_take _ _ (by rw [List.length_map]; exact m2), List.map_take]
  have q2 : cutA (ys.map AV.int) (some (m : Int)) none = (ys.drop m).map .int := by
    rw [sIx_drop _ _ (by rw [List.length_map]; exact m3), List.map_drop]
  have a0 : mSl (mVar 0) mNoP (mPart (mVar 4)) [some (.loc F), some (.loc O), some (.int n), some (.int spot), some (.int m), none, none] S = some (.ok (.loc S.length), S ++ [.lst ((xs.take m).map .int)]) := by
    simp only [ev_sl, ev_bind, CI.ev_var, List.getElem?_cons_succ, List.getElem?_cons_zero, Option.join, Option.bind_some, id, ev_ofO, ev_noP, ev_part, ev_toI, ev_pure, sl_at hF, q1]
  have a1 := lc_loc (vs := [6]) (i := 6) (e := mOp gAdd (mVar 6) (mVar 2)) (f := fun x => match x with | .int v => .int (v + n) | x => x) a0 (last_at _ _) (fun x hx => by
    obtain ⟨v, _, rfl⟩ := List.mem_map.mp hx
    rfl) (by simp; omega)
  rw [List.map_map] at a1
  have q3 : (xs.take m).map ((fun x => match x with | .int v => .int (v + n) | x => x) ∘ AV.int) = ((xs.take m).map (· + n)).map AV.int := by
    rw [List.map_map]; rfl
  rw [q3] at a1
  have t1 := tupL_at (last_at (S ++ [.lst ((xs.take m).map .int)]) (.lst (((xs.take m).map (· + n)).map AV.int)))
  have hO1 := get_pre (S := S ++ [.lst ((xs.take m).map .int)] ++ [.lst (((xs.take m).map (· + n)).map AV.int)]) ⟨_, rfl⟩ (get_pre (S := S ++ [.lst ((xs.take m).map .int)]) ⟨_, rfl⟩ hO)
  have hF1 := get_pre (S := S ++ [.lst ((xs.take m).map .int)] ++ [.lst (((xs.take m).map (· + n)).map AV.int)]) ⟨_, rfl⟩ (get_pre (S := S ++ [.lst ((xs.take m).map .int)]) ⟨_, rfl⟩ hF)
  obtain ⟨G1, hG1⟩ : ∃ G1, S ++ [.lst ((xs.take m).map .int)] ++ [.lst (((xs.take m).map (· + n)).map AV.int)] = S ++ G1 := ⟨_, List.append_assoc _ _ _⟩
  rw [hG1] at a1 t1 hO1 hF1
  have a2 := sl_at hO1 (some (m : Int)) none
  rw [q2] at a2
  have t2 := tupL_at (last_at (S ++ G1) (.lst ((ys.drop m).map AV.int)))
  have q4 : ((xs.take m).map (· + n)).map AV.int ++ (ys.drop m).map AV.int = (cells n xs ys m).map AV.int := by
    unfold cells
    rw [List.map_append]
  have c2 : msAsg (mOp gAdd (mCb tupM (mCons (mLc (mIt itAny (mSl (mVar 0) mNoP (mPart (mVar 4)))) (mgName 6) mYes (mOp gAdd (mVar 6) (mVar 2)) [6]) mNil)) (mCb tupM (mCons (mSl (mVar 1) (mPart (mVar 4)) mNoP) mNil))) (mgName 5) [some (.loc F), some (.loc O), some (.int n), some (.int spot), some (.int m), none, none] S
      = some (.ok (.nx [some (.loc F), some (.loc O), some (.int n), some (.int spot), some (.int m), some (.tup ((cells n xs ys m).map .int)), none]), S ++ G1 ++ [.lst ((ys.drop m).map .int)]) := by
    have le : (((xs.take m).map (· + n)).map AV.int).length + ((ys.drop m).map AV.int).length ≤ 100000 := by simp; omega
    simp only [ev_sasg, ev_bind, ev_mop, CI.ev_cb, CI.ev_cons, CI.ev_nil, a1, t1, ev_sl, CI.ev_var, List.getElem?_cons_succ, List.getElem?_cons_zero, Option.join, Option.bind_some, id, ev_ofO, ev_noP, ev_part, ev_toI, ev_pure, a2, t2, ev_addT, ev_ite, if_pos le, q4, ev_gname, List.set_cons_succ, List.set_cons_zero]
  obtain ⟨G2, e3⟩ := copN_ok (spot := spot) (n := n) (m := m) (cs := cells n xs ys m) (get_pre (S := S ++ G1 ++ [.lst ((ys.drop m).map .int)]) ⟨_, rfl⟩ hF1) (some (.loc O)) none
  refine ⟨G1 ++ [.lst ((ys.drop m).map .int)] ++ G2, fn_rt rfl ?_⟩
  show msSeq _ (msSeq _ copN) [some (.loc F), some (.loc O), some (.int n), some (.int spot), none, none, none] S = _
  rw [seq_nx c1, seq_nx c2, e3]
  have ed : (if m < xs.length then fltA "body" spot xs (cells n xs ys m) else valA (match xs.getLast? with | some v => v + n | none => 0) xs (cells n xs ys m)) = dueC spot n xs ys := by
    unfold dueC
    by_cases h : ys.length < xs.length
    · have : m = ys.length := by omega
      rw [if_pos (by omega), if_pos h, this]
    · have : m = xs.length := by omega
      rw [if_neg (by omega), if_neg h, this]
  rw [ed]
  simp only [List.append_assoc]
end
end CKP

set_option Elab.async false
set_option linter.all false
set_option maxRecDepth 100000
set_option maxHeartbeats 1000000
namespace CKP
open PySem PySem.Spec PyProof.Rows L2 Evl CI
/-! what is drawn -/
theorem wipe0 {ρ : CI.Env} {x : AV} {i j W : Nat} (hij : i ≠ j) (h2 : ρ[i]? = some (some (.loc W))) : ((wipeA ρ [j]).set j (some x))[i]? = some (some (.loc W)) := by
  show ((ρ.set j none).set j (some x))[i]? = _
  rw [List.getElem?_set_ne (fun e => hij e.symm), List.getElem?_set_ne (fun e => hij e.symm)]
  exact h2
theorem drawE_ok {i W : Nat} {S : Store} {ρ : CI.Env} {e : CI.Env → M AV} {k : Int} (h : Wl W S) (h2 : ρ[i]? = some (some (.loc W))) (he : e ρ S = some (.ok (.int k), S)) (h0 : 0 < k) (h1 : k < 1073741824) :
    ∃ d S', mCb m__law_draw (mCons (mVar i) (mCons e mNil)) ρ S = some (.ok (.int d), S') ∧ 0 ≤ d ∧ d < k ∧ Kp W S S' ∧ Wl W S' := by
  obtain ⟨d, S', e1, r⟩ := draw_kp h h0 h1
  refine ⟨d, S', ?_, r⟩
  simp only [CI.ev_cb, ev_bind, CI.ev_cons, CI.ev_nil, CI.ev_var, h2, Option.join, Option.bind_some, id, ev_ofO, he, ev_pure, e1]
theorem pow6 (ρ : CI.Env) (S : Store) : mOp gPow (mC (.int 10)) (mC (.int 6)) ρ S = some (.ok (.int 1000000), S) := by
  have b1 : bPow 10 6 = true := by decide +kernel
  simp [b1]
/-- one of a list of ints that is built for it -/
theorem pick_ok {W : Nat} {S S1 : Store} {ρ : CI.Env} {l : CI.Env → M (List AV)} {is : List Int} (h2 : ρ[0]? = some (some (.loc W))) (hl : l ρ S = some (.ok (is.map .int), S1)) (w1 : Wl W S1) (h0 : 0 < is.length) (h1 : is.length < 1000) :
    ∃ i ∈ is, ∃ S', mCb m__law_one (mCons (mVar 0) (mCons (mLst l) mNil)) ρ S = some (.ok (.int i), S') ∧ Kp W S1 S' ∧ Wl W S' := by
  have hw := w1.lt
  obtain ⟨i, hi, S2, e2, k2, w2⟩ := one_ints (l := S1.length) (S := S1 ++ [.lst (is.map .int)]) (w1.app _) (by omega) (last_at _ _) h0 h1
  refine ⟨i, hi, S2, ?_, (Kp.app _ _ _).trans k2, w2⟩
  have le : (is.map AV.int).length ≤ 100000 := by simp; omega
  simp only [CI.ev_cb, ev_bind, CI.ev_cons, CI.ev_nil, CI.ev_var, h2, Option.join, Option.bind_some, id, ev_ofO, ev_mlst, hl, ev_ite, if_pos le, ev_new, ev_pure, e2]
def oneE : CI.Env → M AV := (mLc (mItA itRng (mCons (mCb m__law_one (mCons (mVar 0) (mCons (mLst (mCons (mC (.int 0)) (mCons (mC (.int 1)) (mCons (mC (.int 50)) (mCons (mCb m__law_draw (mCons (mVar 0) (mCons (mC (.int 51)) mNil))) mNil))))) mNil))) mNil)) (mgName 8) mYes (mOp gSub (mCb m__law_draw (mCons (mVar 0) (mCons (mOp gPow (mC (.int 10)) (mC (.int 6))) mNil))) (mC (.int 500000))) [8])
def othE : CI.Env → M AV := (mLc (mItA itRng (mCons (mCb m__law_one (mCons (mVar 0) (mCons (mLst (mCons (mCb lenM (mCons (mVar 1) mNil)) (mCons (mCb lenM (mCons (mVar 1) mNil)) (mCons (mCb m__law_draw (mCons (mVar 0) (mCons (mC (.int 51)) mNil))) mNil)))) mNil))) mNil)) (mgName 8) mYes (mCb m__law_draw (mCons (mVar 0) (mCons (mC (.int 9)) mNil))) [8])
section
variable {W : Nat} {S : Store} {ρ : CI.Env}
theorem oneE_ok (h : Wl W S) (h2 : ρ[0]? = some (some (.loc W))) : ∃ (xs : List Int) (S' : Store) (l : Nat), oneE ρ S = some (.ok (.loc l), S') ∧ S'[l]? = some (.lst (xs.map .int)) ∧ xs.length ≤ 50 ∧ Kp W S S' ∧ Wl W S' ∧ S.length ≤ l := by
  obtain ⟨d, S1, e1, d0, d1, k1, w1⟩ := drawE_ok (e := mC (.int 51)) (k := 51) h h2 rfl (by omega) (by omega)
  have hl : mCons (mC (.int 0)) (mCons (mC (.int 1)) (mCons (mC (.int 50)) (mCons (mCb m__law_draw (mCons (mVar 0) (mCons (mC (.int 51)) mNil))) mNil))) ρ S = some (.ok (([0, 1, 50, d] : List Int).map .int), S1) := by
    rw [CI.ev_cons]
    simp only [ev_bind, CI.ev_c, CI.ev_cons, e1, CI.ev_nil, ev_pure]
    rfl
  obtain ⟨i, hi, S2, e2, k2, w2⟩ := pick_ok h2 hl w1 (by simp) (by simp)
  have hi' : 0 ≤ i ∧ i ≤ 50 := by
    simp only [List.mem_cons, List.not_mem_nil, or_false] at hi
    omega
  have hr : mCons (mCb m__law_one (mCons (mVar 0) (mCons (mLst (mCons (mC (.int 0)) (mCons (mC (.int 1)) (mCons (mC (.int 50)) (mCons (mCb m__law_draw (mCons (mVar 0) (mCons (mC (.int 51)) mNil))) mNil))))) mNil))) mNil ρ S = some (.ok [.int i], S2) := by
    rw [CI.ev_cons, ev_bind, e2]
    simp only [ev_bind, CI.ev_nil, ev_pure]
  obtain ⟨ds, S3, l, e3, g3, hd, k3, w3, l3⟩ := lc_draw (W := W) (j := 8) (e := mOp gSub (mCb m__law_draw (mCons (mVar 0) (mCons (mOp gPow (mC (.int 10)) (mC (.int 6))) mNil))) (mC (.int 500000))) (rng_nat hr hi'.1 (by omega)) (by omega) w2 (fun x S h => by
    obtain ⟨d, S1, e1, _, _, k1, w1⟩ := drawE_ok (ρ := (wipeA ρ [8]).set 8 (some x)) (e := mOp gPow (mC (.int 10)) (mC (.int 6))) (k := 1000000) h (wipe0 (by omega) h2) (pow6 _ _) (by omega) (by omega)
    exact ⟨d - 500000, S1, by simp only [ev_mop (gSub), ev_bind, e1, CI.ev_c]; rfl, k1, w1⟩)
  exact ⟨ds, S3, l, e3, g3, by omega, k1.trans (k2.trans k3), w3, Nat.le_trans k1.1 (Nat.le_trans k2.1 l3)⟩
theorem othE_ok {F : Nat} {xs : List Int} (h : Wl W S) (h2 : ρ[0]? = some (some (.loc W))) (h3 : ρ[1]? = some (some (.loc F))) (hF : S[F]? = some (.lst (xs.map .int))) (hx : xs.length ≤ 50) : ∃ (ys : List Int) (S' : Store) (l : Nat), othE ρ S = some (.ok (.loc l), S') ∧ S'[l]? = some (.lst (ys.map .int)) ∧ ys.length ≤ 50 ∧ Kp W S S' ∧ Wl W S' ∧ S.length ≤ l := by
  obtain ⟨d, S1, e1, d0, d1, k1, w1⟩ := drawE_ok (e := mC (.int 51)) (k := 51) h h2 rfl (by omega) (by omega)
  have ln := len_ints hF
  have hl : mCons (mCb lenM (mCons (mVar 1) mNil)) (mCons (mCb lenM (mCons (mVar 1) mNil)) (mCons (mCb m__law_draw (mCons (mVar 0) (mCons (mC (.int 51)) mNil))) mNil)) ρ S = some (.ok (([(xs.length : Int), (xs.length : Int), d] : List Int).map .int), S1) := by
    have a : mCb lenM (mCons (mVar 1) mNil) ρ S = some (.ok (.int xs.length), S) := by
      simp only [CI.ev_cb, ev_bind, CI.ev_cons, CI.ev_nil, CI.ev_var, h3, Option.join, Option.bind_some, id, ev_ofO, ev_pure, ln]
    rw [CI.ev_cons]
    simp only [ev_bind, a]
    rw [CI.ev_cons]
    simp only [ev_bind, a, CI.ev_cons, e1, CI.ev_nil, ev_pure]
    rfl
  obtain ⟨i, hi, S2, e2, k2, w2⟩ := pick_ok h2 hl w1 (by simp) (by simp)
  have hi' : 0 ≤ i ∧ i ≤ 50 := by
    simp only [List.mem_cons, List.not_mem_nil, or_false] at hi
    omega
  have hr : mCons (mCb m__law_one (mCons (mVar 0) (mCons (mLst (mCons (mCb lenM (mCons (mVar 1) mNil)) (mCons (mCb lenM (mCons (mVar 1) mNil)) (mCons (mCb m__law_draw (mCons (mVar 0) (mCons (mC (.int 51)) mNil))) mNil)))) mNil))) mNil ρ S = some (.ok [.int i], S2) := by
    rw [CI.ev_cons, ev_bind, e2]
    simp only [ev_bind, CI.ev_nil, ev_pure]
  obtain ⟨ds, S3, l, e3, g3, hd, k3, w3, l3⟩ := lc_draw (W := W) (j := 8) (e := mCb m__law_draw (mCons (mVar 0) (mCons (mC (.int 9)) mNil))) (rng_nat hr hi'.1 (by omega)) (by omega) w2 (fun x S h => by
    obtain ⟨d, S1, e1, _, _, k1, w1⟩ := drawE_ok (ρ := (wipeA ρ [8]).set 8 (some x)) (e := mC (.int 9)) (k := 9) h (wipe0 (by omega) h2) rfl (by omega) (by omega)
    exact ⟨d, S1, e1, k1, w1⟩)
  exact ⟨ds, S3, l, e3, g3, by omega, k1.trans (k2.trans k3), w3, Nat.le_trans k1.1 (Nat.le_trans k2.1 l3)⟩
end
end CKP

set_option Elab.async false
set_option linter.all false
set_option maxRecDepth 100000
set_option maxHeartbeats 1000000
namespace CKP
open PySem PySem.Spec PyProof.Rows L2 Evl CI
theorem intsOf_map : ∀ xs : List Int, intsOf (xs.map .int) = some xs
  | [] => rfl
  | x :: xs => by
    show (intsOf (xs.map .int)).map _ = _
    rw [intsOf_map xs]; rfl
theorem sum_at {S : Store} {F : Nat} {xs : List Int} (hF : S[F]? = some (.lst (xs.map .int))) : sumM [.loc F] S = some (.ok (.int xs.sum), S) := by
  have g : getL (.loc F) S = some (.ok (xs.map .int), S) := by
    unfold getL; simp only [hF]
  show M.bind _ _ _ = _
  unfold M.bind
  rw [g]
  simp only [intsOf_map]
  rfl
theorem max_at {S : Store} {F : Nat} {x : Int} {xs : List Int} (hF : S[F]? = some (.lst ((x :: xs).map .int))) : maxM [.loc F] S = some (.ok (.int (mxI (fun b a => decide (b > a)) x xs)), S) := by
  have g : getL (.loc F) S = some (.ok ((x :: xs).map .int), S) := by
    unfold getL; simp only [hF]
  show M.bind _ _ _ = _
  unfold M.bind
  rw [g]
  simp only [intsOf_map]
  rfl
def er (W F O : Nat) (xs ys : List Int) (n : Int) (s4 s7 s8 : Option AV) : CI.Env := [some (.loc W), some (.loc F), some (.loc O), some (.tup [.tup (xs.map .int), .tup (ys.map .int)]), s4, some (.int n), some (.tup [.loc F, .tup (ys.map .int)]), s7, s8]
def runE (f : List AV → M AV) (as : CI.Env → M (List AV)) : CI.Env → M AV := mCallD m_run da_run (mCons (mCb f as) (mCons (mVar 6) (mCons (mTup (mCons (mVar 5) mNil)) mNil)))
section
variable {W F O : Nat} {xs ys : List Int} {n : Int} {s4 s7 s8 : Option AV} {S : Store}
theorem runE_ok {f : List AV → M AV} {ae : CI.Env → M (List AV)} {as : List AV} {pg : Pg} {res : Rs} (ha : ae (er W F O xs ys n s4 s7 s8) S = some (.ok as, S)) (hm : Made f as pg) (hf : Fd f) (hx : ∀ k, AV.shs k as = as) (ok : PgOk pg) (hF : S[F]? = some (.lst (xs.map .int))) (hl : xs.length ≤ 50) (hy : ys.length ≤ 50) (h : runT pg 200 "start" [] [("n", n)] (LA xs ys) = some res) :
    ∃ G, runE f ae (er W F O xs ys n s4 s7 s8) S = some (.ok (res.e pg), S ++ G) := by
  obtain ⟨p, S1, G, e1, e2⟩ := mrun hm hf hx ok hF (by omega) (by omega) h
  refine ⟨G, ?_⟩
  have d : da_run = [.int 200] := rfl
  have a1 : mCb f ae (er W F O xs ys n s4 s7 s8) S = some (.ok (.loc p), S1) := by
    simp only [CI.ev_cb, ev_bind, ha, e1]
  unfold runE
  simp only [ev_callD, ev_bind, CI.ev_cons, CI.ev_nil, a1]
  simp only [er, CI.ev_var, CI.ev_cons, CI.ev_nil, ev_mtup, ev_bind, List.getElem?_cons_succ, List.getElem?_cons_zero, Option.join, Option.bind_some, id, ev_ofO, ev_pure, d, List.cons_append, List.nil_append, ev_ite, List.length_cons, List.length_nil]
  rw [if_pos (by omega)]
  exact e2
def neIte (a b : CI.Env → M AV) : CI.Env → M Fl := msIte (mTest (mOp gNe a b)) (msRet (mC (.bl false))) msNext
theorem neIte_ok {a b : CI.Env → M AV} {ρ : CI.Env} {S1 S2 : Store} {x : AV} (ha : a ρ S = some (.ok x, S1)) (hb : b ρ S1 = some (.ok x, S2)) (hx : Same x) : neIte a b ρ S = some (.ok (.nx ρ), S2) := by
  have h := hx.ne S2
  unfold neIte
  simp only [ev_site, ev_bind, ev_test, ev_mop, ha, hb, h, ev_toB, ev_pure, Bool.false_eq_true, if_false, ev_snext]
def bodyL : CI.Env → M Fl := (msSeq (neIte (runE m__law_sums (mCons (mVar 4) mNil)) (mTup (mCons (mC (.str "value")) (mCons (mCb sumM (mCons (mVar 1) mNil)) (mCons (mVar 3) mNil)))))
  (msSeq (msAsg (mCb m__law_copied (mCons (mVar 1) (mCons (mVar 2) (mCons (mVar 5) (mCons (mIfe (mTest (mVar 4)) (mC (.int 3)) (mC (.int 2))) mNil))))) (mgName 7))
  (neIte (runE m__law_copies (mCons (mVar 4) mNil)) (mVar 7))))
theorem same_due (spot : Nat) : Same (dueC spot n xs ys) := by
  have : PyData.strOk ("body" : Str) = true := by decide +kernel
  unfold dueC
  split
  · exact same_flt _ this _ _ _
  · exact same_val _ _ _
theorem bodyL_ok (k : Bool) (hF : S[F]? = some (.lst (xs.map .int))) (hO : S[O]? = some (.lst (ys.map .int))) (hl : xs.length ≤ 50) (hy : ys.length ≤ 50) : ∃ G t7, bodyL (er W F O xs ys n (some (.bl k)) s7 s8) S = some (.ok (.nx (er W F O xs ys n (some (.bl k)) t7 s8)), S ++ G) := by
  obtain ⟨G1, e1⟩ := runE_ok (W := W) (O := O) (s4 := some (.bl k)) (s7 := s7) (s8 := s8) (ae := mCons (mVar 4) mNil) (as := [.bl k]) rfl (made_sum k) fr__law_sums (fun _ => rfl) (pg_sum k) hF hl hy (sum_run (n := n) (by omega))
  rw [e_sum] at e1
  have hF1 := get_pre (S := S ++ G1) ⟨_, rfl⟩ hF
  have hO1 := get_pre (S := S ++ G1) ⟨_, rfl⟩ hO
  have v1 : mTup (mCons (mC (.str "value")) (mCons (mCb sumM (mCons (mVar 1) mNil)) (mCons (mVar 3) mNil))) (er W F O xs ys n (some (.bl k)) s7 s8) (S ++ G1) = some (.ok (valA xs.sum xs ys), S ++ G1) := by
    have := sum_at hF1
    simp only [ev_mtup, ev_bind, CI.ev_cons, CI.ev_c, CI.ev_cb, CI.ev_nil, er, CI.ev_var, List.getElem?_cons_succ, List.getElem?_cons_zero, Option.join, Option.bind_some, id, ev_ofO, ev_pure, this, ev_ite, List.length_cons, List.length_nil]
    rw [if_pos (by omega)]
    rfl
  have c1 := neIte_ok e1 v1 (same_val _ _ _)
  obtain ⟨G2, e2⟩ := copied_ok (n := n) (spot := spotC k) hF1 hO1 (by omega) (by omega)
  have c2 : msAsg (mCb m__law_copied (mCons (mVar 1) (mCons (mVar 2) (mCons (mVar 5) (mCons (mIfe (mTest (mVar 4)) (mC (.int 3)) (mC (.int 2))) mNil))))) (mgName 7) (er W F O xs ys n (some (.bl k)) s7 s8) (S ++ G1)
      = some (.ok (.nx (er W F O xs ys n (some (.bl k)) (some (dueC (spotC k) n xs ys)) s8)), S ++ G1 ++ G2) := by
    have a : mIfe (mTest (mVar 4)) (mC (.int 3)) (mC (.int 2)) (er W F O xs ys n (some (.bl k)) s7 s8) (S ++ G1) = some (.ok (.int (spotC k)), S ++ G1) := by cases k <;> rfl
    simp only [ev_sasg, ev_bind, CI.ev_cb, CI.ev_cons, a]
    simp only [er, ev_bind, CI.ev_cons, CI.ev_nil, CI.ev_var, List.getElem?_cons_succ, List.getElem?_cons_zero, Option.join, Option.bind_some, id, ev_ofO, ev_pure] at a ⊢
    simp only [a, e2, ev_gname, List.set_cons_succ, List.set_cons_zero]
  have hF2 := get_pre (S := S ++ G1 ++ G2) ⟨_, rfl⟩ hF1
  obtain ⟨G3, e3⟩ := runE_ok (W := W) (O := O) (s4 := some (.bl k)) (s7 := some (dueC (spotC k) n xs ys)) (s8 := s8) (ae := mCons (mVar 4) mNil) (as := [.bl k]) rfl (made_cop k) fr__law_copies (fun _ => rfl) (pg_cop k) hF2 hl hy (cop_run (k := k) (n := n) (by omega))
  have er' : Rs.e (PCop k) (if ys.length < xs.length then .fault "body" (spotC k) (LA xs (cells n xs ys ys.length)) else .value (match xs.getLast? with | some v => v + n | none => 0) (LA xs (cells n xs ys xs.length))) = dueC (spotC k) n xs ys := by
    unfold dueC
    split
    · exact e_copF _ _ _ _
    · exact e_cop _ _ _ _
  have e3' := e3.trans (congrArg (fun z => some (Except.ok z, S ++ G1 ++ G2 ++ G3)) er')
  have c3 := neIte_ok (b := mVar 7) e3' (x := dueC (spotC k) n xs ys) (S2 := S ++ G1 ++ G2 ++ G3) rfl (same_due _)
  refine ⟨G1 ++ G2 ++ G3, some (dueC (spotC k) n xs ys), ?_⟩
  unfold bodyL
  rw [seq_nx c1, seq_nx c2, c3]
  simp only [List.append_assoc]
end
end CKP

set_option Elab.async false
set_option linter.all false
set_option maxRecDepth 100000
set_option maxHeartbeats 1000000
namespace CKP
open PySem PySem.Spec PyProof.Rows L2 Evl CI
def rightN : CI.Env → M Fl := (msSeq (msAsg (mTup (mCons (mCb tupM (mCons (mVar 1) mNil)) (mCons (mCb tupM (mCons (mVar 2) mNil)) mNil))) (mgName 3))
  (msSeq (msLoop (mIt itAny (mTup (mCons (mC (.bl true)) (mCons (mC (.bl false)) mNil)))) (mgName 4) bodyL)
  (msSeq (neIte (runE m__law_greatest mNil) (mTup (mCons (mC (.str "value")) (mCons (mCb maxM (mCons (mOp gAdd (mLst (mCons (mVar 5) mNil)) (mVar 1)) mNil)) (mCons (mVar 3) mNil)))))
  (msRet (mOp gEq (runE m__law_turns mNil) (mTup (mCons (mC (.str "value")) (mCons (mCb lenM (mCons (mVar 1) mNil)) (mCons (mTup (mCons (mRev (mOp ixM (mVar 3) (mC (.int 0)))) (mCons (mOp ixM (mVar 3) (mC (.int 1))) mNil))) mNil)))))))))
def nE : CI.Env → M (List AV) := (mCons (mOp gSub (mCb m__law_draw (mCons (mVar 0) (mCons (mOp gPow (mC (.int 10)) (mC (.int 6))) mNil))) (mC (.int 500000))) (mCons (mTup (mCons (mVar 1) (mCons (mCb tupM (mCons (mVar 2) mNil)) mNil))) mNil))
theorem right_eq : mb__law_right = msSeq (msAsg oneE (mgName 1)) (msSeq (msAsg othE (mgName 2)) (msSeq (msPar 5 6 nE) rightN)) := rfl
section
variable {W F O : Nat} {xs ys : List Int} {n : Int} {s3 s4 s7 s8 : Option AV} {S : Store}
theorem rightN_ok (hF : S[F]? = some (.lst (xs.map .int))) (hO : S[O]? = some (.lst (ys.map .int))) (hl : xs.length ≤ 50) (hy : ys.length ≤ 50) :
    ∃ G, rightN [some (.loc W), some (.loc F), some (.loc O), s3, s4, some (.int n), some (.tup [.loc F, .tup (ys.map .int)]), s7, s8] S = some (.ok (.rt (.bl true)), S ++ G) := by
  have t1 := tup_at hF
  have t2 := tup_at hO
  have c1 : msAsg (mTup (mCons (mCb tupM (mCons (mVar 1) mNil)) (mCons (mCb tupM (mCons (mVar 2) mNil)) mNil))) (mgName 3) [some (.loc W), some (.loc F), some (.loc O), s3, s4, some (.int n), some (.tup [.loc F, .tup (ys.map .int)]), s7, s8] S = some (.ok (.nx (er W F O xs ys n s4 s7 s8)), S) := by
    simp only [ev_sasg, ev_bind, ev_mtup, CI.ev_cb, CI.ev_cons, CI.ev_nil, CI.ev_var, List.getElem?_cons_succ, List.getElem?_cons_zero, Option.join, Option.bind_some, id, ev_ofO, ev_pure, t1, t2, ev_ite, List.length_cons, List.length_nil]
    rw [if_pos (by omega)]
    rfl
  obtain ⟨G1, t7, e1⟩ := bodyL_ok (W := W) (n := n) (s7 := s7) (s8 := s8) true hF hO hl hy
  have hF1 := get_pre (S := S ++ G1) ⟨_, rfl⟩ hF
  have hO1 := get_pre (S := S ++ G1) ⟨_, rfl⟩ hO
  obtain ⟨G2, u7, e2⟩ := bodyL_ok (W := W) (n := n) (s7 := t7) (s8 := s8) false hF1 hO1 hl hy
  have hF2 := get_pre (S := S ++ G1 ++ G2) ⟨_, rfl⟩ hF1
  have c2 : msLoop (mIt itAny (mTup (mCons (mC (.bl true)) (mCons (mC (.bl false)) mNil)))) (mgName 4) bodyL (er W F O xs ys n s4 s7 s8) S = some (.ok (.nx (er W F O xs ys n (some (.bl false)) u7 s8)), S ++ G1 ++ G2) := by
    have w : mIt itAny (mTup (mCons (mC (.bl true)) (mCons (mC (.bl false)) mNil))) (er W F O xs ys n s4 s7 s8) S = some (.ok ⟨[.bl true, .bl false], []⟩, S) := rfl
    have st1 : forStep (mgName 4) bodyL (.bl true) (er W F O xs ys n s4 s7 s8) S = some (.ok (.nx (er W F O xs ys n (some (.bl true)) t7 s8)), S ++ G1) := by
      unfold forStep
      rw [ev_bind, ev_gname]
      exact e1
    have st2 : forStep (mgName 4) bodyL (.bl false) (er W F O xs ys n (some (.bl true)) t7 s8) (S ++ G1) = some (.ok (.nx (er W F O xs ys n (some (.bl false)) u7 s8)), S ++ G1 ++ G2) := by
      unfold forStep
      rw [ev_bind, ev_gname]
      exact e2
    rw [loop_ok w, forGo_cons ok_nil st1, forGo_cons ok_nil st2, forGo_nil ok_nil]
  obtain ⟨G3, e3⟩ := runE_ok (W := W) (O := O) (s4 := some (.bl false)) (s7 := u7) (s8 := s8) (ae := mNil) (as := []) rfl made_gr fr__law_greatest (fun _ => rfl) pg_gr hF2 hl hy (gr_run (n := n) (by omega))
  rw [e_gr] at e3
  have hF3 := get_pre (S := S ++ G1 ++ G2 ++ G3) ⟨_, rfl⟩ hF2
  have v3 : ∃ G4, mTup (mCons (mC (.str "value")) (mCons (mCb maxM (mCons (mOp gAdd (mLst (mCons (mVar 5) mNil)) (mVar 1)) mNil)) (mCons (mVar 3) mNil))) (er W F O xs ys n (some (.bl false)) u7 s8) (S ++ G1 ++ G2 ++ G3) = some (.ok (valA (mxI (fun b a => decide (b > a)) n xs) xs ys), S ++ G1 ++ G2 ++ G3 ++ G4) := by
    generalize S ++ G1 ++ G2 ++ G3 = Y at hF3
    have l1 : getL (.loc Y.length) (Y ++ [.lst [.int n]]) = some (.ok [.int n], Y ++ [.lst [.int n]]) := by
      unfold getL; simp only [last_at]
    have hF4 := get_pre (S := Y ++ [.lst [.int n]]) ⟨_, rfl⟩ hF3
    have l2 : getL (.loc F) (Y ++ [.lst [.int n]]) = some (.ok (xs.map .int), Y ++ [.lst [.int n]]) := by
      unfold getL; simp only [hF4]
    have g : gAdd (.loc Y.length) (.loc F) (Y ++ [.lst [.int n]]) = some (.ok (.loc (Y ++ [AO.lst [.int n]]).length), Y ++ [.lst [.int n]] ++ [.lst ((n :: xs).map .int)]) := by
      unfold gAdd
      simp only [ev_bind, l1, l2]
      rw [ev_ite, if_pos (by simp; omega)]
      rfl
    have m := max_at (last_at (Y ++ [.lst [.int n]]) (.lst ((n :: xs).map .int)))
    refine ⟨[AO.lst [.int n]] ++ [AO.lst ((n :: xs).map .int)], ?_⟩
    rw [← List.append_assoc]
    simp only [ev_mtup, ev_bind, CI.ev_cons, CI.ev_c, CI.ev_cb, CI.ev_nil, er, CI.ev_var, List.getElem?_cons_succ, List.getElem?_cons_zero, Option.join, Option.bind_some, id, ev_ofO, ev_pure, ev_mop, ev_mlst, ev_ite, List.length_cons, List.length_nil]
    rw [if_pos (by omega)]
    simp only [ev_new, g, m]
    rw [if_pos (by simp)]
    rfl
  obtain ⟨G4, v3⟩ := v3
  have c3 := neIte_ok e3 v3 (same_val _ _ _)
  have hF4 := get_pre (S := S ++ G1 ++ G2 ++ G3 ++ G4) ⟨_, rfl⟩ hF3
  obtain ⟨G5, e5⟩ := runE_ok (W := W) (O := O) (s4 := some (.bl false)) (s7 := u7) (s8 := s8) (ae := mNil) (as := []) rfl made_tu fr__law_turns (fun _ => rfl) pg_tu hF4 hl hy (tu_run (n := n) (by omega))
  rw [e_tu] at e5
  have hF5 := get_pre (S := S ++ G1 ++ G2 ++ G3 ++ G4 ++ G5) ⟨_, rfl⟩ hF4
  have v5 : mTup (mCons (mC (.str "value")) (mCons (mCb lenM (mCons (mVar 1) mNil)) (mCons (mTup (mCons (mRev (mOp ixM (mVar 3) (mC (.int 0)))) (mCons (mOp ixM (mVar 3) (mC (.int 1))) mNil))) mNil))) (er W F O xs ys n (some (.bl false)) u7 s8) (S ++ G1 ++ G2 ++ G3 ++ G4 ++ G5) = some (.ok (valA xs.length xs.reverse ys), S ++ G1 ++ G2 ++ G3 ++ G4 ++ G5) := by
    generalize S ++ G1 ++ G2 ++ G3 ++ G4 ++ G5 = Y at hF5
    have ln := len_ints hF5
    have i0 : ixM (.tup [.tup (xs.map .int), .tup (ys.map .int)]) (.int 0) Y = some (.ok (.tup (xs.map .int)), Y) := rfl
    have i1 : ixM (.tup [.tup (xs.map .int), .tup (ys.map .int)]) (.int 1) Y = some (.ok (.tup (ys.map .int)), Y) := rfl
    simp only [ev_mtup, ev_bind, CI.ev_cons, CI.ev_c, CI.ev_cb, CI.ev_nil, er, CI.ev_var, List.getElem?_cons_succ, List.getElem?_cons_zero, Option.join, Option.bind_some, id, ev_ofO, ev_pure, ev_mop, ln, ev_mrev, i0, i1, ev_revT, ev_ite, List.length_cons, List.length_nil]
    rw [if_pos (by omega)]
    simp only [List.length_cons, List.length_nil]
    rw [if_pos (by omega), ← List.map_reverse]
    rfl
  have c5 : msRet (mOp gEq (runE m__law_turns mNil) (mTup (mCons (mC (.str "value")) (mCons (mCb lenM (mCons (mVar 1) mNil)) (mCons (mTup (mCons (mRev (mOp ixM (mVar 3) (mC (.int 0)))) (mCons (mOp ixM (mVar 3) (mC (.int 1))) mNil))) mNil))))) (er W F O xs ys n (some (.bl false)) u7 s8) (S ++ G1 ++ G2 ++ G3 ++ G4) = some (.ok (.rt (.bl true)), S ++ G1 ++ G2 ++ G3 ++ G4 ++ G5) := by
    simp only [ev_sret, ev_bind, ev_mop, e5, v5, (same_val _ _ _).eq, ev_pure]
  refine ⟨G1 ++ G2 ++ G3 ++ G4 ++ G5, ?_⟩
  unfold rightN
  rw [seq_nx c1, seq_nx c2, seq_nx c3, c5]
  simp only [List.append_assoc]
theorem right_ok (h : Wl W S) : ∃ S', m__law_right [.loc W] S = some (.ok (.bl true), S') ∧ Kp W S S' ∧ Wl W S' := by
  obtain ⟨xs, S1, F, e1, hF, hl, k1, w1, l1⟩ := oneE_ok (ρ := [some (.loc W), none, none, none, none, none, none, none, none]) h rfl
  have hFW : F ≠ W := by have := h.lt; omega
  have c1 : msAsg oneE (mgName 1) [some (.loc W), none, none, none, none, none, none, none, none] S = some (.ok (.nx [some (.loc W), some (.loc F), none, none, none, none, none, none, none]), S1) := by
    rw [ev_sasg, ev_bind, e1]; rfl
  obtain ⟨ys, S2, O, e2, hO, hy, k2, w2, l2⟩ := othE_ok (ρ := [some (.loc W), some (.loc F), none, none, none, none, none, none, none]) w1 rfl rfl hF hl
  have hOW : O ≠ W := by have := w1.lt; omega
  have c2 : msAsg othE (mgName 2) [some (.loc W), some (.loc F), none, none, none, none, none, none, none] S1 = some (.ok (.nx [some (.loc W), some (.loc F), some (.loc O), none, none, none, none, none, none]), S2) := by
    rw [ev_sasg, ev_bind, e2]; rfl
  obtain ⟨d, S3, e3, _, _, k3, w3⟩ := drawE_ok (i := 0) (ρ := [some (.loc W), some (.loc F), some (.loc O), none, none, none, none, none, none]) (e := mOp gPow (mC (.int 10)) (mC (.int 6))) (k := 1000000) w2 rfl (pow6 _ _) (by omega) (by omega)
  have hF3 := k3.2 _ _ hFW (k2.2 _ _ hFW hF)
  have hO3 := k3.2 _ _ hOW hO
  have t2 := tup_at hO3
  have c3 : msPar 5 6 nE [some (.loc W), some (.loc F), some (.loc O), none, none, none, none, none, none] S2 = some (.ok (.nx [some (.loc W), some (.loc F), some (.loc O), none, none, some (.int (d - 500000)), some (.tup [.loc F, .tup (ys.map .int)]), none, none]), S3) := by
    unfold nE
    simp only [ev_spar, ev_bind, CI.ev_cons, ev_mop, e3, CI.ev_c, ev_I0, ev_pure, ev_mtup, CI.ev_cb, CI.ev_nil, CI.ev_var, List.getElem?_cons_succ, List.getElem?_cons_zero, Option.join, Option.bind_some, id, ev_ofO, t2, ev_ite, List.length_cons, List.length_nil]
    rw [if_pos (by omega)]
    rfl
  obtain ⟨G, e4⟩ := rightN_ok (W := W) (n := d - 500000) (s3 := none) (s4 := none) (s7 := none) (s8 := none) hF3 hO3 hl hy
  refine ⟨S3 ++ G, fn_rt rfl ?_, k1.trans (k2.trans (k3.trans (.app _ _ _))), w3.app G⟩
  rw [right_eq]
  show msSeq _ _ [some (.loc W), none, none, none, none, none, none, none, none] S = _
  rw [seq_nx c1, seq_nx c2, seq_nx c3]
  exact e4
end
def cellS : CI.Env → M Fl := msSeq (msAsg (mCb m__law_well (mCons (mVar 1) mNil)) (mgName 2)) (msIte (mTOr (mTNot (mTest (mCb m__law_right (mCons (mVar 2) mNil)))) (mTNot (mTest (mCb m__law_right (mCons (mVar 2) mNil)))))
  (msRet (mC (.bl false)))
  msNext)
def cellsE : CI.Env → M AI := mIt itAny (mOp gAdd (mSl (mVar 0) mNoP (mPart (mC (.int 4)))) (mLst (mCons (mC (.int 0)) mNil)))
theorem law_eq : mb_law = msSeq (msLoop cellsE (mgName 1) cellS) (msRet (mC (.bl true))) := rfl
theorem lcell_ok (n : Int) (S : Store) (s0 s2 : Option AV) : ∃ t2 S', cellS [s0, some (.int n), s2] S = some (.ok (.nx [s0, some (.int n), t2]), S') ∧ Kp S.length S S' := by
  obtain ⟨a, b, e1⟩ := well_ok n S
  have w1 : Wl S.length (S ++ [.lst [.int a, .int b, .int 0]]) := ⟨a, b, 0, last_at _ _⟩
  obtain ⟨S1, r1, k1, w2⟩ := right_ok w1
  obtain ⟨S2, r2, k2, w3⟩ := right_ok w2
  have c1 : msAsg (mCb m__law_well (mCons (mVar 1) mNil)) (mgName 2) [s0, some (.int n), s2] S = some (.ok (.nx [s0, some (.int n), some (.loc S.length)]), S ++ [.lst [.int a, .int b, .int 0]]) := by
    simp only [ev_sasg, ev_bind, CI.ev_cb, CI.ev_cons, CI.ev_nil, CI.ev_var, List.getElem?_cons_succ, List.getElem?_cons_zero, Option.join, Option.bind_some, id, ev_ofO, ev_pure, e1, ev_gname, List.set_cons_succ, List.set_cons_zero]
  refine ⟨some (.loc S.length), S2, ?_, (Kp.app _ _ _).trans (k1.trans k2)⟩
  unfold cellS
  rw [seq_nx c1]
  generalize S ++ [AO.lst [.int a, .int b, .int 0]] = Y at r1
  simp only [ev_site, ev_bind, ev_tor, ev_tnot, ev_test, CI.ev_cb, CI.ev_cons, CI.ev_nil, CI.ev_var, List.getElem?_cons_succ, List.getElem?_cons_zero, Option.join, Option.bind_some, id, ev_ofO, ev_pure, r1, r2, ev_toB, Bool.not_true, Bool.false_eq_true, if_false, ev_snext]
theorem lcells_go {cells : List AV} {q : Nat} : ∀ (xs : List Int) (S : Store) (s0 s1 s2 : Option AV), S[q]? = some (.lst cells) →
    ∃ ρ S', forGo ⟨cells, [(q, cells)]⟩ (forStep (mgName 1) cellS) (xs.map .int) [s0, s1, s2] S = some (.ok (.nx ρ), S')
  | [], S, s0, s1, s2, h => ⟨_, S, forGo_nil (ok_at h)⟩
  | n :: xs, S, s0, s1, s2, h => by
    obtain ⟨t2, S1, e1, k1⟩ := lcell_ok n S s0 s2
    have hq : q ≠ S.length := by
      have := (List.getElem?_eq_some_iff.mp h).1
      omega
    obtain ⟨ρ, S', e2⟩ := lcells_go xs S1 s0 (some (.int n)) t2 (k1.2 _ _ hq h)
    refine ⟨ρ, S', ?_⟩
    have st : forStep (mgName 1) cellS (.int n) [s0, s1, s2] S = some (.ok (.nx [s0, some (.int n), t2]), S1) := by
      unfold forStep
      rw [ev_bind, ev_gname]
      exact e1
    rw [List.map_cons, forGo_cons (ok_at h) st]
    exact e2
theorem pure_law (ns : List Int) (h : ns.length ≤ 63) : ∃ S', m_law [.fl (ns.map .int)] [] = some (.ok (.bl true), S') := by
  obtain ⟨cs, hc, hcl⟩ : ∃ cs : List Int, cutA (ns.map AV.int) none (some 4) = cs.map .int ∧ cs.length ≤ 63 := by
    refine ⟨(ns.drop (HT.sIx (ns.map AV.int).length 0 none)).take (HT.sIx (ns.map AV.int).length (ns.map AV.int).length (some 4) - HT.sIx (ns.map AV.int).length 0 none), ?_, ?_⟩
    · unfold cutA
      rw [List.map_take, List.map_drop]
    · rw [List.length_take, List.length_drop]; omega
  have w : cellsE (startA 3 [.fl (ns.map .int)]) [] = some (.ok ⟨(cs ++ [0]).map .int, [(2, (cs ++ [0]).map .int)]⟩, [.lst (cs.map .int), .lst [.int 0], .lst ((cs ++ [0]).map .int)]) := by
    have a1 : slM (.fl (ns.map .int)) none (some 4) [] = some (.ok (.loc 0), [.lst (cs.map .int)]) := by
      show some (Except.ok (AV.loc 0), ([] : Store) ++ [AO.lst (cutA (ns.map AV.int) none (some 4))]) = _
      rw [hc]; rfl
    have a2 : gAdd (.loc 0) (.loc 1) [.lst (cs.map .int), .lst [.int 0]] = some (.ok (.loc 2), [.lst (cs.map .int), .lst [.int 0], .lst ((cs ++ [0]).map .int)]) := by
      show (if (cs.map AV.int).length + [AV.int 0].length ≤ 100000 then M.new (.lst (cs.map AV.int ++ [.int 0])) else M.no) _ = _
      rw [if_pos (by simp; omega)]
      simp
    have s : startA 3 [.fl (ns.map .int)] = [some (.fl (ns.map .int)), none, none] := rfl
    have a3 : mLst (mCons (mC (.int 0)) mNil) [some (.fl (ns.map .int)), none, none] [.lst (cs.map .int)] = some (.ok (.loc 1), [.lst (cs.map .int), .lst [.int 0]]) := rfl
    unfold cellsE
    rw [s]
    simp only [ev_it, ev_bind, ev_mop, ev_sl, CI.ev_var, ev_noP, ev_part, ev_toI, CI.ev_c, List.getElem?_cons_zero, Option.join, Option.bind_some, id, ev_ofO, ev_pure, a1, a3, a2]
    rfl
  obtain ⟨ρ, S', e⟩ := lcells_go (q := 2) (cs ++ [0]) [.lst (cs.map .int), .lst [.int 0], .lst ((cs ++ [0]).map .int)] (some (.fl (ns.map .int))) none none rfl
  refine ⟨S', fn_rt rfl ?_⟩
  rw [law_eq]
  have c1 : msLoop cellsE (mgName 1) cellS (startA 3 [.fl (ns.map .int)]) [] = some (.ok (.nx ρ), S') := by
    rw [loop_ok w]
    exact e
  rw [seq_nx c1]
  rfl
end CKP

set_option Elab.async false
set_option linter.all false
set_option maxRecDepth 100000
set_option maxHeartbeats 0
namespace CKP
open PySem PySem.Spec PyProof.Rows L2 Evl CI
theorem run (w : World) : HandSHeadRun.RunEq R (PySem.W.view R.prog [lawIx]) hk ob 9000 loose w := by
  refine PySem.W.byRow2 "special-get-raises" (P := fun w => HandSHeadRun.RunEq R (PySem.W.view R.prog [lawIx]) hk ob 9000 loose w) (fun w => ?_) (fun w => ?_) w
  · intro os; kernel_rfl
  · intro os; kernel_rfl
end CKP

set_option Elab.async false
set_option linter.all false
set_option maxRecDepth 100000
set_option maxHeartbeats 0
namespace CKP
open PySem PySem.Spec PyProof.Rows L2 Evl CI
theorem ints_va {c : Ct} {μ : List Addr} {H : Hp} : ∀ ns : List Int, VaAll c μ H (ns.map V.int) (ns.map AV.int)
  | [] => .nil
  | n :: ns => .cons (.int n) (ints_va ns)
end CKP
open PySem PySem.W PySem.Calls PyProof.Rows
theorem PySem.Challenge.cw_checkcut_k16_whole_loops_by_formula_holds : PySem.Challenge.rw_checkcut_k16_whole_loops_by_formula.Holds := by
  w_on; o_law
  refine HandSHeadRun.head_any (r := OpenLaw.row PySem.Challenge.rw_checkcut_k16_whole_loops_by_formula) (q := view (OpenLaw.row PySem.Challenge.rw_checkcut_k16_whole_loops_by_formula).prog [CKP.lawIx]) (H := CKP.hk) (ob := CKP.ob) (M := 9000) (loose := CKP.loose) (d := HandSHeadRun.topDef (OpenLaw.row PySem.Challenge.rw_checkcut_k16_whole_loops_by_formula).prog CKP.lawIx) (kwd := []) CKP.ob_eq
    (by kernel_rfl) (fun s => by kernel_rfl) CKP.run (by kernel_rfl) (by kernel_rfl) (by kernel_rfl) (by rfl) (by first | assumption | decide +kernel) (by decide +kernel) ⟨rfl, rfl, rfl, rfl, rfl, by decide +kernel⟩ ?hw ?hc
  case hw => w_witness2
  case hc =>
    refine L2.walk_ofE (l := PySem.Challenge.rw_checkcut_k16_whole_loops_by_formula) (n := 63) (k := CKP.lawLevel) (x := "_law_script") (CX := L2.CX0) rfl (by decide) (by kernel_rfl) ⟨rfl, by decide, by decide⟩ ?F (fun _ _ _ _ z => z)
    intro w mg fa h Y G hmg0
    obtain ⟨K, KX, c⟩ := Y
    have hmg : mg ("law" : PySem.Str) = some (.ref fa) := by
      have e : (HandSHeadRun.topDef (OpenLaw.row PySem.Challenge.rw_checkcut_k16_whole_loops_by_formula).prog CKP.lawIx).name = ("law" : PySem.Str) := by kernel_rfl
      rw [← e]
      exact hmg0
    have M0 : ∀ base : PySem.Heap, CKP.Md (PySem.Challenge.rw_checkcut_k16_whole_loops_by_formula).prog w K mg base := fun base => CKP.md_of KX G c
    have e := hmg.symm.trans (M0 h).g_law
    cases e
    obtain ⟨fd, F⟩ := (M0 h).d_law
    refine ⟨K, fd, CI.spI (CKP.ct K w) CKP.m_law, KX, fun s v => L2.FunD.bindsA (ps := ["_law_script"]) F (fun _ _ _ _ _ _ us hl => match us, hl with | [_], _ => rfl) s [v] rfl, fun H a ns hl hO hS => ?_, fun base KB GB => ?_⟩
    · obtain ⟨S', hp⟩ := CKP.pure_law ns hl
      have hF : CI.SqF K H a (ns.map L2.V.int) := by
        rcases hS with (hS | hS) | hS
        · rcases hO a with z | ⟨o, xs, z⟩
          · rw [hS] at z; cases z
          · rw [hS] at z; cases z
        · exact .inl hS
        · exact .inr hS
      refine ⟨[], [], [.fl (ns.map .int)], _, ⟨List.nodup_nil, rfl, fun n a o e => by cases e⟩, .cons (.fl hF (CKP.ints_va ns)) .nil, hp, ?_⟩
      intro v μ' H' f rs rv
      cases rv
      rfl
    · exact CKP.fn_law (M0 base) F
