import PyProof.Rows.All
import Wide.All
import OpenK.AllK
import Wide.FinOn
import KE.GoesEnumKw
import KE.GoesMore
import KE.GoesZip
import HandS.ForMost
import KE.KTupSum
import HandS.Style
import HandS.TupAny
import HandS.TupMul
import HandS.SetFor
import HandS.SortInts
import HandS.Codes
import HandS.IsInst
import HandS.Strs
import HandS.DictComp
import HandS.Conv
import HandS.Wide
import HandS.EndBits
import HandS.Replace
import HandS.Walk
import PySem.Challenge.RW_turnpicks_k39_whole_the_turned_game
set_option Elab.async false
set_option linter.all false
set_option maxRecDepth 100000
set_option maxHeartbeats 4000000
/-! zip(x, y, strict=True) over two iterators of one length. -/
namespace TGZ
open PySem PySem.Builtin PySem.Builtin.SmallTypes

/-- a strict zip -/
abbrev IsZS (h : Heap) (z TI TO : Addr) (f0 : Value) : Prop :=
  h.get? z = some { cls := .type "zip", dict := none, data := .fields #[f0, .bool false, .bool true, .ref TI, .ref TO], slots := #[] }

section
variable {prog : Program} {w : World} {A : Around} {E : Value → Shared → Prop} {s : Shared} {z TI TO i1 i2 it : Addr} {fp fp1 fp2 : List Addr} {n i : Nat} {P P1 P2 : Nat → Value → Prop} {St St1 St2 : Nat → Heap → Prop} {a1 a2 : Value}

theorem orEnd_item {Q : Option Value → Shared → Prop} (D : Draws prog w A it fp n P St) (hlt : i < n) (st : St i s.heap)
    (hQ : ∀ x h' tk, P i x → St (i + 1) h' → Heap.SameBut it s.heap h' → Q (some x) { s with heap := h', toks := tk }) : wpAny (model prog w) A (nextOrEnd (.ref it)) Q E s := by
  unfold nextOrEnd
  refine wpAny_bind (wpAny_attempt (D.item i s _ _ hlt st fun x h' tk px st' sb => ?_))
  exact wpAny_pure (hQ x h' tk px st' sb)
theorem orEnd_done {Q : Option Value → Shared → Prop} (D : Draws prog w A it fp n P St) (st : St n s.heap)
    (hQ : ∀ h', Heap.ExtBut it s.heap h' → Q none { s with heap := h' }) : wpAny (model prog w) A (nextOrEnd (.ref it)) Q E s := by
  unfold nextOrEnd
  refine wpAny_bind (wpAny_attempt (D.done s _ _ st fun h' e hk he => ?_))
  obtain ⟨o, ho, hc⟩ := he
  exact wpAny_bind (wpAny_isInstance (T := "StopIteration") (b := true) ⟨o, ho, hc⟩ isSubtype_stop (wpAny_pure (hQ h' hk)))

theorem zs_item {Q : Value → Shared → Prop} (S : ZipSep2 z TI TO i1 i2 fp1 fp2) (D1 : Draws prog w A i1 fp1 n P1 St1) (D2 : Draws prog w A i2 fp2 n P2 St2)
    (hz : IsZS s.heap z TI TO .none) (hTI : IsTupOf2 s.heap TI (.ref i1) (.ref i2)) (hTO : IsTupOf2 s.heap TO a1 a2) (st1 : St1 i s.heap) (st2 : St2 i s.heap) (hlt : i < n)
    (hQ : ∀ x1 x2 h' tk, P1 i x1 → P2 i x2 → IsZS h' z TI TO (rawInt s.heap.objs.size) → IsTupOf2 h' TO x1 x2 → St1 (i + 1) h' → St2 (i + 1) h' → IsTupOf2 h' s.heap.objs.size x1 x2 → h'.objs.size = s.heap.objs.size + 1 →
      (∀ c o, c ≠ z → c ≠ TO → c ≠ i1 → c ≠ i2 → s.heap.get? c = some o → h'.get? c = some o) → Q (.ref s.heap.objs.size) { s with heap := h', toks := tk }) :
    wpAny (model prog w) A (Builtin.«zip.__next__» ⟨[.ref z], []⟩) (fun fin s' => ∃ v, fin = .done (.ret v) ∧ Q v s') E s := by
  obtain ⟨hp, g, d, tk0, os⟩ := s
  show wpAny _ _ (field (.ref z) 2 >>= _) _ _ _
  refine wpAny_bind (wpAny_field hz rfl (x := .bool true) rfl ?_)
  show wpAny _ _ (field (.ref z) 3 >>= _) _ _ _
  refine wpAny_bind (wpAny_field hz rfl (x := .ref TI) rfl (wpAny_bind (wpAny_seqItems hTI rfl ?_)))
  show wpAny _ _ (ownedTupleIsFree (.ref z) >>= _) _ _ _
  refine wpAny_bind ?_
  unfold ownedTupleIsFree
  refine wpAny_bind (wpAny_field hz rfl (x := .none) rfl (wpAny_pure ?_))
  simp only [if_true]
  refine wpAny_bind (wpAny_rule (wpAny_bind (wpAny_field hz rfl (x := .ref TO) rfl ?_)))
  refine wpAny_bind (wpAny_setField_rec hz (by simp) fun g0 hz0 hs0 => ?_)
  replace hz0 : IsZS g0 z TI TO .ellipsis := hz0
  replace hs0 : Heap.SameBut z hp g0 := hs0
  refine wpAny_bind ?_
  simp only [List.zipIdx_cons, List.zipIdx_nil, List.forIn_cons, List.forIn_nil]
  refine wpAny_bind (wpAny_bind (wpAny_onRaise ?_))
  show wpAny _ _ (nextOrEnd (.ref i1)) _ _ ⟨g0, g, d, tk0, os⟩
  refine orEnd_item D1 hlt (D1.over st1 hs0 S.zf1) fun x1 p1 tk1 hx1 sn1 hp1 => ?_
  replace hp1 : Heap.SameBut i1 g0 p1 := hp1
  have hU1 : IsTupOf2 p1 TO a1 a2 := hp1.extBut _ _ S.Ti1 (hs0.extBut _ _ S.TOz hTO)
  refine wpAny_bind (wpAny_seqItems (s := ⟨p1, g, d, tk1, os⟩) hU1 rfl ?_)
  refine wpAny_bind (updateSeq_IsTupOf2 (s := ⟨p1, g, d, tk1, os⟩) hU1 fun g1 hT1 hs1 => ?_)
  replace hT1 : IsTupOf2 g1 TO x1 a2 := hT1
  replace hs1 : Heap.SameBut TO p1 g1 := hs1
  refine wpAny_bind (wpAny_letGo (wpAny_pure ?_))
  refine wpAny_bind (wpAny_bind (wpAny_onRaise ?_))
  show wpAny _ _ (nextOrEnd (.ref i2)) _ _ ⟨g1, g, d, tk1, os⟩
  refine orEnd_item D2 hlt (D2.over (D2.over (D2.over st2 hs0 S.zf2) hp1 S.sep1_2) hs1 S.Tf2) fun x2 p2 tk2 hx2 sn2 hp2 => ?_
  replace hp2 : Heap.SameBut i2 g1 p2 := hp2
  have hU2 : IsTupOf2 p2 TO x1 a2 := hp2.extBut _ _ S.Ti2 hT1
  refine wpAny_bind (wpAny_seqItems (s := ⟨p2, g, d, tk2, os⟩) hU2 rfl ?_)
  refine wpAny_bind (updateSeq_IsTupOf2 (s := ⟨p2, g, d, tk2, os⟩) hU2 fun g2 hT2 hs2 => ?_)
  replace hT2 : IsTupOf2 g2 TO x1 x2 := hT2
  replace hs2 : Heap.SameBut TO p2 g2 := hs2
  refine wpAny_bind (wpAny_letGo (wpAny_pure (wpAny_pure ?_)))
  refine wpAny_bind (wpAny_seqItems (s := ⟨g2, g, d, tk2, os⟩) hT2 rfl (wpAny_bind (wpAny_newTuple ?_)))
  have hsz : g2.objs.size = hp.objs.size := by rw [hs2.1, hp2.1, hs1.1, hp1.1, hs0.1]
  have hzz : IsZS g2 z TI TO .ellipsis := hs2.extBut _ _ S.TOz.symm (hp2.extBut _ _ S.zi2 (hs1.extBut _ _ S.TOz.symm (hp1.extBut _ _ S.zi1 hz0)))
  have hkk : ∀ c o, c ≠ z → c ≠ TO → c ≠ i1 → c ≠ i2 → hp.get? c = some o → g2.get? c = some o := fun c o cz cT c1 c2 e =>
    hs2.extBut _ _ cT (hp2.extBut _ _ c2 (hs1.extBut _ _ cT (hp1.extBut _ _ c1 (hs0.extBut _ _ cz e))))
  have hj1 : St1 (i + 1) g2 := D1.over (D1.over (D1.over sn1 hs1 S.Tf1) hp2 S.sep2_1) hs2 S.Tf1
  have hj2 : St2 (i + 1) g2 := D2.over sn2 hs2 S.Tf2
  have hzlt : z < g2.objs.size := Heap.lt_size hzz
  show wpAny _ _ (ownedTupleHandOut (.ref z) (.ref g2.objs.size) >>= _) _ _ ⟨g2.push { cls := .type "tuple", data := .seq #[x1, x2] }, g, d, tk2, os⟩
  refine wpAny_bind ?_
  unfold ownedTupleHandOut
  have hz6 : IsZS (g2.push { cls := .type "tuple", data := .seq #[x1, x2] }) z TI TO .ellipsis := Heap.get?_push_of_some _ hzz
  refine wpAny_bind (wpAny_setField_rec hz6 (by simp) fun h7 hz7 hs7 => ?_)
  replace hz7 : IsZS h7 z TI TO (rawInt g2.objs.size) := hz7
  refine wpAny_setField_rec hz7 (by simp) fun h8 hz8 hs8 => ?_
  replace hz8 : IsZS h8 z TI TO (rawInt g2.objs.size) := hz8
  replace hs7 : Heap.SameBut z (g2.push { cls := .type "tuple", data := .seq #[x1, x2] }) h7 := hs7
  replace hs8 : Heap.SameBut z h7 h8 := hs8
  have up : ∀ c o, c ≠ z → g2.get? c = some o → h8.get? c = some o := fun c o c1 e => hs8.extBut _ _ c1 (hs7.extBut _ _ c1 (Heap.get?_push_of_some _ e))
  have hT8 : IsTupOf2 h8 g2.objs.size x1 x2 := hs8.extBut _ _ (Nat.ne_of_gt hzlt) (hs7.extBut _ _ (Nat.ne_of_gt hzlt) (Heap.get?_push_size _ rfl))
  have hs88 : h8.objs.size = g2.objs.size + 1 := by rw [hs8.1, hs7.1, Heap.size_push]
  rw [hsz] at hz8 hT8 hs88
  refine wpAny_pure ⟨_, rfl, ?_⟩
  show Q (.ref g2.objs.size) ⟨h8, g, d, tk2, os⟩
  rw [hsz]
  exact hQ x1 x2 h8 tk2 hx1 hx2 hz8 (up _ _ S.TOz hT2) (D1.frame _ _ _ hj1 fun b hb o e => up b o (fun q => S.zf1 (q ▸ hb)) e) (D2.frame _ _ _ hj2 fun b hb o e => up b o (fun q => S.zf2 (q ▸ hb)) e) hT8 hs88 fun c o cz cT c1 c2 e => up c o cz (hkk c o cz cT c1 c2 e)

theorem zs_end {Q : Fin → Shared → Prop} (S : ZipSep2 z TI TO i1 i2 fp1 fp2) (D1 : Draws prog w A i1 fp1 n P1 St1) (D2 : Draws prog w A i2 fp2 n P2 St2)
    (hz : IsZS s.heap z TI TO .none) (hTI : IsTupOf2 s.heap TI (.ref i1) (.ref i2)) (hTO : IsTupOf2 s.heap TO a1 a2) (st1 : St1 n s.heap) (st2 : St2 n s.heap) (hh : A.handled = none)
    (hE : ∀ h' tk e, (∀ c o, c ≠ z → c ≠ TO → c ≠ i1 → c ≠ i2 → s.heap.get? c = some o → h'.get? c = some o) → (∃ o, h'.get? e = some o ∧ o.cls = .type "StopIteration") → E (.ref e) { s with heap := h', toks := tk }) :
    wpAny (model prog w) A (Builtin.«zip.__next__» ⟨[.ref z], []⟩) Q E s := by
  obtain ⟨hp, g, d, tk0, os⟩ := s
  show wpAny _ _ (field (.ref z) 2 >>= _) _ _ _
  refine wpAny_bind (wpAny_field hz rfl (x := .bool true) rfl ?_)
  show wpAny _ _ (field (.ref z) 3 >>= _) _ _ _
  refine wpAny_bind (wpAny_field hz rfl (x := .ref TI) rfl (wpAny_bind (wpAny_seqItems hTI rfl ?_)))
  show wpAny _ _ (ownedTupleIsFree (.ref z) >>= _) _ _ _
  refine wpAny_bind ?_
  unfold ownedTupleIsFree
  refine wpAny_bind (wpAny_field hz rfl (x := .none) rfl (wpAny_pure ?_))
  simp only [if_true]
  refine wpAny_bind (wpAny_rule (wpAny_bind (wpAny_field hz rfl (x := .ref TO) rfl ?_)))
  refine wpAny_bind (wpAny_setField_rec hz (by simp) fun g0 hz0 hs0 => ?_)
  replace hz0 : IsZS g0 z TI TO .ellipsis := hz0
  replace hs0 : Heap.SameBut z hp g0 := hs0
  refine wpAny_bind ?_
  simp only [List.zipIdx_cons, List.zipIdx_nil, List.forIn_cons, List.forIn_nil]
  refine wpAny_bind (wpAny_bind (wpAny_onRaise ?_))
  show wpAny _ _ (nextOrEnd (.ref i1)) _ _ ⟨g0, g, d, tk0, os⟩
  refine orEnd_done D1 (D1.over st1 hs0 S.zf1) fun q hq => ?_
  replace hq : Heap.ExtBut i1 g0 q := hq
  have hzq : IsZS q z TI TO .ellipsis := hq _ _ S.zi1 hz0
  refine wpAny_bind (wpAny_setField_rec (s := ⟨q, g, d, tk0, os⟩) hzq (by simp) fun q1 hz1 hs1 => ?_)
  replace hz1 : IsZS q1 z TI TO .none := hz1
  replace hs1 : Heap.SameBut z q q1 := hs1
  refine wpAny_bind ?_
  refine wpAny_bind ?_
  simp only [List.drop_succ_cons, List.drop_zero, List.zipIdx_cons, List.zipIdx_nil, List.forIn_cons, List.forIn_nil]
  refine wpAny_bind (wpAny_bind ?_)
  have st2q : St2 n q1 := D2.frame _ _ _ st2 fun b hb o e => hs1.extBut _ _ (fun x => S.zf2 (x ▸ hb)) (hq _ _ (fun x => S.sep1_2 (x ▸ hb)) (hs0.extBut _ _ (fun x => S.zf2 (x ▸ hb)) e))
  refine orEnd_done (s := ⟨q1, g, d, tk0, os⟩) D2 st2q fun q2 hq2 => ?_
  replace hq2 : Heap.ExtBut i2 q1 q2 := hq2
  refine wpAny_pure (wpAny_pure ?_)
  refine wpAny_bind (wpAny_rule ?_)
  show wpAny _ _ (newExc (.type "StopIteration") [] >>= _) _ _ _
  refine wpAny_bind ?_
  simp only [newExc, newTuple]
  refine wpAny_bind (wpAny_newObj_type ?_ (by size_fits))
  refine wpAny_bind (m := firstArgMember _ _) (wpAny_of_eq (a := Value.none) (by first | rfl | (simp only [firstArgMember]; rfl)) ?_)
  refine wpAny_newObj_type ?_ (by size_fits)
  simp only [raiseNew]
  refine wpAny_bind (wpAny_handled ?_)
  first | rw [show A.in1.handled = none from hh] | rw [hh]
  refine wpAny_bind (wpAny_pure (wpAny_throw ?_))
  refine hE _ _ _ (fun c o cz cT c1 c2 e => ?_) ⟨_, Heap.get?_push_size _ rfl, rfl⟩
  exact Heap.get?_push_of_some _ (Heap.get?_push_of_some _ (hq2 _ _ c2 (hs1.extBut _ _ cz (hq _ _ c1 (hs0.extBut _ _ cz e)))))

theorem next_item {Q : Option Value → Shared → Prop} (S : ZipSep2 z TI TO i1 i2 fp1 fp2) (D1 : Draws prog w A.in1 i1 fp1 n P1 St1) (D2 : Draws prog w A.in1 i2 fp2 n P2 St2)
    (hz : IsZS s.heap z TI TO .none) (hTI : IsTupOf2 s.heap TI (.ref i1) (.ref i2)) (hTO : IsTupOf2 s.heap TO a1 a2) (st1 : St1 i s.heap) (st2 : St2 i s.heap) (hlt : i < n)
    (hQ : ∀ x1 x2 h' tk, P1 i x1 → P2 i x2 → IsZS h' z TI TO (rawInt s.heap.objs.size) → IsTupOf2 h' TO x1 x2 → St1 (i + 1) h' → St2 (i + 1) h' → IsTupOf2 h' s.heap.objs.size x1 x2 → h'.objs.size = s.heap.objs.size + 1 →
      (∀ c o, c ≠ z → c ≠ TO → c ≠ i1 → c ≠ i2 → s.heap.get? c = some o → h'.get? c = some o) → Q (some (.ref s.heap.objs.size)) { s with heap := h', toks := tk }) :
    wpAny (model prog w) A (pyNext (.ref z)) Q E s := by
  have hT : s.TypeIs (.ref z) "zip" := ⟨_, hz, rfl⟩
  unfold pyNext
  exact wpAny_bind (wpAny_attempt (wpAny_callSpecial?_slot (name := Str.ofString "__next__") hT F.slot_zip_next (wpAny_call_entry F.slot_zip_next hT F.entry_zip_next
    (zs_item S D1 D2 hz hTI hTO st1 st2 hlt fun x1 x2 h' tk y1 y2 b1 b2 d1 d2 b5 b6 b7 => wpAny_pure (hQ x1 x2 h' tk y1 y2 b1 b2 d1 d2 b5 b6 b7)) (F.args_zip_next_1 _))))
theorem next_end {Q : Option Value → Shared → Prop} (S : ZipSep2 z TI TO i1 i2 fp1 fp2) (D1 : Draws prog w A.in1 i1 fp1 n P1 St1) (D2 : Draws prog w A.in1 i2 fp2 n P2 St2) (hh : A.handled = none)
    (hz : IsZS s.heap z TI TO .none) (hTI : IsTupOf2 s.heap TI (.ref i1) (.ref i2)) (hTO : IsTupOf2 s.heap TO a1 a2) (st1 : St1 n s.heap) (st2 : St2 n s.heap)
    (hQ : ∀ h' tk, (∀ c o, c ≠ z → c ≠ TO → c ≠ i1 → c ≠ i2 → s.heap.get? c = some o → h'.get? c = some o) → Q none { s with heap := h', toks := tk }) : wpAny (model prog w) A (pyNext (.ref z)) Q E s := by
  have hT : s.TypeIs (.ref z) "zip" := ⟨_, hz, rfl⟩
  unfold pyNext
  refine wpAny_bind (wpAny_attempt (wpAny_callSpecial?_slot (name := Str.ofString "__next__") hT F.slot_zip_next
    (wpAny_call_entry F.slot_zip_next hT F.entry_zip_next (zs_end S D1 D2 hz hTI hTO st1 st2 hh fun h' tk e hk he => ?_) (F.args_zip_next_1 _))))
  obtain ⟨o, ho, hc⟩ := he
  exact wpAny_bind (wpAny_isInstance (T := "StopIteration") (b := true) ⟨o, ho, hc⟩ isSubtype_stop (wpAny_pure (hQ _ _ hk)))
theorem letgo {elts : List Expr} {x1} {pos : Pos} {T : Addr} {Q : Unit → Shared → Prop} (hz : IsZS s.heap z TI TO (rawInt T))
    (hQ : ∀ h', IsZS h' z TI TO .none → Heap.SameBut z s.heap h' → Q () { s with heap := h' }) :
    wpAny (model prog w) A (letOwnedTupleGo (.Tuple elts x1 pos) (.ref z) (.ref T)) Q E s := by
  unfold letOwnedTupleGo
  refine wpAny_bind (wpAny_load hz ?_)
  show wpAny _ _ (if (["enumerate", "zip", "dict_itemiterator", "dict_reverseitemiterator", "odict_iterator", "itertools.zip_longest", "itertools.pairwise"].contains "zip" &&
      (#[rawInt T, .bool false, .bool true, .ref TI, .ref TO] : Array Value)[0]? == some (rawInt T)) = true then _ else _) Q E s
  rw [if_pos (by simp)]
  refine wpAny_bind (wpAny_rule ?_)
  show wpAny _ _ (setField (.ref z) 0 .none) Q E s
  exact wpAny_setField_rec hz (by simp) fun h' hz' hs' => hQ h' hz' hs'
theorem iter_zs {f0 : Value} {Q : Value → Shared → Prop} (hz : IsZS s.heap z TI TO f0) (h : Q (.ref z) s) : wpAny (model prog w) A (pyIter (.ref z)) Q E s := by
  have hT : s.TypeIs (.ref z) "zip" := ⟨_, hz, rfl⟩
  refine wpAny_pyIter_slot hT F.slot_zip_iter (wpAny_call_entry F.slot_zip_iter hT F.entry_zip_iter ?_ (F.args_zip_iter_1 _))
  show wpAny _ _ (ret (.ref z)) _ _ s
  exact wpAny_pure ⟨_, rfl, "zip", _, hT, F.slot_zip_next.lookup, h⟩

/-! ### the call -/
abbrev zT (h : Heap) (o1 o2 : Obj) : Heap := ((h.push o1).push o2).push { cls := .type "tuple", data := .seq #[.ref h.objs.size, .ref (h.push o1).objs.size] }
abbrev zO (h : Heap) (o1 o2 : Obj) : Heap := (zT h o1 o2).push { cls := .type "tuple", data := .seq #[.none, .none] }
abbrev zZ (h : Heap) (o1 o2 : Obj) : Heap := (zO h o1 o2).push { cls := .type "zip", data := .fields #[.none, .bool false, .bool true, .ref ((h.push o1).push o2).objs.size, .ref (zT h o1 o2).objs.size] }
theorem tc_strict (a b c : Value) : checkTypeCall "zip" ⟨[a, b], [(Str.ofString "strict", c)]⟩ = pure () := by kernel_rfl
theorem nc_strict (a b c : Value) : checkBuiltinCall "zip.__new__" ⟨[.type "zip", a, b], [(Str.ofString "strict", c)]⟩ = pure () := by kernel_rfl
theorem ai_strict (obj a b c : Value) : argsOk "object.__init__" ⟨[obj, a, b], [(Str.ofString "strict", c)]⟩ := by unfold argsOk; kernel_rfl
theorem meets_zs {v1 v2 : Value} {o1 o2 : Obj} {H1 H2 : Heap → Prop} (B1 : Begins v1 o1 H1) (B2 : Begins v2 o2 H2) :
    Meets (Builtin.«zip.__new__» ⟨[.type "zip", v1, v2], [(Str.ofString "strict", .bool true)]⟩) (fun _ R s => (H1 s.heap ∧ H2 s.heap) ∧
      R (.ok (.ret (.ref (zO s.heap o1 o2).objs.size))) { s with heap := zZ s.heap o1 o2 }) :=
  .of_wp fun prog w A R s h => by
    obtain ⟨hp, g, d, tk, os⟩ := s; obtain ⟨⟨h1, h2⟩, h⟩ := h
    have hsub := sub_zip
    have q1 : ∀ {A' : Around} {E : Value → Shared → Prop} {Q : Value → Shared → Prop}, Q (.ref hp.objs.size) ⟨(hp.push o1), g, d, tk, os⟩ → wpAny (model prog w) A' (pyIter v1) Q E ⟨hp, g, d, tk, os⟩ :=
      fun q => B1.iter prog w _ _ ⟨hp, g, d, tk, os⟩ _ h1 q
    have q2 : ∀ {A' : Around} {E : Value → Shared → Prop} {Q : Value → Shared → Prop}, Q (.ref (hp.push o1).objs.size) ⟨((hp.push o1).push o2), g, d, tk, os⟩ → wpAny (model prog w) A' (pyIter v2) Q E ⟨(hp.push o1), g, d, tk, os⟩ :=
      fun q => B2.iter prog w _ _ ⟨(hp.push o1), g, d, tk, os⟩ _ (B2.keeps _ _ h2 fun b o' e => (Heap.get?_push_of_some _ e)) q
    have e1 : (Str.ofString "strict" == ("strict" : Str)) = true := by decide +kernel
    have e2 : (Str.ofString "strict" != ("strict" : Str)) = false := by decide +kernel
    wp_walk using q1, q2
    exact ⟨_, rfl, h⟩
/-- its five new cells -/
theorem begins_zs {v1 v2 : Value} {o1 o2 : Obj} {H1 H2 : Heap → Prop} {Q : Value → Shared → Prop} (B1 : Begins v1 o1 H1) (B2 : Begins v2 o2 H2) (h1 : H1 s.heap) (h2 : H2 s.heap)
    (h : ∀ h', IsZS h' (s.heap.objs.size + 4) (s.heap.objs.size + 2) (s.heap.objs.size + 3) .none → IsTupOf2 h' (s.heap.objs.size + 2) (.ref s.heap.objs.size) (.ref (s.heap.objs.size + 1)) →
      IsTupOf2 h' (s.heap.objs.size + 3) .none .none → h'.get? s.heap.objs.size = some o1 → h'.get? (s.heap.objs.size + 1) = some o2 →
      (∀ c o, s.heap.get? c = some o → h'.get? c = some o) → Q (.ref (s.heap.objs.size + 4)) { s with heap := h' }) :
    wpAny (model prog w) A (call (.type "zip") [v1, v2] [(Str.ofString "strict", .bool true)]) Q E s := by
  refine callType_newKw F.called_zip (by decide) (tc_strict _ _ _) (nc_strict _ _ _) (fun obj => ai_strict obj _ _ _) F.entry_zip_new (meets_zs B1 B2) ⟨⟨h1, h2⟩, ?_⟩
  have z1 : (s.heap.push o1).objs.size = s.heap.objs.size + 1 := by rw [Heap.size_push]
  have z2 : ((s.heap.push o1).push o2).objs.size = s.heap.objs.size + 2 := by rw [Heap.size_push, z1]
  have z3 : (zT s.heap o1 o2).objs.size = s.heap.objs.size + 3 := by rw [Heap.size_push, z2]
  have z4 : (zO s.heap o1 o2).objs.size = s.heap.objs.size + 4 := by rw [Heap.size_push, z3]
  have gZ : (zZ s.heap o1 o2).get? (zO s.heap o1 o2).objs.size = some { cls := .type "zip", data := .fields #[.none, .bool false, .bool true, .ref ((s.heap.push o1).push o2).objs.size, .ref (zT s.heap o1 o2).objs.size] } := Heap.get?_push_size _ rfl
  have gO : (zZ s.heap o1 o2).get? (zT s.heap o1 o2).objs.size = some { cls := .type "tuple", data := .seq #[.none, .none] } := Heap.get?_push_of_some _ (Heap.get?_push_size _ rfl)
  have gT : (zZ s.heap o1 o2).get? ((s.heap.push o1).push o2).objs.size = some { cls := .type "tuple", data := .seq #[.ref s.heap.objs.size, .ref (s.heap.push o1).objs.size] } := Heap.get?_push_of_some _ (Heap.get?_push_of_some _ (Heap.get?_push_size _ rfl))
  have g1 : (zZ s.heap o1 o2).get? s.heap.objs.size = some o1 := Heap.get?_push_of_some _ (Heap.get?_push_of_some _ (Heap.get?_push_of_some _ (Heap.get?_push_of_some _ (Heap.get?_push_size _ B1.free))))
  have g2 : (zZ s.heap o1 o2).get? (s.heap.push o1).objs.size = some o2 := Heap.get?_push_of_some _ (Heap.get?_push_of_some _ (Heap.get?_push_of_some _ (Heap.get?_push_size _ B2.free)))
  rw [z4, z3, z2] at gZ
  rw [z3] at gO
  rw [z2, z1] at gT
  rw [z1] at g2
  show _ ∧ _
  rw [z4]
  exact ⟨⟨_, gZ, rfl⟩, h _ gZ gT gO g1 g2 fun c o e => Heap.get?_push_of_some _ (Heap.get?_push_of_some _ (Heap.get?_push_of_some _ (Heap.get?_push_of_some _ (Heap.get?_push_of_some _ e))))⟩
end
end TGZ

namespace TGZ
open PySem PySem.Spec PyProof.Rows L2
/-- n pairs x i, y i while G stands -/
def ItS (n : Nat) (G : Hp → Prop) (x y : Nat → V) : It :=
  ⟨fun i H => i < n ∧ G H, fun i H v H' => ∃ T, v = .ref T ∧ H T = none ∧ H' = upd H T (.tup [x i, y i]), fun i H => i = n ∧ G H⟩
/-- one of the two that are walked: its iterator's state tn at it, drawn from what G says -/
structure Src (P : Program) (w : World) (K : PySem.W.Frag) (G : Hp → Prop) (n : Nat) (x : Nat → V) (it : Addr) (cs : List Addr) (tn : Nat → Heap → Prop) : Prop where
  obj : ∀ i h, tn i h → ∃ o, h.get? it = some o ∧ ∀ v, o.data ≠ .cell v
  keep : ∀ i h h', tn i h → (∀ o, h.get? it = some o → h'.get? it = some o) → tn i h'
  drw : ∀ (X : Cx), X.prog = P → X.w = w → X.K = K → X.calm = true → ∀ (pins : List (Addr × Obj)) (s : Shared) (σ : L2.St) (H : Hp), Inv X pins σ H s → G H →
    ∃ (Pr : Nat → Value → Prop) (St : Nat → Heap → Prop), Draws P w X.A.in1 it (it :: cs) n Pr St ∧ (∀ i, tn i s.heap → St i s.heap) ∧ (∀ i h, St i h → tn i h) ∧ ∀ i v, i < n → Pr i v → RelV (x i) v
theorem Src.and {P : Program} {w : World} {K : PySem.W.Frag} {G G' : Hp → Prop} {n : Nat} {x : Nat → V} {it : Addr} {cs : List Addr} {tn : Nat → Heap → Prop} (S : Src P w K G n x it cs tn) (h : ∀ H, G' H → G H) : Src P w K G' n x it cs tn :=
  ⟨S.obj, S.keep, fun X a b c d pins s σ H I g => S.drw X a b c d pins s σ H I (h H g)⟩

theorem turn_zs {P : Program} {w : World} {K : PySem.W.Frag} {elts : List Expr} {kk : Nat} {tpos : Pos} {G : Hp → Prop} {n : Nat} {x y : Nat → V} {z TI TO i1 i2 : Addr} {c1 c2 : List Addr} {t1 t2 : Nat → Heap → Prop}
    (D : ZipSep2 z TI TO i1 i2 (i1 :: c1) (i2 :: c2)) (S1 : Src P w K G n x i1 c1 t1) (S2 : Src P w K G n y i2 c2 t2) :
    Turn P w K (.Tuple elts kk tpos) (ItS n G x y) [z, TI, TO, i1, i2] z (fun i h => IsZS h z TI TO .none ∧ IsTupOf2 h TI (.ref i1) (.ref i2) ∧ (∃ a b, IsTupOf2 h TO a b) ∧ t1 i h ∧ t2 i h) where
  mem := by simp
  obj := fun i h st c hc => by
    obtain ⟨hz, hTI, ⟨a, b, hTO⟩, h1, h2⟩ := st
    have e' : c = z ∨ c = TI ∨ c = TO ∨ c = i1 ∨ c = i2 := by simpa using hc
    rcases e' with q | q | q | q | q
    · rw [q]; exact ⟨_, hz, fun v q => nomatch q⟩
    · rw [q]; exact ⟨_, hTI, fun v q => nomatch q⟩
    · rw [q]; exact ⟨_, hTO, fun v q => nomatch q⟩
    · rw [q]; exact S1.obj i h h1
    · rw [q]; exact S2.obj i h h2
  keep := fun i h h' st k => by
    obtain ⟨hz, hTI, ⟨a, b, hTO⟩, h1, h2⟩ := st
    exact ⟨k z (by simp) _ hz, k TI (by simp) _ hTI, ⟨a, b, k TO (by simp) _ hTO⟩, S1.keep _ _ _ h1 fun o q => k i1 (by simp) o q, S2.keep _ _ _ h2 fun o q => k i2 (by simp) o q⟩
  item := by
    intro X hP hw hK hc i pins s σ H E I hf st hg
    subst hP hw hK
    obtain ⟨hz, hTI, ⟨x0, y0, hTO⟩, h1, h2⟩ := st
    obtain ⟨hlt, g⟩ := hg
    obtain ⟨P1, St1, D1, a1, b1, r1⟩ := S1.drw X rfl rfl rfl hc pins s σ H I g
    obtain ⟨P2, St2, D2, a2, b2, r2⟩ := S2.drw X rfl rfl rfl hc pins s σ H I g
    have hzl : z < s.heap.objs.size := Heap.lt_size hz
    refine next_item D D1 D2 hz hTI hTO (a1 i h1) (a2 i h2) hlt fun u u2 h' tk p1 p2 z' TO' s1 s2 hT hsz hk => ?_
    refine ⟨_, rfl, letgo (s := { s with heap := h', toks := tk }) z' fun h'' z'' sb => ?_⟩
    have hT2 : h''.get? s.heap.objs.size = some { cls := .type "tuple", data := .seq #[u, u2] } := (sb.2 _ (Nat.ne_of_gt hzl)).trans hT
    have new : ObjOk X.prog X.w (upd H s.heap.objs.size (.tup [x i, y i])) h'' s.heap.objs.size (.tup [x i, y i]) :=
      ⟨by show 2 ≤ sizeLine; decide, [u, u2], .cons (r1 i u hlt p1) (.cons (r2 i u2 hlt p2) .nil), ⟨_, hT2, rfl, _, rfl⟩⟩
    have I1 : Inv X pins σ (upd H s.heap.objs.size (.tup [x i, y i])) { s with heap := h'', toks := tk } :=
      I.turnedNew (ch := [z, TI, TO, i1, i2]) (fun c o hb q => (sb.2 c (fun q' => hb (by simp [q']))).trans (hk c o (fun q' => hb (by simp [q'])) (fun q' => hb (by simp [q'])) (fun q' => hb (by simp [q'])) (fun q' => hb (by simp [q'])) q)) hf (Nat.le_refl _) new
    obtain ⟨q1, e1, _⟩ := S1.obj i _ h1
    obtain ⟨q2, e2, _⟩ := S2.obj i _ h2
    refine ⟨.ref s.heap.objs.size, _, I1, rfl, ⟨_, rfl, I.hok.fresh (Nat.le_refl _), rfl⟩, ⟨z'', ?_, ⟨u, u2, ?_⟩, ?_, ?_⟩, fun c hcm => ?_⟩
    · exact (sb.2 _ D.TIz).trans (hk _ _ D.TIz D.TITO D.TIi1 D.TIi2 hTI)
    · exact (sb.2 _ D.TOz).trans TO'
    · exact S1.keep _ _ _ (b1 _ _ s1) fun o q => (sb.2 _ (Ne.symm D.zi1)).trans q
    · exact S2.keep _ _ _ (b2 _ _ s2) fun o q => (sb.2 _ (Ne.symm D.zi2)).trans q
    · have hlt2 : c < s.heap.objs.size := by
        have e' : c = z ∨ c = TI ∨ c = TO ∨ c = i1 ∨ c = i2 := by simpa using hcm
        rcases e' with q | q | q | q | q
        · rw [q]; exact hzl
        · rw [q]; exact Heap.lt_size hTI
        · rw [q]; exact Heap.lt_size hTO
        · rw [q]; exact Heap.lt_size e1
        · rw [q]; exact Heap.lt_size e2
      rw [upd_ne (Nat.ne_of_lt hlt2)]
      exact (hf c hcm).1
  done := by
    intro X hP hw hK hc i pins s σ H E I hf st hg
    subst hP hw hK
    obtain ⟨hz, hTI, ⟨x0, y0, hTO⟩, h1, h2⟩ := st
    obtain ⟨rfl, g⟩ := hg
    obtain ⟨P1, St1, D1, a1, b1, r1⟩ := S1.drw X rfl rfl rfl hc pins s σ H I g
    obtain ⟨P2, St2, D2, a2, b2, r2⟩ := S2.drw X rfl rfl rfl hc pins s σ H I g
    exact next_end D D1 D2 (I.ok.hd hc) hz hTI hTO (a1 _ h1) (a2 _ h2) fun h' tk hk => ⟨rfl, I.turnedL (ch := [z, TI, TO, i1, i2]) (fun c o hb q =>
      hk c o (fun q' => hb (by simp [q'])) (fun q' => hb (by simp [q'])) (fun q' => hb (by simp [q'])) (fun q' => hb (by simp [q'])) q) hf⟩
  self := fun A i s Q E st h => iter_zs st.1 h

/-- what is handed to zip: its items, how it begins -/
structure Wlk (X : Cx) (v : V) (u : Value) (G : Hp → Prop) (n : Nat) (x : Nat → V) : Prop where
  go : ∀ (pins : List (Addr × Obj)) (s : Shared) (σ : L2.St) (H : Hp), Inv X pins σ H s → RelV v u → G H → ∃ (o : Obj) (Hb : Heap → Prop) (cs : List Addr) (tn : Addr → Nat → Heap → Prop), Begins u o Hb ∧ Hb s.heap ∧ (∀ b ∈ cs, b < s.heap.objs.size) ∧
    ∀ it, s.heap.objs.size ≤ it → (∀ P w, Src P w X.K G n x it cs (tn it)) ∧ ∀ h, h.get? it = some o → tn it 0 h
end TGZ
namespace TGZ
open PySem PySem.Spec PyProof.Rows L2

theorem callWith_tkw {M : Model} {A : Around} {E : Value → Shared → Prop} {s : Shared} {pos : Pos} {T : String} {args : List (Bool × Sem Value)} {keywords : List (Option Str × Sem Value)} {Q : Value → Shared → Prop}
    (hplain : args.any (·.1) = false) (hkw : keywords.any (·.1.isNone) = false)
    (h : wpAny M A (evalArgs (.type T) true args keywords) (fun a s₁ => wpAny M A (call (.type T) a.pos a.kw) Q E s₁) E s) :
    wpAny M A (callWith pos (.type T) [] args keywords) Q E s := by
  unfold callWith
  refine wpAny_bind (wpAny_holding (wpAny_mono h (fun a s₁ h₁ => wpAny_bind (wpAny_standAt ?_)) fun _ _ x => x))
  simp only [hplain, hkw, Bool.or_false]
  refine wpAny_bind (wpAny_pure ?_)
  exact wpAny_bind (wpAny_mono h₁ (fun r s₂ hr => wpAny_bind (wpAny_holding (wpAny_point (wpAny_pure hr)))) fun _ _ x => x)

/-- a list, a tuple, a text that is walked: its items while G stands -/
inductive Wv (K : PySem.W.Frag) : V → Nat → (Nat → V) → (Hp → Prop) → Prop
  | lst (a : Addr) (xs : List V) : Wv K (.ref a) xs.length (fun i => xs.getD i .non) (fun H => SqL K H a xs)
  | tup (a : Addr) (xs : List V) : Wv K (.ref a) xs.length (fun i => xs.getD i .non) (fun H => SqT K H a xs)
  | txt (z : Str) : Wv K (.str z) z.cps.size (fun i => .str ⟨#[z.cps.getD i 0]⟩) (fun _ => True)

theorem Wv.wlk {X : Cx} {v : V} {u : Value} {n : Nat} {x : Nat → V} {G : Hp → Prop} (h : Wv X.K v n x G) : Wlk X v u G n x := by
  cases h with
  | lst a xs =>
    refine ⟨fun pins s σ H I r g => ?_⟩
    cases r
    obtain ⟨its, rv, p, _⟩ := I.list g
    refine ⟨_, _, [a], fun it i h => h.IsListIter it a i, begins_list a its.toArray, p.isList, fun b hb => ?_, fun it hit => ⟨fun P w => ⟨fun i h st => ?_, fun i h h' st k => st.at fun o q => k o q, fun X2 e1 e2 e3 hc pins2 s2 σ2 H2 I2 g2 => ?_⟩, fun h q => ⟨_, q, rfl, rfl⟩⟩⟩
    · have e : b = a := by simpa using hb
      rw [e]; exact p.lt
    · obtain ⟨o, e, _, d⟩ := st
      exact ⟨o, e, fun v q => by rw [d] at q; cases q⟩
    · subst e1 e2
      rw [← e3] at g2
      obtain ⟨its2, rv2, p2, _⟩ := I2.list g2
      have hne : a ≠ it := Nat.ne_of_lt (Nat.lt_of_lt_of_le p.lt hit)
      have hl : its2.toArray.size = xs.length := by rw [List.size_toArray]; exact rv2.length.symm
      have D := Draws.list (prog := X2.prog) (w := X2.w) (A := X2.A.in1) (I2.ok.hd hc) it a hne its2.toArray
      rw [hl] at D
      refine ⟨_, _, D, fun i st => ⟨st, p2.isList⟩, fun i h st => st.1, fun i v hi hv => ?_⟩
      obtain ⟨u, hu, ru⟩ := rv2.get (List.getElem?_eq_getElem hi)
      have e : v = u := by
        have : its2.toArray[i]? = some u := by simpa using hu
        exact Option.some.inj (hv.symm.trans this)
      rw [List.getD_eq_getElem?_getD, List.getElem?_eq_getElem hi, e]
      exact ru
  | tup a xs =>
    refine ⟨fun pins s σ H I r g => ?_⟩
    cases r
    obtain ⟨its, rv, p, _⟩ := I.tuple g
    have lt : a < s.heap.objs.size := by
      obtain ⟨_, q, _⟩ := id p
      exact Heap.lt_size q
    refine ⟨_, _, [a], fun it i h => h.IsTupleIter it a i, begins_tuple a its.toArray, (show s.heap.IsTuple a its.toArray from p), fun b hb => ?_, fun it hit => ⟨fun P w => ⟨fun i h st => ?_, fun i h h' st k => st.at fun o q => k o q, fun X2 e1 e2 e3 hc pins2 s2 σ2 H2 I2 g2 => ?_⟩, fun h q => ⟨_, q, rfl, rfl⟩⟩⟩
    · have e : b = a := by simpa using hb
      rw [e]; exact lt
    · obtain ⟨o, e, _, d⟩ := st
      exact ⟨o, e, fun v q => by rw [d] at q; cases q⟩
    · subst e1 e2
      rw [← e3] at g2
      obtain ⟨its2, rv2, p2, _⟩ := I2.tuple g2
      have hne : a ≠ it := Nat.ne_of_lt (Nat.lt_of_lt_of_le lt hit)
      have hl : its2.toArray.size = xs.length := by rw [List.size_toArray]; exact rv2.length.symm
      have D := Draws.tuple (prog := X2.prog) (w := X2.w) (A := X2.A.in1) (I2.ok.hd hc) it a hne its2.toArray
      rw [hl] at D
      refine ⟨_, _, D, fun i st => ⟨st, (show s2.heap.IsTuple a its2.toArray from p2)⟩, fun i h st => st.1, fun i v hi hv => ?_⟩
      obtain ⟨u, hu, ru⟩ := rv2.get (List.getElem?_eq_getElem hi)
      have e : v = u := by
        have : its2.toArray[i]? = some u := by simpa using hu
        exact Option.some.inj (hv.symm.trans this)
      rw [List.getD_eq_getElem?_getD, List.getElem?_eq_getElem hi, e]
      exact ru
  | txt z =>
    refine ⟨fun pins s σ H I r g => ?_⟩
    obtain ⟨t, rfl⟩ := r
    refine ⟨_, _, [], fun it i h => h.IsStrIter it (strIterType z) z t i, begins_text z t, trivial, fun b hb => (by simp at hb), fun it hit => ⟨fun P w => ⟨fun i h st => ?_, fun i h h' st k => ?_, fun X2 e1 e2 e3 hc pins2 s2 σ2 H2 I2 g2 => ?_⟩, fun h q => ⟨_, q, rfl, rfl⟩⟩⟩
    · obtain ⟨o, e, _, d⟩ := st
      exact ⟨o, e, fun v q => by rw [d] at q; cases q⟩
    · obtain ⟨o, e, r⟩ := st
      exact ⟨o, k o e, r⟩
    · subst e1 e2
      refine ⟨_, _, Draws.text (prog := X2.prog) (w := X2.w) (A := X2.A.in1) (I2.ok.hd hc) it z t, fun i st => st, fun i h st => st, fun i v hi hv => ?_⟩
      obtain ⟨c, u, hcp, rfl⟩ := hv
      refine ⟨u, ?_⟩
      rw [Array.getD_eq_getD_getElem?, hcp]
      rfl

def iZS (K : PySem.W.Frag) (ta : TA) : TI := fun σ H R => ta σ H fun vs H1 => ∃ (v1 v2 : V) (n : Nat) (x y : Nat → V) (G1 G2 : Hp → Prop), vs = [v1, v2] ∧ Wv K v1 n x G1 ∧ Wv K v2 n y G2 ∧ G1 H1 ∧ G2 H1 ∧ R (ItS n (fun H => G1 H ∧ G2 H) x y) H1
theorem pi_zs {X : Cx} {e e2 : Expr} {ta : TA} {p pos tpos cp kp : Pos} {elts : List Expr} {kk ck : Nat} (hg : Gl X "zip") (hm : X.mg "zip" = none) (ha : PA X [e, e2] ta)
    (he : backTo pos (starEach (e :: [e2]) X.env) = (false, eval e X.env) :: backTo pos (starEach [e2] X.env) := by rfl)
    (hplain : (backTo pos (starEach (e :: [e2]) X.env)).any (·.1) = false := by rfl) :
    PI X (.Tuple elts kk tpos) (.Call (.Name "zip" p) [e, e2] [⟨some (Str.ofString "strict"), .Constant (.bool true) ck cp, kp⟩] pos) (iZS X.K ta) := by
  refine ⟨fun pins s σ H R I h => ?_⟩
  refine wpAny_Call_Name_kw (ld_blt I hg hm PyProof.Rows.boot_zip ?_)
  refine callWith_tkw hplain rfl ?_
  have hq := ha.run pos pins s σ H _ I h
  rw [he] at hq ⊢
  refine evalArgs_kwB rfl ?_
  refine thn hq fun us s1 ⟨vs, H1, I1, r1, q1⟩ => ?_
  obtain ⟨v1, v2, n, x, y, G1, G2, rfl, w1, w2, g1, g2, q⟩ := q1
  refine kws_cons (Constant_bool (kws_nil ?_))
  obtain ⟨u1, u2, rfl, r, r'⟩ : ∃ u1 u2, us = [u1, u2] ∧ RelV v1 u1 ∧ RelV v2 u2 := by
    cases r1 with
    | cons r rr =>
      cases rr with
      | cons r' rr =>
        cases rr
        exact ⟨_, _, rfl, r, r'⟩
  obtain ⟨o1, Hb1, cs1, tn1, B1, hb1, l1, src1⟩ := w1.wlk.go pins s1 σ H1 I1 r g1
  obtain ⟨o2, Hb2, cs2, tn2, B2, hb2, l2, src2⟩ := w2.wlk.go pins s1 σ H1 I1 r' g2
  show wpAny _ _ (call (.type "zip") [u1, u2] [(Str.ofString "strict", .bool true)]) _ _ _
  refine begins_zs B1 B2 hb1 hb2 fun h' hz hTI hTO h1 h2 hk => iter_zs hz ?_
  have I2 : Inv X pins σ H1 { s1 with heap := h' } := I1.kept (t' := s1.toks) hk
  obtain ⟨S1, b1⟩ := src1 s1.heap.objs.size (Nat.le_refl _)
  obtain ⟨S2, b2⟩ := src2 (s1.heap.objs.size + 1) (Nat.le_succ _)
  refine ⟨s1.heap.objs.size + 4, [s1.heap.objs.size + 4, s1.heap.objs.size + 2, s1.heap.objs.size + 3, s1.heap.objs.size, s1.heap.objs.size + 1], _, _, H1, rfl, I2,
    turn_zs (zip_sep2 l1 l2) ((S1 _ _).and fun H g => g.1) ((S2 _ _).and fun H g => g.2), ⟨hz, hTI, ⟨_, _, hTO⟩, b1 _ h1, b2 _ h2⟩, fun c hcm => ?_, q⟩
  have e' : c = s1.heap.objs.size + 4 ∨ c = s1.heap.objs.size + 2 ∨ c = s1.heap.objs.size + 3 ∨ c = s1.heap.objs.size ∨ c = s1.heap.objs.size + 1 := by simpa using hcm
  have hle : s1.heap.objs.size ≤ c := by
    rcases e' with z | z | z | z | z
    · rw [z]; exact Nat.le_add_right _ _
    · rw [z]; exact Nat.le_add_right _ _
    · rw [z]; exact Nat.le_add_right _ _
    · rw [z]; exact Nat.le_refl _
    · rw [z]; exact Nat.le_add_right _ _
  exact I1.fpOk hle (I1.hok.fresh hle)
end TGZ
/-! Rules of our own: x[::-1] of a text and of a tuple; sum, sorted, count of a tuple; a tuple times 0 or 1; enumerate of a tuple. -/
namespace TGZ
open PySem PySem.Spec PyProof.Rows L2
section
variable {X : Cx}
/-! ### texts and tuples backwards -/
def revS (z : Str) : Str := ⟨z.cps.toList.reverse.toArray⟩
theorem rev_pick {α : Type} (xs : Array α) : ((List.range xs.size).map fun k => xs.size - 1 - k).filterMap (xs[·]?) = xs.toList.reverse := by
  have h1 : ((List.range xs.size).map fun k => xs.size - 1 - k) = (List.range xs.size).reverse := by
    apply List.ext_getElem
    · simp
    · intro i h1 h2
      rw [List.getElem_map, List.getElem_reverse]
      simp
  rw [h1, List.filterMap_reverse]
  congr 1
  exact PySem.W.krv_all xs
theorem fm_congr {α β : Type} {f g : α → Option β} : ∀ {l : List α}, (∀ a ∈ l, f a = g a) → l.filterMap f = l.filterMap g
  | [], _ => rfl
  | a :: l, h => by
    have ih := fm_congr fun b hb => h b (List.mem_cons_of_mem a hb)
    rw [List.filterMap_cons, List.filterMap_cons, h a List.mem_cons_self, ih]
def tRevS (te : TE) : TE := fun σ H Q => te σ H fun x H1 => ∃ z : Str, x = .str z ∧ z.length ≤ sizeLine ∧ Q (.str (revS z)) H1
theorem pe_revS {e : Expr} {te : TE} {k : Nat} {p1 p2 p3 pos : Pos} (he : PE X e te) : PE X (.Subscript e (.Slice none none (some (.UnaryOp .USub (.Constant (.int 1) k p1) p2)) p3) pos) (tRevS te) := by
  refine ⟨fun pins s σ H Q I h => ?_⟩
  refine Subscript_ (thn (he.run pins s σ H _ I h) fun v s1 ⟨x, H1, I1, r1, q1⟩ => ?_)
  obtain ⟨z, rfl, hz, q⟩ := q1
  obtain ⟨t, rfl⟩ := r1
  have hst : PO X (some (.UnaryOp .USub (.Constant (.int 1) k p1) p2)) (tPart (tUn (rU fun i => .int (-i)) (tC (.int 1)))) := po_some (pe_un un_neg pe_int)
  refine wpAny_Slice (thn (po_none.run pins s1 σ H1 (fun o H2 => o = none ∧ H2 = H1) I1 ⟨rfl, rfl⟩) fun vl s2 ⟨l, H2, I2, pl, el, e2⟩ => ?_)
  subst el e2
  refine thn (po_none.run pins s2 σ H2 (fun o H3 => o = none ∧ H3 = H2) I2 ⟨rfl, rfl⟩) fun vu s3 ⟨u, H3, I3, pu, eu, e3⟩ => ?_
  subst eu e3
  refine thn (hst.run pins s3 σ H3 (fun o H4 => o = some (-1) ∧ H4 = H3) I3 ⟨1, rfl, -1, rfl, rfl, rfl⟩) fun vs s4 ⟨o, H4, I4, ps, eo, e4⟩ => ?_
  subst eo e4
  obtain ⟨tk, rfl⟩ : ∃ tk, vs = .int (-1) tk := by
    cases ps
    exact ⟨_, rfl⟩
  obtain rfl : vl = .none := by
    cases pl
    rfl
  obtain rfl : vu = .none := by
    cases pu
    rfl
  have I5 : L2.Inv X pins σ H4 { s4 with heap := s4.heap.push { cls := .type "slice", data := .fields #[.none, .none, .int (-1) tk] } } := I4.kept (t' := s4.toks) fun b ob q => Heap.get?_push_of_some _ q
  show wpAny (model X.prog X.w) X.A (subscriptTail e (.Slice none none (some (.UnaryOp .USub (.Constant (.int 1) k p1) p2)) p3) (.str z t) (.ref s4.heap.objs.size)) (EP X pins σ Q) X.xe { s4 with heap := s4.heap.push { cls := .type "slice", data := .fields #[.none, .none, .int (-1) tk] } }
  refine tail_any (ops := [.str z t, .ref s4.heap.objs.size]) (typeIs_str _ _ _) PySem.F.slot_str_getitem.lookup ?_ (by with_unfolding_all rfl)
  refine wpAny_getItem_str_slice (l := none) (u := none) (st := some (-1, tk)) ⟨_, Heap.get?_push_size _ rfl, rfl, rfl⟩ rfl ?_
  show Made.post (if (((-1 : Int) == 1) && (Builtin.Str.strSliceIndices none none (-1) z.length).length == z.length) = true then Made.val (.str z t)
    else Made.str ⟨((Builtin.Str.strSliceIndices none none (-1) z.length).filterMap (z.cps[·]?)).toArray⟩) _ _
  have c : ¬ (((-1 : Int) == 1) && (Builtin.Str.strSliceIndices none none (-1) z.length).length == z.length) = true := by
    have e : ((-1 : Int) == 1) = false := by decide
    rw [e, Bool.false_and]
    exact Bool.false_ne_true
  rw [if_neg c, PyProof.Rows.picked_rev]
  have e : ((List.range z.length).map fun k => z.length - 1 - k).filterMap (z.cps[·]?) = z.cps.toList.reverse := rev_pick z.cps
  rw [e]
  refine ⟨?_, .str (revS z), H4, I5.tok _, ⟨_, rfl⟩, q⟩
  have hz2 : z.cps.size ≤ sizeLine := hz
  show (z.cps.toList.reverse.toArray).size ≤ sizeLine
  simpa using hz2

theorem adj_rev (n : Nat) : Builtin.Slice.sliceAdjust none none (-1) (n : Int) = ((n : Int) - 1, -1) := by
  unfold Builtin.Slice.sliceAdjust
  have h1 : ((-1 : Int) < 0) := by decide
  simp only [h1, if_true]
theorem places_rev (n : Nat) : Builtin.Slice.slicePlaces ((n : Int) - 1) (-1) (-1) = n := by
  unfold Builtin.Slice.slicePlaces
  have h1 : ¬ ((-1 : Int) > 0) := by decide
  simp only [h1, if_false]
  rw [show (-(-1) : Int) = 1 by decide, Int.ediv_one]
  split <;> omega
theorem getItem_tuple_rev {prog : Program} {w : World} {A : Around} {E : Value → Shared → Prop} {s : Shared} {t sl : Addr} {items : Array Value} {tk : Tok} {Q : Value → Shared → Prop} (ht : IsTup s.heap t items) (hs : s.heap.IsSliceOf sl .none .none (.int (-1) tk))
    (h : Q (.ref s.heap.objs.size) { s with heap := s.heap.push { cls := .type "tuple", data := .seq items.toList.reverse.toArray } })
    (hsz : items.size ≤ sizeLine) : wpAny (model prog w) A (getItem (.ref t) (.ref sl)) Q E s := by
  have htake : sizeOk (.seq items.toList.reverse.toArray) := by
    show items.toList.reverse.toArray.size ≤ sizeLine
    simpa using hsz
  obtain ⟨os, hos, hcs, hds⟩ := id hs
  have hTs : s.TypeIs (.ref sl) "slice" := ⟨os, hos, hcs⟩
  unfold getItem
  try with_reducible refine wpAny_holding ?_
  first | refine wpAny_bind (wpAny_pure ?_) | skip
  refine wpAny_bind (wpAny_sequenceKey ht.typeIs (by decide) ?_)
  refine wpAny_bind (wpAny_callSpecial?_slot (name := Str.ofString "__getitem__") ht.typeIs PyProof.Rows.slot_tuple_getitem
    (wpAny_call_entry PyProof.Rows.slot_tuple_getitem ht.typeIs PyProof.Rows.entry_tuple_getitem ?_ (PyProof.Rows.args_tuple_getitem _ _)))
  show wpAny _ _ (Builtin.Tuple.tupleItemsOf (.ref t) >>= _) _ _ s
  refine wpAny_bind (PyProof.Rows.tupleItemsOf_ ht ?_)
  refine wpAny_bind (wpAny_typeOf hTs ?_)
  rw [if_pos (by decide)]
  have happ : ∀ {Q' : Int × Int × Nat → Shared → Prop}, Q' ((items.size : Int) - 1, -1, items.size) s → wpAny (model prog w) A.in1 (Builtin.Slice.sliceApplied (.ref sl) (pure (items.size : Int))) Q' E s := by
    intro Q' hq
    unfold Builtin.Slice.sliceApplied Builtin.Slice.sliceFields
    refine wpAny_bind (wpAny_bind (wpAny_field hos hds (x := .none) rfl (wpAny_bind (wpAny_field hos hds (x := .none) rfl (wpAny_bind (wpAny_field hos hds (x := .int (-1) tk) rfl (wpAny_pure ?_)))))))
    refine wpAny_bind (slicePart_int ?_)
    show wpAny _ _ (if ((-1 : Int) == 0) = true then _ else _) _ _ s
    rw [if_neg (by decide)]
    refine wpAny_bind (slicePart_none (wpAny_bind (slicePart_none (wpAny_bind (wpAny_pure ?_)))))
    show wpAny _ _ (match Builtin.Slice.sliceAdjust none none (-1) (items.size : Int) with | (lo, hi) => pure (lo, (-1 : Int), Builtin.Slice.slicePlaces lo hi (-1))) _ _ s
    rw [adj_rev]
    show wpAny _ _ (pure ((items.size : Int) - 1, (-1 : Int), Builtin.Slice.slicePlaces ((items.size : Int) - 1) (-1) (-1))) _ _ s
    rw [places_rev]
    exact wpAny_pure hq
  refine wpAny_bind (happ ?_)
  have hno : ¬ ((((items.size : Int) - 1 == 0) && ((-1 : Int) == 1) && (items.size == items.size)) = true) := by
    have e : ((-1 : Int) == 1) = false := by decide
    rw [e, Bool.and_false, Bool.false_and]
    exact Bool.false_ne_true
  show wpAny _ _ (if (((items.size : Int) - 1 == 0) && ((-1 : Int) == 1) && (items.size == items.size)) = true then _ else _) _ _ s
  rw [if_neg hno]
  have ep : ((List.range items.size).filterMap fun (m : Nat) => items[(((items.size : Int) - 1) + (m : Int) * (-1)).toNat]?).toArray = items.toList.reverse.toArray := by
    rw [← rev_pick items, List.filterMap_map]
    congr 1
    refine fm_congr fun m hm => ?_
    have := List.mem_range.mp hm
    have e : (((items.size : Int) - 1) + (m : Int) * (-1)).toNat = items.size - 1 - m := by omega
    rw [e]
    rfl
  rw [ep]
  first
    | exact wpAny_bind (m := Builtin.Tuple.tupleExact _) (wpAny_newObj_type (wpAny_pure ⟨_, rfl, wpAny_pure h⟩) htake)
    | exact wpAny_bind (m := Builtin.Tuple.tupleExact _) (wpAny_newObj_type (wpAny_bind (wpAny_pure (wpAny_pure ⟨_, rfl, wpAny_pure h⟩))) htake)
    | exact wpAny_bind (wpAny_bind (m := Builtin.Tuple.tupleExact _) (wpAny_newObj_type (wpAny_pure (wpAny_pure ⟨_, rfl, wpAny_pure h⟩)) htake))
    | exact wpAny_bind (wpAny_bind (m := Builtin.Tuple.tupleExact _) (wpAny_newObj_type (wpAny_pure ⟨_, rfl, wpAny_pure h⟩) htake))
def tRevT (K : PySem.W.Frag) (te : TE) : TE := fun σ H Q => te σ H fun x H1 => ∃ a xs, x = .ref a ∧ SqT K H1 a xs ∧ ∀ p, H1 p = none → Q (.ref p) (upd H1 p (.tup xs.reverse))
theorem pe_revT {e : Expr} {te : TE} {k : Nat} {p1 p2 p3 pos : Pos} (he : PE X e te) : PE X (.Subscript e (.Slice none none (some (.UnaryOp .USub (.Constant (.int 1) k p1) p2)) p3) pos) (tRevT X.K te) := by
  refine ⟨fun pins s σ H Q I h => ?_⟩
  refine Subscript_ (thn (he.run pins s σ H _ I h) fun v s1 ⟨x, H1, I1, r1, q1⟩ => ?_)
  obtain ⟨a, xs, rfl, hx, q⟩ := q1
  cases r1
  have hst : PO X (some (.UnaryOp .USub (.Constant (.int 1) k p1) p2)) (tPart (tUn (rU fun i => .int (-i)) (tC (.int 1)))) := po_some (pe_un un_neg pe_int)
  refine wpAny_Slice (thn (po_none.run pins s1 σ H1 (fun o H2 => o = none ∧ H2 = H1) I1 ⟨rfl, rfl⟩) fun vl s2 ⟨l, H2, I2, pl, el, e2⟩ => ?_)
  subst el e2
  refine thn (po_none.run pins s2 σ H2 (fun o H3 => o = none ∧ H3 = H2) I2 ⟨rfl, rfl⟩) fun vu s3 ⟨u, H3, I3, pu, eu, e3⟩ => ?_
  subst eu e3
  refine thn (hst.run pins s3 σ H3 (fun o H4 => o = some (-1) ∧ H4 = H3) I3 ⟨1, rfl, -1, rfl, rfl, rfl⟩) fun vs s4 ⟨o, H4, I4, ps, eo, e4⟩ => ?_
  subst eo e4
  obtain ⟨tk, rfl⟩ : ∃ tk, vs = .int (-1) tk := by
    cases ps
    exact ⟨_, rfl⟩
  obtain rfl : vl = .none := by
    cases pl
    rfl
  obtain rfl : vu = .none := by
    cases pu
    rfl
  have I5 : L2.Inv X pins σ H4 { s4 with heap := s4.heap.push { cls := .type "slice", data := .fields #[.none, .none, .int (-1) tk] } } := I4.kept (t' := s4.toks) fun b ob q => Heap.get?_push_of_some _ q
  obtain ⟨its, r, ht, hz⟩ := I5.tuple hx
  have hlen := r.length
  show wpAny (model X.prog X.w) X.A (subscriptTail e (.Slice none none (some (.UnaryOp .USub (.Constant (.int 1) k p1) p2)) p3) (.ref a) (.ref s4.heap.objs.size)) (EP X pins σ Q) X.xe { s4 with heap := s4.heap.push { cls := .type "slice", data := .fields #[.none, .none, .int (-1) tk] } }
  refine tail_any (ops := [.ref a, .ref s4.heap.objs.size]) ht.typeIs PyProof.Rows.slot_tuple_getitem.lookup ?_ (by with_unfolding_all rfl)
  refine getItem_tuple_rev ht (Heap.IsSliceOf.new _ .none .none (.int (-1) tk)) ?_ (by rw [List.size_toArray]; omega)
  refine ⟨.ref _, _, I5.laid (t' := s4.toks) (o := .tup xs.reverse) (fun b ob q => Heap.get?_push_of_some _ q) (Nat.le_refl _) ?_, rfl, q _ (I5.hok.fresh (Nat.le_refl _))⟩
  exact ⟨by rw [List.length_reverse]; exact hz, _, r.reverse, IsTup.new _ _⟩
end
end TGZ
namespace TGZ
open PySem PySem.Spec PyProof.Rows L2
section
variable {X : Cx}
/-! ### sum, count of a tuple -/
def rSumT (K : PySem.W.Frag) : List V → Hp → VK → Prop := fun vs H Q => ∃ (a : Addr) (ns : List Int), vs = [V.ref a] ∧ SqT K H a (ns.map V.int) ∧ Q (.int ns.sum) H
theorem cr_sumT (hc : X.calm = true) : CallR X (.builtin "sum") (rSumT X.K) := by
  intro pins s σ H vs us Q I r h
  obtain ⟨a, ns, rfl, hs, q⟩ := h
  obtain ⟨its, rv, hl, _⟩ := I.tuple hs
  rw [Vals.ref1 r]
  have hi := rv.ints
  obtain ⟨xs, e⟩ := hi.allInts.items
  have hn : numsOf (intItems xs).toList = ns := by rw [← e]; exact hi.numsOf
  rw [nums_intItems] at hn
  have hl2 : s.heap.IsTuple a (intItems xs) := by rw [← e]; exact hl
  refine PySem.W.ktm_sumG (I.ok.hd hc) hl2 fun h' tk t' hk => ?_
  rw [preSum_eq, List.take_of_length_le (by simp), hn]
  exact ⟨.int _, H, I.kept hk, ⟨_, rfl⟩, q⟩
def rCntT (K : PySem.W.Frag) : V → List V → Hp → VK → Prop := fun x xs H Q => ∃ (p : Addr) (ns : List Int) (k : Int), x = .ref p ∧ xs = [.int k] ∧ SqT K H p (ns.map V.int) ∧ Q (.int (ns.count k : Nat)) H
theorem mt_tcount : MtR X "tuple.count" (rCntT X.K) := by
  intro pins s σ H x xs v us Q I rx rxs h
  obtain ⟨p, ns, k, rfl, rfl, hs, q⟩ := h
  cases rx
  obtain ⟨u, rfl, ru⟩ := rxs.one
  obtain ⟨t, rfl⟩ := ru
  obtain ⟨its, rv, ⟨⟨cls, dd, data, sl⟩, ho, hc, n, hd⟩, hlen⟩ := I.tuple hs
  simp only at hc hd
  subst hc hd
  have hi := ints_of_vals rv
  refine call_meets PySem.F.slot_tuple_count ⟨_, ho, rfl⟩ PySem.F.entry_tuple_count (PySem.F.args_tuple_count_2 _ _)
    (SeqAt.tuple_countAt p its.toArray n dd sl (.int k t) (eqk k)) ⟨ho, fun y hy => (eqk_gives hi y (by simpa using hy)).at _ _, ?_⟩
  have ec : its.toArray.toList.countP (eqk k) = ns.count k := eqk_count hi
  refine ⟨.int (ns.count k : Nat), H, I.tok _, ⟨s.toks, ?_⟩, q⟩
  show Value.int ((its.toArray.toList.countP (eqk k) : Nat) : Int) s.toks = Value.int ((ns.count k : Nat) : Int) s.toks
  rw [ec]

/-! ### a tuple times 0 or 1 -/
theorem tuple_mul0 (l : Addr) (items : Array Value) (n : Nat) (dd : Option Addr) (sl : Array (Option Value)) (u : Tok) (c1 : (items.isEmpty || (0 : Int) == 1) = false) :
    Meets (Builtin.«tuple.__mul__» ⟨[.ref l, .int 0 u], []⟩) (fun _ R s => s.heap.get? l = some { cls := .type "tuple", dict := dd, data := .seq items n, slots := sl } ∧
      R (.ok (.ret (Value.ref s.heap.objs.size))) { s with heap := s.heap.push { cls := Value.type "tuple", data := Data.seq #[] }, toks := s.toks }) :=
  .of_wp fun prog w A R s h => by
    obtain ⟨hp, g, d, tk, os⟩ := s
    obtain ⟨hl, h⟩ := h
    have f1 := AutoSeq1.idx_int
    wp_walk using wpAny_loadPart' hl
    repeat (first
      | (refine wpAny_ite_false (decide_eq_false (by rw [c1]; exact Bool.false_ne_true)) ?_; wp_walk using wpAny_loadPart' hl))
    exact ⟨_, rfl, h⟩
theorem tuple_mul1 (l : Addr) (items : Array Value) (n : Nat) (dd : Option Addr) (sl : Array (Option Value)) (u : Tok) (c1 : (items.isEmpty || (1 : Int) == 1) = true) :
    Meets (Builtin.«tuple.__mul__» ⟨[.ref l, .int 1 u], []⟩) (fun _ R s => s.heap.get? l = some { cls := .type "tuple", dict := dd, data := .seq items n, slots := sl } ∧
      R (.ok (.ret (Value.ref l))) s) :=
  .of_wp fun prog w A R s h => by
    obtain ⟨hp, g, d, tk, os⟩ := s
    obtain ⟨hl, h⟩ := h
    have f1 := AutoSeq1.idx_int
    have hT : Shared.TypeIs ⟨hp, g, d, tk, os⟩ (.ref l) "tuple" := ⟨_, hl, rfl⟩
    wp_walk using wpAny_loadPart' hl
    exact ⟨_, rfl, h⟩
/-- t * k for 0 ≤ k -/
def rRepN (K : PySem.W.Frag) : R2 := fun x y H Q => ∃ l k xs, x = .ref l ∧ y = .int k ∧ SqT K H l xs ∧ xs ≠ [] ∧ 0 ≤ k ∧ k ≤ 1000 ∧ xs.length ≤ 1000 ∧ (k = 1 → Q (.ref l) H) ∧ (k ≠ 1 → ∀ p, H p = none → Q (.ref p) (upd H p (.tup (List.replicate k.toNat xs).flatten)))
theorem op_repN : OpR X (binaryOp .Mult) (rRepN X.K) := by
  intro pins s σ H x y v u Q I rx ry h
  obtain ⟨l, k, xs, rfl, rfl, hT, hne, h0, h1, hz, qa, qb⟩ := h
  by_cases h2 : 2 ≤ k
  · exact op_repT pins s σ H _ _ v u Q I rx ry ⟨l, k, xs, rfl, rfl, hT, hne, h2, h1, hz, qb (by omega)⟩
  · cases rx
    obtain ⟨t, rfl⟩ := ry
    obtain ⟨its, r, ⟨⟨cls, dd, data, sl⟩, ho, hc, n, hd⟩, hs⟩ := I.tuple hT
    simp only at hc hd
    subst hc hd
    have hle : its.length = xs.length := r.length.symm
    have hn : its ≠ [] := fun e => hne (by
      rw [e] at hle
      exact List.eq_nil_of_length_eq_zero hle.symm)
    have hi : its.toArray.isEmpty = false := by
      cases its with
      | nil => exact absurd rfl hn
      | cons a b => rfl
    by_cases hk : k = 0
    · subst hk
      have c1 : (its.toArray.isEmpty || (0 : Int) == 1) = false := by rw [hi]; rfl
      refine wpAny_binaryOp_repeat_ref (T := "tuple") (U := "int") (by decide) ⟨_, ho, rfl⟩ (fun s' => typeIs_int s' 0 t) noFill_tuple_mul F.fills_int_mul F.slot_int_rmul repeat_tuple F.slot_int_index.lookup
        (call_meets F.slot_int_rmul (typeIs_int s 0 t) F.entry_int_rmul (F.args_int_rmul_2 _ _) (int_rmul_tuple 0 t l its.toArray n dd sl)
          ⟨ho, rfl, ⟨_, ho, rfl⟩, call_meets F.slot_tuple_mul ⟨_, ho, rfl⟩ F.entry_tuple_mul (F.args_tuple_mul_2 _ _) (tuple_mul0 l its.toArray n dd sl t c1) ⟨ho, ?_⟩⟩)
      refine ⟨.ref s.heap.objs.size, _, I.laid (t' := s.toks) (o := .tup []) (fun b ob q => Heap.get?_push_of_some _ q) (Nat.le_refl _) ?_, rfl, qb (by decide) _ (I.hok.fresh (Nat.le_refl _))⟩
      exact ⟨Nat.zero_le _, [], .nil, IsTup.new _ _⟩
    · have hk1 : k = 1 := by omega
      subst hk1
      have c1 : (its.toArray.isEmpty || (1 : Int) == 1) = true := by rw [hi]; rfl
      exact wpAny_binaryOp_repeat_ref (T := "tuple") (U := "int") (by decide) ⟨_, ho, rfl⟩ (fun s' => typeIs_int s' 1 t) noFill_tuple_mul F.fills_int_mul F.slot_int_rmul repeat_tuple F.slot_int_index.lookup
        (call_meets F.slot_int_rmul (typeIs_int s 1 t) F.entry_int_rmul (F.args_int_rmul_2 _ _) (int_rmul_tuple 1 t l its.toArray n dd sl)
          ⟨ho, rfl, ⟨_, ho, rfl⟩, call_meets F.slot_tuple_mul ⟨_, ho, rfl⟩ F.entry_tuple_mul (F.args_tuple_mul_2 _ _) (tuple_mul1 l its.toArray n dd sl t c1) ⟨ho, .ref l, H, I, rfl, qa rfl⟩⟩)

/-! ### enumerate of what is walked -/
theorem meets_en {v : Value} {o : Obj} {H : Heap → Prop} (B : Begins v o H) :
    Meets (Builtin.«enumerate.__new__» ⟨[.type "enumerate", v], []⟩) (fun _ R s => H s.heap ∧
      R (.ok (.ret (.ref (s.heap.push o).objs.size))) { s with heap := (s.heap.push o).push { cls := .type "enumerate", data := .fields #[.none, .bool false, .ref s.heap.objs.size, rawInt 0, .none, .none] } }) :=
  .of_wp fun prog w A R s h => by
    obtain ⟨hp, g, d, tk, os⟩ := s; obtain ⟨h1, h⟩ := h
    have hsub := sub_enumerate
    have q1 : ∀ {A' : Around} {E : Value → Shared → Prop} {Q : Value → Shared → Prop}, Q (.ref hp.objs.size) ⟨hp.push o, g, d, tk, os⟩ → wpAny (model prog w) A' (pyIter v) Q E ⟨hp, g, d, tk, os⟩ :=
      fun q => B.iter prog w _ _ ⟨hp, g, d, tk, os⟩ _ h1 q
    wp_walk using q1
    refine wpAny_stack_any fun st => wpAny_pure ?_
    split
    · rename_i c _ _ _ _ _
      cases (c == Value.type "enumerate")
      · wp_walk using q1
        exact ⟨_, rfl, h⟩
      · wp_walk using q1
        exact ⟨_, rfl, h⟩
    · wp_walk using q1
      exact ⟨_, rfl, h⟩
theorem begins_en {prog : Program} {w : World} {A : Around} {E : Value → Shared → Prop} {s : Shared} {v : Value} {o : Obj} {H : Heap → Prop} {Q : Value → Shared → Prop} (B : Begins v o H) (h1 : H s.heap)
    (h : ∀ h', IsEnum h' (s.heap.objs.size + 1) s.heap.objs.size 0 .none → h'.get? s.heap.objs.size = some o →
      (∀ b o, s.heap.get? b = some o → h'.get? b = some o) → Q (.ref (s.heap.objs.size + 1)) { s with heap := h' }) :
    wpAny (model prog w) A (call (.type "enumerate") [v]) Q E s := by
  refine callType_new F.called_enumerate (by decide) (F.typeCall_enumerate_1 _) (F.newCall_enumerate_1 _) (fun obj => F.args_object_init_2 obj _) F.entry_enumerate_new (meets_en B) ⟨h1, ?_⟩
  have hz : (s.heap.push o).objs.size = s.heap.objs.size + 1 := Heap.size_push ..
  show _ ∧ _
  rw [hz]
  have he : IsEnum ((s.heap.push o).push { cls := .type "enumerate", data := .fields #[.none, .bool false, .ref s.heap.objs.size, rawInt 0, .none, .none] }) (s.heap.objs.size + 1) s.heap.objs.size 0 .none := by
    have := Heap.get?_push_size (s.heap.push o) (o := { cls := .type "enumerate", data := .fields #[.none, .bool false, .ref s.heap.objs.size, rawInt 0, .none, .none] }) rfl
    rw [hz] at this; exact this
  exact ⟨⟨_, he, rfl⟩, h _ he (Heap.get?_push_of_some _ (Heap.get?_push_size _ B.free)) fun b o x => Heap.get?_push_of_some _ (Heap.get?_push_of_some _ x)⟩
/-- n pairs i, x i while G stands -/
def ItE (n : Nat) (G : Hp → Prop) (x : Nat → V) : It :=
  ⟨fun i H => i < n ∧ G H, fun i H v H' => ∃ T, v = .ref T ∧ H T = none ∧ H' = upd H T (.tup [.int (i : Nat), x i]), fun i H => i = n ∧ G H⟩
theorem turn_en {P : Program} {w : World} {K : PySem.W.Frag} {elts : List Expr} {kk : Nat} {tpos : Pos} {G : Hp → Prop} {n : Nat} {x : Nat → V} {e it : Addr} {cs : List Addr} {tn : Nat → Heap → Prop}
    (hne : e ≠ it) (hcs : e ∉ cs) (S : Src P w K G n x it cs tn) :
    Turn P w K (.Tuple elts kk tpos) (ItE n G x) [e, it] e (fun i h => (∃ old, IsEnum h e it ((i : Nat) : Int) old) ∧ tn i h) where
  mem := by simp
  obj := fun i h st b hb => by
    obtain ⟨⟨old, he⟩, h1⟩ := st
    have e' : b = e ∨ b = it := by simpa using hb
    rcases e' with z | z
    · rw [z]; exact ⟨_, he, fun v q => nomatch q⟩
    · rw [z]; exact S.obj i h h1
  keep := fun i h h' st k => let ⟨⟨old, he⟩, h1⟩ := st; ⟨⟨old, k e (by simp) _ he⟩, S.keep _ _ _ h1 fun o q => k it (by simp) o q⟩
  item := by
    intro X hP hw hK hc i pins s σ H E I hf st hg
    subst hP hw hK
    obtain ⟨⟨old, he⟩, h1⟩ := st
    obtain ⟨hlt, g⟩ := hg
    obtain ⟨P1, St1, D1, a1, b1, r1⟩ := S.drw X rfl rfl rfl hc pins s σ H I g
    have hel : e < s.heap.objs.size := Heap.lt_size he
    obtain ⟨q1, e1, _⟩ := S.obj i _ h1
    refine wpAny_pyNext_enum_itemC D1 he (a1 i h1) hlt hne (by simp [hne, hcs]) fun u h' tk p1 ho st1 hT hsz hk => ?_
    refine ⟨_, rfl, wpAny_letOwnedTupleGo_enum (s := { s with heap := h', toks := tk + 1 }) ho fun h'' he' sb => ?_⟩
    have hT2 : h''.get? s.heap.objs.size = some { cls := .type "tuple", data := .seq #[.int i tk, u] } := (sb.2 _ (Nat.ne_of_gt hel)).trans hT
    have new : ObjOk X.prog X.w (upd H s.heap.objs.size (.tup [.int (i : Nat), x i])) h'' s.heap.objs.size (.tup [.int (i : Nat), x i]) :=
      ⟨by show 2 ≤ sizeLine; decide, [.int i tk, u], .cons ⟨_, rfl⟩ (.cons (r1 i u hlt p1) .nil), ⟨_, hT2, rfl, _, rfl⟩⟩
    have I1 : L2.Inv X pins σ (upd H s.heap.objs.size (.tup [.int (i : Nat), x i])) { s with heap := h'', toks := tk + 1 } :=
      I.turnedNew (ch := [e, it]) (fun b ob hb q => (sb.2 b (fun z => hb (by simp [z]))).trans (hk b ob (fun z => hb (by simp [z])) (fun z => hb (by simp [z])) q)) hf (Nat.le_refl _) new
    refine ⟨.ref s.heap.objs.size, _, I1, rfl, ⟨_, rfl, I.hok.fresh (Nat.le_refl _), rfl⟩, ⟨⟨u, ?_⟩, S.keep _ _ _ (b1 _ _ st1) fun o q => (sb.2 it (Ne.symm hne)).trans q⟩, fun b hb => ?_⟩
    · have e1 : ((i + 1 : Nat) : Int) = (i : Int) + 1 := by omega
      rw [e1]; exact he'
    · have hb' : b < s.heap.objs.size := by
        have e' : b = e ∨ b = it := by simpa using hb
        rcases e' with z | z
        · rw [z]; exact hel
        · rw [z]; exact Heap.lt_size e1
      rw [upd_ne (Nat.ne_of_lt hb')]
      exact (hf b hb).1
  done := by
    intro X hP hw hK hc i pins s σ H E I hf st hg
    subst hP hw hK
    obtain ⟨⟨old, he⟩, h1⟩ := st
    obtain ⟨rfl, g⟩ := hg
    obtain ⟨P1, St1, D1, a1, b1, r1⟩ := S.drw X rfl rfl rfl hc pins s σ H I g
    exact wpAny_pyNext_enum_endD D1 he (a1 _ h1) fun h' hx => ⟨rfl, I.turnedL (t' := s.toks) (ch := [e, it]) (fun b o hb y => hx b o (fun z => hb (by simp [z])) y) hf⟩
  self := fun A i s Q E st h => by
    obtain ⟨⟨old, he⟩, _⟩ := st
    exact wpAny_pyIter_enum he h
def iEn (K : PySem.W.Frag) (ta : TA) : TI := fun σ H R => ta σ H fun vs H1 => ∃ (v : V) (n : Nat) (x : Nat → V) (G : Hp → Prop), vs = [v] ∧ Wv K v n x G ∧ G H1 ∧ R (ItE n G x) H1
theorem pi_en {e : Expr} {ta : TA} {p pos tpos : Pos} {elts : List Expr} {kk : Nat} (hg : Gl X "enumerate") (hm : X.mg "enumerate" = none) (ha : PA X [e] ta) (hs : starEach [e] X.env = [(false, eval e X.env)] := by rfl) :
    PI X (.Tuple elts kk tpos) (.Call (.Name "enumerate" p) [e] [] pos) (iEn X.K ta) := by
  refine ⟨fun pins s σ H R I h => ?_⟩
  refine Call_ (ld_blt I hg hm boot_enumerate (PyProof.Rows.callWith_type1 (thn (ha.run pos pins s σ H _ I h) fun us s1 ⟨vs, H1, I1, r1, q1⟩ => ?_) hs rfl))
  obtain ⟨v, n, x, G, rfl, w1, g1, q⟩ := q1
  cases r1 with
  | cons r rr =>
    cases rr
    obtain ⟨o1, Hb1, cs1, tn1, B1, hb1, l1, src1⟩ := w1.wlk.go pins s1 σ H1 I1 r g1
    refine begins_en B1 hb1 fun h' he hit hk => wpAny_pyIter_enum he ?_
    have I2 : L2.Inv X pins σ H1 { s1 with heap := h' } := I1.kept (t' := s1.toks) hk
    obtain ⟨S1, b1⟩ := src1 s1.heap.objs.size (Nat.le_refl _)
    refine ⟨s1.heap.objs.size + 1, [s1.heap.objs.size + 1, s1.heap.objs.size], _, _, H1, rfl, I2, turn_en (Nat.succ_ne_self _) (fun z => absurd (l1 _ z) (Nat.not_lt.mpr (Nat.le_succ _))) (S1 _ _), ⟨⟨.none, he⟩, b1 _ hit⟩, fun b hb => ?_, q⟩
    have e' : b = s1.heap.objs.size + 1 ∨ b = s1.heap.objs.size := by simpa using hb
    have hle : s1.heap.objs.size ≤ b := by
      rcases e' with z | z
      · rw [z]; exact Nat.le_add_right _ _
      · rw [z]; exact Nat.le_refl _
    exact I1.fpOk hle (I1.hok.fresh hle)

/-! ### sorted of a tuple of ints -/
def rSortedT (K : PySem.W.Frag) : List V → Hp → VK → Prop := fun vs H Q => ∃ (a : Addr) (ns : List Int), vs = [V.ref a] ∧ SqT K H a (ns.map V.int) ∧ ∀ (ns' : List Int) (p : Addr), ns'.Perm ns → ns'.Pairwise (· ≤ ·) → H p = none → Q (.ref p) (upd H p (.lst (ns'.map V.int)))
theorem cr_sortedT : CallR X (.builtin "sorted") (rSortedT X.K) := by
  intro pins s σ H vs us Q I r h
  obtain ⟨a, ns, rfl, hs, q⟩ := h
  obtain ⟨its, rv, ⟨⟨cls, dd, data, sl⟩, ho, hc, n, hd⟩, hz⟩ := I.tuple hs
  simp only at hc hd
  subst hc hd
  rw [Vals.ref1 r]
  have hi := rv.ints
  have hz2 : its.length ≤ sizeLine := by rw [← rv.length]; exact hz
  refine Calls.call_function_entry kind_sorted plain_sorted entry_sorted (args_sorted1 _) ?_
  unfold Builtin.«sorted»
  refine wpAny_bind (m := checkCount "sorted" 1 1 _) (wpAny_pure ?_)
  refine wpAny_bind (wpAny_collect_seq (T := "tuple") a (.inr rfl) ho rfl rfl (fun h' hk => ?_) (by rw [List.size_toArray]; exact hz2))
  refine wpAny_bind (wpAny_newList ?_ hz2)
  have hoL : (h'.push (seqObj "list" its.toArray 0)).get? h'.objs.size = some (seqObj "list" its.toArray 0) := Heap.get?_push_size _ rfl
  show wpAny _ _ _ _ _ { s with heap := h'.push (seqObj "list" its.toArray 0) }
  refine wpAny_bind (wpAny_holding (wpAny_call_entry slot_list_sort ⟨_, hoL, rfl⟩ entry_list_sort (SrtO.list_sort_ord SrtO.swo_int hoL hz2 (fun h2 => SrtO.ints_sortable hi h2) fun out h1 h2 => ⟨_, rfl, ?_⟩) (args_list_sort _)))
  refine wpAny_pure ⟨_, rfl, ?_⟩
  obtain ⟨k1, k2, k3⟩ := SrtO.ints_out hi h1 h2
  have I1 : L2.Inv X pins σ H { s with heap := h' } := I.kept (t' := s.toks) hk
  obtain ⟨ep, he'⟩ := sortedHeap_at (out := out.toArray) hoL
  have hlen : ((out.map SrtO.iv).map V.int).length ≤ sizeLine := by
    rw [List.length_map, k2.length_eq]
    rw [List.length_map] at hz
    exact hz
  refine ⟨.ref _, upd H h'.objs.size (.lst ((out.map SrtO.iv).map V.int)), I1.laid (t' := s.toks) (fun b u e => ?_) (Nat.le_refl _) ⟨hlen, out, ep, vals_of_ints k1, he'⟩, rfl, q _ _ k2 k3 (I1.hok.fresh (Nat.le_refl _))⟩
  have hb : b < h'.objs.size := Heap.lt_size e
  rw [sortedHeap_old (Nat.ne_of_lt hb) (by rw [Heap.size_push]; exact Nat.lt_succ_of_lt hb)]
  exact Heap.get?_push_of_some _ e
end
end TGZ
namespace TGZ
open PySem PySem.Spec PyProof.Rows L2
section
variable {X : Cx}
/-- tuple(list), the new tuple known as the object that it is -/
def rTupF (K : PySem.W.Frag) : List V → Hp → VK → Prop := fun xs H Q => ∃ p ys, xs = [.ref p] ∧ SqL K H p ys ∧ ∀ l o, H l = none → o.cls = .type "tuple" → o.dict = none → Q (.ref l) (upd H l (.frz o (.tup ys)))
theorem call_tuple_frz : CallR X (.type "tuple") (rTupF X.K) := by
  intro pins s σ H xs us Q I r h
  obtain ⟨p, ys, rfl, hq, q⟩ := h
  obtain ⟨u, rfl, rx⟩ := vals1 r
  cases rx
  obtain ⟨its, r', pl, hz⟩ := I.list hq
  have hlen := r'.length
  refine call_tuple_list pl.isList (fun h' kp => ?_) (by simp only [List.size_toArray] <;> omega)
  have I1 : L2.Inv X pins σ H { s with heap := h' } := I.kept (t' := s.toks) kp
  have I2 : L2.Inv X pins σ (upd H h'.objs.size (.frz { cls := .type "tuple", data := .seq its.toArray } (.tup ys))) { s with heap := h'.push { cls := .type "tuple", data := .seq its.toArray } } :=
    I1.laid (t' := s.toks) (fun b o e => Heap.get?_push_of_some _ e) (Nat.le_refl _) ⟨Heap.get?_push_size _ rfl, hz, its, r', IsTup.new _ _⟩
  exact ⟨.ref h'.objs.size, _, I2, rfl, q _ _ (I1.hok.fresh (Nat.le_refl _)) rfl rfl⟩
/-- a method of a thing known as the object that it is -/
def tBMF (T : String) (r : V → List V → Hp → VK → Prop) (to : TE) (t : TA) : TE := fun σ H Q => to σ H fun x H1 => (∃ a o u, x = .ref a ∧ H1 a = some (.frz o u) ∧ o.cls = .type T ∧ o.dict = none) ∧ t σ H1 fun xs H2 => r x xs H2 Q
theorem pe_bmF {o e : Expr} {es : List Expr} {to : TE} {t : TA} {name : Str} {apos cpos : Pos} {T id : String} {r : V → List V → Hp → VK → Prop} (pa : PlainAttrs T) (slot : Slot T name id) (hty : typeOf (.builtin id) = pure (.type "method_descriptor")) (hm : MtR X id r) (ho : PE X o to) (ha : PA X (e :: es) t)
    (hbase : attributeBase o name X.env (eval o X.env) = eval o X.env := by rfl)
    (hfew : ((backTo cpos (starEach (e :: es) X.env)).all (fun x => !x.1) && (backToKw cpos (keywordEach [] X.env)).all (fun x => x.1.isSome)
      && decide ((e :: es).length + ([] : List Keyword).length + (if ([] : List Keyword).isEmpty then 0 else 1) < 30)) = true := by rfl)
    (hline : (apos.endLine == cpos.line) = true := by rfl) (hs : starEach (e :: es) X.env = (false, eval e X.env) :: starEach es X.env := by rfl) (hplain : (backTo cpos (starEach es X.env)).any (·.1) = false := by rfl) :
    PE X (.Call (.Attribute o name apos) (e :: es) [] cpos) (tBMF T r to t) := by
  refine ⟨fun pins s σ H Q I h => ?_⟩
  refine wpAny_Call_method_late hbase hfew hline rfl (thn (ho.run pins s σ H _ I h) fun v s1 ⟨x, H1, I1, r1, ty, q1⟩ => ?_)
  obtain ⟨a, ob, u, rfl, hf, hc, hd⟩ := ty
  cases r1
  obtain ⟨hob, _⟩ := I1.hok a _ hf
  refine ⟨T, id, pa, slot, hty, ⟨ob, hob, hc⟩, fun b e => by cases e; exact ⟨ob, hob, hd⟩, ?_⟩
  have hA := ha.run cpos pins s1 σ H1 _ I1 q1
  rw [hs] at hA ⊢
  refine Calls.callWith_builtin (by show (false || (backTo cpos (starEach es X.env)).any (·.1)) = false; rw [hplain] <;> rfl) (Calls.evalArgs_plain ?_)
  exact thn hA fun us s2 ⟨vs, H2, I2, r2, q2⟩ => hm pins s2 σ H2 (.ref a) vs (.ref a) us Q I2 rfl r2 q2
end
end TGZ
/-! The plain game, pick by pick; the turned game; what both say. No program in sight. -/
namespace TG

abbrev Blk := List Bool × Nat
abbrev Row := List Bool × List Nat × Nat
abbrev Pk := Bool × Nat

def best (c : Nat → Nat) (l : List Nat) : Option Nat := l.find? fun k => decide (0 < c k)
def dec (c : Nat → Nat) (k : Nat) : Nat → Nat := fun j => if j = k then c j - 1 else c j
def plain (c : Nat → Nat) (L : Bool → List Nat) : List Bool → List Pk
  | [] => []
  | p :: ps => match best c (L p) with
    | some k => (p, k) :: plain (dec c k) L ps
    | none => []
def bag (ps : List Pk) (k : Nat) : Nat := (ps.map Prod.snd).count k
def sub (c b : Nat → Nat) : Nat → Nat := fun k => c k - b k

theorem best_some {c : Nat → Nat} {l : List Nat} {k : Nat} (h : best c l = some k) : 0 < c k ∧ k ∈ l := by
  have h1 := List.find?_some h
  have h2 := List.mem_of_find?_eq_some h
  exact ⟨of_decide_eq_true h1, h2⟩

theorem best_le {c c' : Nat → Nat} : ∀ {l : List Nat} {k : Nat}, best c l = some k → (∀ j, c' j ≤ c j) → 0 < c' k → best c' l = some k
  | [], k, h, _, _ => by simp [best] at h
  | a :: l, k, h, hc, hk => by
    unfold best at h ⊢
    rw [List.find?_cons] at h ⊢
    by_cases ha : 0 < c a
    · rw [decide_eq_true ha] at h
      have e : a = k := Option.some.inj h
      subst e
      rw [decide_eq_true hk]
    · rw [decide_eq_false ha] at h
      have h1 := hc a
      rw [decide_eq_false (show ¬ 0 < c' a by omega)]
      exact best_le (l := l) h hc hk

theorem best_none {c c' : Nat → Nat} {l : List Nat} (h : best c l = none) (hc : ∀ j, c' j ≤ c j) : best c' l = none := by
  unfold best at h ⊢
  rw [List.find?_eq_none] at h ⊢
  intro x hx q
  have h1 := of_decide_eq_true q
  have h2 := hc x
  exact h x hx (decide_eq_true (by omega))

theorem bag_nil (k : Nat) : bag [] k = 0 := rfl
theorem bag_cons (p : Bool) (j : Nat) (ps : List Pk) (k : Nat) : bag ((p, j) :: ps) k = bag ps k + if j = k then 1 else 0 := by
  unfold bag
  rw [List.map_cons, List.count_cons]
  by_cases h : j = k
  · subst h; simp
  · simp [h]
theorem bag_append (a b : List Pk) (k : Nat) : bag (a ++ b) k = bag a k + bag b k := by
  unfold bag
  rw [List.map_append, List.count_append]
theorem bag_reverse (a : List Pk) (k : Nat) : bag a.reverse k = bag a k := by
  unfold bag
  rw [List.map_reverse, List.count_reverse]
theorem bag_count (a : List Pk) (k : Nat) : bag a k = a.count (true, k) + a.count (false, k) := by
  induction a with
  | nil => rfl
  | cons x r ih =>
    obtain ⟨p, j⟩ := x
    rw [bag_cons, ih, List.count_cons, List.count_cons]
    cases p <;> by_cases h : j = k <;> simp [h] <;> omega

/-- the picks use no more than there is -/
theorem plain_bag_le (L : Bool → List Nat) : ∀ (T : List Bool) (c : Nat → Nat) (k : Nat), bag (plain c L T) k ≤ c k
  | [], c, k => Nat.zero_le _
  | p :: ps, c, k => by
    unfold plain
    cases h : best c (L p) with
    | none => exact Nat.zero_le _
    | some j =>
      have ih := plain_bag_le L ps (dec c j) k
      have h1 := (best_some h).1
      show bag ((p, j) :: plain (dec c j) L ps) k ≤ c k
      rw [bag_cons]
      unfold dec at ih ⊢
      by_cases e : j = k
      · subst e; simp at ih ⊢; omega
      · have e' : ¬ k = j := fun q => e q.symm
        simp [e, e'] at ih ⊢; exact ih

/-- items that are not picked may be taken away -/
theorem plain_restrict (L : Bool → List Nat) : ∀ (T : List Bool) (c c' : Nat → Nat), (∀ k, c' k ≤ c k) → (∀ k, bag (plain c L T) k ≤ c' k) → plain c' L T = plain c L T
  | [], c, c', _, _ => rfl
  | p :: ps, c, c', h1, h2 => by
    unfold plain at h2 ⊢
    cases h : best c (L p) with
    | none => rw [best_none h h1]
    | some j =>
      rw [h] at h2
      have hj := h2 j
      have e0 : bag ((p, j) :: plain (dec c j) L ps) j = bag (plain (dec c j) L ps) j + 1 := by rw [bag_cons]; simp
      simp only at hj
      rw [e0] at hj
      rw [best_le h h1 (by omega)]
      have ih := plain_restrict L ps (dec c j) (dec c' j) (fun k => by
        have := h1 k
        unfold dec
        split <;> omega) (fun k => by
        have := h2 k
        simp only at this
        rw [bag_cons] at this
        show _ ≤ (if k = j then c' k - 1 else c' k)
        by_cases e : k = j
        · subst e; simp at this ⊢; omega
        · have e' : ¬ j = k := fun q => e q.symm
          simp [e, e'] at this ⊢; exact this)
      simp only [ih]

theorem plain_congr (L : Bool → List Nat) (T : List Bool) {c c' : Nat → Nat} (h : ∀ k, c k = c' k) : plain c L T = plain c' L T := by
  have : c = c' := funext h
  rw [this]

theorem plain_fst (L : Bool → List Nat) : ∀ (T : List Bool) (c : Nat → Nat), (plain c L T).map Prod.fst = T.take (plain c L T).length
  | [], c => rfl
  | p :: ps, c => by
    unfold plain
    cases h : best c (L p) with
    | none => rfl
    | some j => simp [plain_fst L ps (dec c j)]

theorem plain_len_le (L : Bool → List Nat) : ∀ (T : List Bool) (c : Nat → Nat), (plain c L T).length ≤ T.length
  | [], c => Nat.le_refl _
  | p :: ps, c => by
    unfold plain
    cases h : best c (L p) with
    | none => exact Nat.zero_le _
    | some j => simp [plain_len_le L ps (dec c j)]

theorem plain_some {c : Nat → Nat} {L : Bool → List Nat} {p : Bool} {k : Nat} (ps : List Bool) (h : best c (L p) = some k) : plain c L (p :: ps) = (p, k) :: plain (dec c k) L ps := by
  show (match best c (L p) with | some k => (p, k) :: plain (dec c k) L ps | none => []) = _
  rw [h]
theorem plain_none {c : Nat → Nat} {L : Bool → List Nat} {p : Bool} (ps : List Bool) (h : best c (L p) = none) : plain c L (p :: ps) = [] := by
  show (match best c (L p) with | some k => (p, k) :: plain (dec c k) L ps | none => []) = _
  rw [h]
theorem plain_append (L : Bool → List Nat) : ∀ (S T : List Bool) (c : Nat → Nat), (plain c L S).length = S.length → plain c L (S ++ T) = plain c L S ++ plain (sub c (bag (plain c L S))) L T
  | [], T, c, _ => by
    show plain c L T = [] ++ plain (sub c (bag [])) L T
    rw [List.nil_append]
    exact plain_congr L T fun k => by simp [sub, bag_nil]
  | p :: ps, T, c, h => by
    rw [List.cons_append]
    cases hb : best c (L p) with
    | none => rw [plain_none ps hb] at h; simp at h
    | some j =>
      rw [plain_some ps hb] at h
      have h' : (plain (dec c j) L ps).length = ps.length := by simpa using h
      have ih := plain_append L ps T (dec c j) h'
      rw [plain_some (ps ++ T) hb, plain_some ps hb, ih, List.cons_append]
      congr 2
      refine plain_congr L T fun k => ?_
      unfold sub
      rw [bag_cons]
      unfold dec
      by_cases e : j = k
      · subst e; simp; omega
      · have e' : ¬ k = j := fun q => e q.symm
        simp [e, e']

/-! ### a list of kinds below K, with counts of that length -/
def fn (cs : List Nat) : Nat → Nat := fun k => cs.getD k 0
theorem fn_ge {cs : List Nat} {k : Nat} (h : cs.length ≤ k) : fn cs k = 0 := by
  unfold fn; rw [List.getD_eq_getElem?_getD, List.getElem?_eq_none h]; rfl
theorem fn_lt {cs : List Nat} {k : Nat} (h : k < cs.length) : fn cs k = cs[k] := by
  unfold fn; rw [List.getD_eq_getElem?_getD, List.getElem?_eq_getElem h]; rfl
theorem fn_set {cs : List Nat} {k v : Nat} (h : k < cs.length) (j : Nat) : fn (cs.set k v) j = if j = k then v else fn cs j := by
  unfold fn
  rw [List.getD_eq_getElem?_getD, List.getD_eq_getElem?_getD, List.getElem?_set]
  by_cases e : k = j
  · subst e; simp [h]
  · have e' : ¬ j = k := fun q => e q.symm
    simp [e, e']
theorem sum_set : ∀ (cs : List Nat) (k v : Nat), k < cs.length → (cs.set k v).sum + fn cs k = cs.sum + v
  | [], k, v, h => by simp at h
  | a :: r, 0, v, h => by
    show ((v :: r).sum) + a = (a :: r).sum + v
    simp; omega
  | a :: r, k + 1, v, h => by
    have ih := sum_set r k v (by simpa using h)
    show (a :: r.set k v).sum + fn r k = (a :: r).sum + v
    simp; omega
theorem sum_pos : ∀ (cs : List Nat), 0 < cs.sum → ∃ k, k < cs.length ∧ 0 < fn cs k
  | [], h => by simp at h
  | a :: r, h => by
    by_cases ha : 0 < a
    · exact ⟨0, by simp, ha⟩
    · have : 0 < r.sum := by simp at h; omega
      obtain ⟨k, h1, h2⟩ := sum_pos r this
      exact ⟨k + 1, by simpa using h1, h2⟩
theorem sum_ge : ∀ (cs : List Nat) (k : Nat), fn cs k ≤ cs.sum
  | [], k => by simp [fn]
  | a :: r, 0 => by show a ≤ (a :: r).sum; simp
  | a :: r, k + 1 => by
    have := sum_ge r k
    show fn r k ≤ (a :: r).sum
    simp; omega
theorem sum_le : ∀ (as bs : List Nat), as.length = bs.length → (∀ k, fn as k ≤ fn bs k) → as.sum ≤ bs.sum
  | [], [], _, _ => Nat.le_refl _
  | a :: r, b :: s, h, hk => by
    have h0 : a ≤ b := hk 0
    have := sum_le r s (by simpa using h) fun k => hk (k + 1)
    simp; omega
  | [], _ :: _, h, _ => by simp at h
  | _ :: _, [], h, _ => by simp at h

/-- both lists hold every kind below K -/
def Has (K : Nat) (L : Bool → List Nat) : Prop := ∀ p k, k ∈ L p ↔ k < K

/-- the counts after some picks -/
def subl (cs : List Nat) (b : Nat → Nat) : List Nat := (List.range cs.length).map fun k => fn cs k - b k
theorem subl_len (cs : List Nat) (b : Nat → Nat) : (subl cs b).length = cs.length := by simp [subl]
theorem fn_map {K : Nat} {f : Nat → Nat} {k : Nat} (h : k < K) : fn ((List.range K).map f) k = f k := by
  rw [fn_lt (by simpa using h)]; simp
theorem fn_subl (cs : List Nat) (b : Nat → Nat) (k : Nat) : fn (subl cs b) k = fn cs k - b k := by
  by_cases h : k < cs.length
  · unfold subl; rw [fn_map h]
  · rw [fn_ge (by rw [subl_len]; omega), fn_ge (by omega)]; omega
theorem list_ext {as bs : List Nat} (h : as.length = bs.length) (hk : ∀ k, fn as k = fn bs k) : as = bs := by
  refine List.ext_getElem h fun i h1 h2 => ?_
  have := hk i
  rwa [fn_lt h1, fn_lt h2] at this

theorem dec_fn {cs : List Nat} {k : Nat} (h : k < cs.length) (j : Nat) : dec (fn cs) k j = fn (cs.set k (fn cs k - 1)) j := by
  rw [fn_set h]
  unfold dec
  by_cases e : j = k
  · subst e; simp
  · simp [e]

theorem plain_full {K : Nat} {L : Bool → List Nat} (hL : Has K L) : ∀ (T : List Bool) (cs : List Nat), cs.length = K → T.length ≤ cs.sum → (plain (fn cs) L T).length = T.length
  | [], cs, _, _ => rfl
  | p :: ps, cs, hK, hs => by
    have hpos : 0 < cs.sum := by simp at hs; omega
    obtain ⟨k, hk, h0⟩ := sum_pos cs hpos
    unfold plain
    cases h : best (fn cs) (L p) with
    | none =>
      unfold best at h
      rw [List.find?_eq_none] at h
      exact absurd (decide_eq_true h0) (h k ((hL p k).2 (by omega)))
    | some j =>
      obtain ⟨j0, jm⟩ := best_some h
      have hj : j < cs.length := by have := (hL p j).1 jm; omega
      have e : dec (fn cs) j = fn (cs.set j (fn cs j - 1)) := funext fun i => dec_fn hj i
      have hs2 := sum_set cs j (fn cs j - 1) hj
      simp only [List.length_cons] at hs ⊢
      rw [e, plain_full hL ps (cs.set j (fn cs j - 1)) (by simpa using hK) (by omega)]

theorem plain_kinds {L : Bool → List Nat} {K : Nat} (hL : Has K L) : ∀ (T : List Bool) (c : Nat → Nat) (x : Pk), x ∈ plain c L T → x.2 < K
  | [], c, x, h => by simp [plain] at h
  | p :: ps, c, x, h => by
    unfold plain at h
    cases hb : best c (L p) with
    | none => rw [hb] at h; simp at h
    | some j =>
      rw [hb] at h
      simp only [List.mem_cons] at h
      rcases h with rfl | h
      · exact (hL p j).1 (best_some hb).2
      · exact plain_kinds hL ps _ x h

theorem sum_bag {K : Nat} : ∀ (ps : List Pk), (∀ x ∈ ps, x.2 < K) → ((List.range K).map (bag ps)).sum = ps.length
  | [], _ => by
    have : (List.range K).map (bag []) = List.replicate K 0 := by
      refine List.ext_getElem (by simp) fun i h1 h2 => by simp [bag]
    rw [this]; simp
  | (p, j) :: ps, h => by
    have ih := sum_bag ps fun x hx => h x (List.mem_cons_of_mem _ hx)
    have hj : j < K := h (p, j) List.mem_cons_self
    have e : (List.range K).map (bag ((p, j) :: ps)) = ((List.range K).map (bag ps)).set j (bag ps j + 1) := by
      refine list_ext (by simp) fun k => ?_
      rw [fn_set (by simpa using hj)]
      by_cases hk : k < K
      · rw [fn_map hk, fn_map hk, bag_cons]
        by_cases q : k = j
        · subst q; simp
        · have q' : ¬ j = k := fun z => q z.symm
          simp [q, q']
      · rw [fn_ge (by simp; omega), fn_ge (by simp; omega)]
        have q : ¬ k = j := by omega
        simp [q]
    have s := sum_set ((List.range K).map (bag ps)) j (bag ps j + 1) (by simpa using hj)
    rw [e]
    rw [fn_map hj] at s
    simp only [List.length_cons]
    omega

/-- a whole game picks all -/
theorem whole_bag {K : Nat} {L : Bool → List Nat} (hL : Has K L) {cs : List Nat} {T : List Bool} (hK : cs.length = K) (hT : T.length = cs.sum) (k : Nat) : bag (plain (fn cs) L T) k = fn cs k := by
  have hl := plain_full hL T cs hK (by omega)
  have hb := sum_bag (K := K) (plain (fn cs) L T) (plain_kinds hL T _)
  have hle := plain_bag_le L T (fn cs)
  by_cases hk : k < K
  · -- equal sums, entrywise ≤
    have key : ∀ (as bs : List Nat), as.length = bs.length → (∀ i, fn as i ≤ fn bs i) → as.sum = bs.sum → ∀ i, fn as i = fn bs i := by
      intro as
      induction as with
      | nil => intro bs h _ _ i; cases bs with
        | nil => rfl
        | cons _ _ => simp at h
      | cons a r ih =>
        intro bs h h1 h2 i
        cases bs with
        | nil => simp at h
        | cons b s =>
          have l1 : r.length = s.length := by simpa using h
          have a1 : a ≤ b := h1 0
          have a2 := sum_le r s l1 fun k => h1 (k + 1)
          simp at h2
          have : a = b := by omega
          subst this
          cases i with
          | zero => rfl
          | succ i => exact ih s l1 (fun k => h1 (k + 1)) (by omega) i
    have := key ((List.range K).map (bag (plain (fn cs) L T))) cs (by simpa using hK.symm) (fun i => by
      by_cases hi : i < K
      · rw [fn_map hi]; exact hle i
      · rw [fn_ge (by simp; omega)]; omega) (by rw [hb, hl, hT]) k
    rwa [fn_map hk] at this
  · rw [fn_ge (by omega)]
    have := hle k
    rw [fn_ge (by omega)] at this
    omega

/-! ### blocks and rows -/
def expB (bs : List Blk) : List Bool := bs.flatMap fun b => (List.replicate b.2 b.1).flatten
def expR (rs : List Row) : List Pk := rs.flatMap fun r => (List.replicate r.2.2 (r.1.zip r.2.1)).flatten
def revB (bs : List Blk) : List Blk := bs.reverse.map fun b => (b.1.reverse, b.2)
def revR (rs : List Row) : List Row := rs.reverse.map fun r => (r.1.reverse, r.2.1.reverse, r.2.2)
theorem expB_append (a b : List Blk) : expB (a ++ b) = expB a ++ expB b := by simp [expB]
theorem expR_append (a b : List Row) : expR (a ++ b) = expR a ++ expR b := by simp [expR]
theorem expB_cons (t : List Bool) (n : Nat) (b : List Blk) : expB ((t, n) :: b) = (List.replicate n t).flatten ++ expB b := by simp [expB]
theorem expR_cons (t : List Bool) (ks : List Nat) (n : Nat) (b : List Row) : expR ((t, ks, n) :: b) = (List.replicate n (t.zip ks)).flatten ++ expR b := by simp [expR]
theorem rep_rev {α : Type} (n : Nat) (t : List α) : (List.replicate n t).flatten.reverse = (List.replicate n t.reverse).flatten := by
  rw [List.reverse_flatten, List.map_replicate, List.reverse_replicate]
theorem expB_rev : ∀ (bs : List Blk), expB (revB bs) = (expB bs).reverse
  | [] => rfl
  | (t, n) :: bs => by
    have ih := expB_rev bs
    unfold revB at ih ⊢
    rw [List.reverse_cons, List.map_append, expB_append, ih, expB_cons, List.reverse_append, rep_rev]
    simp [expB]
theorem zip_rev {α β : Type} : ∀ (a : List α) (b : List β), a.length = b.length → (a.zip b).reverse = a.reverse.zip b.reverse
  | [], b, h => by simp
  | x :: a, [], h => by simp at h
  | x :: a, y :: b, h => by
    have h' : a.length = b.length := by simpa using h
    rw [List.zip_cons_cons, List.reverse_cons, List.reverse_cons, List.reverse_cons, zip_rev a b h', List.zip_append (by simpa using h')]
    rfl
theorem expR_rev : ∀ (rs : List Row), (∀ r ∈ rs, r.1.length = r.2.1.length) → expR (revR rs) = (expR rs).reverse
  | [], _ => rfl
  | (t, ks, n) :: rs, h => by
    have ih := expR_rev rs fun r hr => h r (List.mem_cons_of_mem _ hr)
    have h0 := h (t, ks, n) List.mem_cons_self
    unfold revR at ih ⊢
    rw [List.reverse_cons, List.map_append, expR_append, ih, expR_cons, List.reverse_append, rep_rev, zip_rev t ks h0]
    simp [expR]
theorem revB_rev (bs : List Blk) : revB (revB bs) = bs := by
  unfold revB
  rw [← List.map_reverse, List.reverse_reverse, List.map_map]
  have : ((fun b : Blk => (b.1.reverse, b.2)) ∘ fun b : Blk => (b.1.reverse, b.2)) = id := by funext b; simp
  rw [this]; simp
def lenB (bs : List Blk) : Nat := (bs.map fun b => b.1.length * b.2).sum
theorem expB_len : ∀ (bs : List Blk), (expB bs).length = lenB bs
  | [] => rfl
  | (t, n) :: bs => by
    rw [expB_cons, List.length_append, expB_len bs]
    simp [lenB, Nat.mul_comm]
theorem lenB_append (a b : List Blk) : lenB (a ++ b) = lenB a + lenB b := by simp [lenB]
theorem expR_fst : ∀ (rs : List Row), (∀ r ∈ rs, r.1.length = r.2.1.length) → (expR rs).map Prod.fst = expB (rs.map fun r => (r.1, r.2.2))
  | [], _ => rfl
  | (t, ks, n) :: rs, h => by
    have h0 : t.length = ks.length := h (t, ks, n) List.mem_cons_self
    rw [List.map_cons, expB_cons, expR_cons, List.map_append, expR_fst rs fun r hr => h r (List.mem_cons_of_mem _ hr), List.map_flatten, List.map_replicate, List.map_fst_zip (by omega)]

/-! ### a row: the same picks again and again -/
theorem bag_zip {t : List Bool} {ks : List Nat} (h : ks.length = t.length) (k : Nat) : bag (t.zip ks) k = ks.count k := by
  unfold bag
  rw [List.map_snd_zip (by omega)]
theorem bag_rep (ps : List Pk) (k : Nat) : ∀ m : Nat, bag (List.replicate m ps).flatten k = m * bag ps k
  | 0 => by simp [bag]
  | m + 1 => by
    rw [List.replicate_succ, List.flatten_cons, bag_append, bag_rep ps k m, Nat.succ_mul]
    omega
theorem plain_run (L : Bool → List Nat) {t : List Bool} {ks : List Nat} (hl : ks.length = t.length) : ∀ (m : Nat) (c : Nat → Nat), plain c L t = t.zip ks → (∀ k, m * ks.count k ≤ c k) →
    plain c L (List.replicate m t).flatten = (List.replicate m (t.zip ks)).flatten
  | 0, c, _, _ => rfl
  | m + 1, c, h, hm => by
    have hz : (t.zip ks).length = t.length := by rw [List.length_zip]; omega
    rw [List.replicate_succ, List.flatten_cons, plain_append L t _ c (by rw [h, hz]), h, List.replicate_succ, List.flatten_cons]
    congr 1
    cases m with
    | zero => rfl
    | succ m =>
      refine plain_run L hl (m + 1) _ ?_ fun k => ?_
      · rw [← h]
        refine plain_restrict L t c _ (fun k => by unfold sub; omega) fun k => ?_
        have := hm k
        rw [Nat.succ_mul, Nat.succ_mul] at this
        rw [h, bag_zip hl]
        unfold sub
        rw [bag_zip hl]
        omega
      · have := hm k
        rw [Nat.succ_mul] at this
        unfold sub
        rw [bag_zip hl]
        omega
theorem plain_row (L : Bool → List Nat) {t rest : List Bool} {ks : List Nat} {m n : Nat} {c : Nat → Nat} (hl : ks.length = t.length) (h : plain c L t = t.zip ks) (hm : ∀ k, m * ks.count k ≤ c k) (hn : m ≤ n) :
    plain c L ((List.replicate n t).flatten ++ rest) = (List.replicate m (t.zip ks)).flatten ++ plain (sub c fun k => m * ks.count k) L ((List.replicate (n - m) t).flatten ++ rest) := by
  have hz : (t.zip ks).length = t.length := by rw [List.length_zip]; omega
  have r := plain_run L hl m c h hm
  have e : (List.replicate n t).flatten = (List.replicate m t).flatten ++ (List.replicate (n - m) t).flatten := by
    rw [← List.flatten_append, ← List.replicate_append_replicate.symm]
    congr 2
    omega
  rw [e, List.append_assoc, plain_append L _ _ c (by rw [r]; simp [hz]), r]
  congr 1
  refine plain_congr L _ fun k => ?_
  unfold sub
  rw [bag_rep, bag_zip hl]

/-! ### how many rows -/
def alive (K : Nat) (c : Nat → Nat) : Nat := (List.range K).countP fun k => decide (0 < c k)
theorem countP_le {p q : Nat → Bool} : ∀ (l : List Nat), (∀ k ∈ l, p k = true → q k = true) → l.countP p ≤ l.countP q
  | [], _ => Nat.le_refl _
  | a :: l, h => by
    have ih := countP_le l fun k hk => h k (List.mem_cons_of_mem _ hk)
    have h0 := h a List.mem_cons_self
    rw [List.countP_cons, List.countP_cons]
    cases hp : p a
    · simp; omega
    · rw [h0 hp]; simp; omega
theorem countP_lt {p q : Nat → Bool} : ∀ (l : List Nat), (∀ k ∈ l, p k = true → q k = true) → (∃ k ∈ l, q k = true ∧ p k = false) → l.countP p < l.countP q
  | [], _, h => by obtain ⟨k, hk, _⟩ := h; simp at hk
  | a :: l, h, he => by
    have h0 := h a List.mem_cons_self
    have h1 := fun k hk => h k (List.mem_cons_of_mem a hk)
    rw [List.countP_cons, List.countP_cons]
    obtain ⟨k, hk, e1, e2⟩ := he
    rcases List.mem_cons.mp hk with rfl | hk
    · have := countP_le l h1
      rw [e1, e2]; simp; omega
    · have := countP_lt l h1 ⟨k, hk, e1, e2⟩
      cases hp : p a
      · simp; omega
      · rw [h0 hp]; simp; omega
theorem alive_le {K : Nat} {c c' : Nat → Nat} (h : ∀ k, c' k ≤ c k) : alive K c' ≤ alive K c := by
  refine countP_le _ fun k _ e => ?_
  have := of_decide_eq_true e
  have := h k
  exact decide_eq_true (by omega)
theorem alive_lt {K : Nat} {c c' : Nat → Nat} (h : ∀ k, c' k ≤ c k) {k : Nat} (hk : k < K) (h1 : 0 < c k) (h2 : c' k = 0) : alive K c' < alive K c := by
  refine countP_lt _ (fun k _ e => ?_) ⟨k, List.mem_range.mpr hk, decide_eq_true h1, decide_eq_false (by omega)⟩
  have := of_decide_eq_true e
  have := h k
  exact decide_eq_true (by omega)
theorem alive_le_K {K : Nat} {c : Nat → Nat} : alive K c ≤ K := by
  have := List.countP_le_length (p := fun k => decide (0 < c k)) (l := List.range K)
  simpa [alive] using this
theorem best_alive {c d : Nat → Nat} (h : ∀ k, 0 < c k ↔ 0 < d k) (l : List Nat) : best c l = best d l := by
  unfold best
  congr 1
  funext k
  exact decide_eq_decide.mpr (h k)
/-- where no kind is used up, each letter picks by what there was at the start -/
theorem plain_const (L : Bool → List Nat) (d : Nat → Nat) : ∀ (t : List Bool) (c : Nat → Nat), (∀ k, 0 < c k ↔ 0 < d k) → (∀ k, 0 < c k → bag (plain c L t) k < c k) → (plain c L t).length = t.length →
    plain c L t = t.map fun p => (p, (best d (L p)).getD 0)
  | [], c, _, _, _ => rfl
  | p :: ps, c, hd, hb, hl => by
    cases h : best c (L p) with
    | none => rw [plain_none ps h] at hl; simp at hl
    | some j =>
      rw [plain_some ps h] at hb hl ⊢
      have hj := (best_some h).1
      have h2 := hb j hj
      rw [bag_cons] at h2
      simp at h2
      rw [List.map_cons, ← best_alive hd (L p), h]
      congr 1
      refine plain_const L d ps (dec c j) (fun k => ?_) (fun k hk => ?_) (by simpa using hl)
      · rw [← hd k]
        unfold dec
        by_cases e : k = j
        · subst e; simp; omega
        · simp [e]
      · unfold dec at hk ⊢
        by_cases e : k = j
        · subst e; simp at hk ⊢; exact (by have := h2; unfold dec at this; omega)
        · have e' : ¬ j = k := fun q => e q.symm
          simp [e] at hk ⊢
          have := hb k hk
          rw [bag_cons] at this
          simp [e'] at this
          unfold dec at this
          exact this

def Tight (c : Nat → Nat) (L : Bool → List Nat) (t : List Bool) : Prop := ∃ k, 0 < c k ∧ c k ≤ bag (plain c L t) k
/-- the word of the rows: D rows so far, B blocks done -/
def RW (K D B : Nat) (c : Nat → Nat) (L : Bool → List Nat) (t : List Bool) : Prop := D + 2 * alive K c ≤ B + 2 * K ∨ (D + 2 * alive K c ≤ B + 2 * K + 1 ∧ Tight c L t)
theorem RW.start {K B D : Nat} {c : Nat → Nat} {L : Bool → List Nat} {t : List Bool} (h : D + 2 * alive K c ≤ B + 2 * K) : RW K D B c L t := .inl h
theorem RW.turn {K B D : Nat} {c : Nat → Nat} {L : Bool → List Nat} {t : List Bool} {ks : List Nat} {m : Nat} (w : RW K D B c L t) (hc : ∀ k, 0 < c k → k < K) (hl : ks.length = t.length) (h : plain c L t = t.zip ks) (hm : ∀ k, m * ks.count k ≤ c k) (h1 : 1 ≤ m) :
    D + 1 + 2 * alive K (sub c fun k => m * ks.count k) ≤ B + 1 + 2 * K ∧
    ((∃ k ∈ ks, c k < (m + 1) * ks.count k) → (plain (sub c fun k => m * ks.count k) L t).length = t.length → RW K (D + 1) B (sub c fun k => m * ks.count k) L t) := by
  have le : ∀ k, (sub c fun k => m * ks.count k) k ≤ c k := fun k => Nat.sub_le _ _
  rcases w with w | ⟨w, k, hk, hb⟩
  · have a := alive_le (K := K) le
    refine ⟨by omega, fun he hfull => ?_⟩
    by_cases ex : ∃ k, 0 < c k ∧ (sub c fun k => m * ks.count k) k = 0
    · obtain ⟨k, k1, k2⟩ := ex
      have := alive_lt le (hc k k1) k1 k2
      exact .inl (by omega)
    · refine .inr ⟨by omega, ?_⟩
      have al : ∀ k, 0 < c k ↔ 0 < (sub c fun k => m * ks.count k) k := fun k => by
        constructor
        · intro q
          refine Nat.pos_of_ne_zero fun z => ex ⟨k, q, z⟩
        · intro q
          have := le k
          omega
      refine Classical.byContradiction fun nt => ?_
      have hb2 : ∀ k, 0 < (sub c fun k => m * ks.count k) k → bag (plain (sub c fun k => m * ks.count k) L t) k < (sub c fun k => m * ks.count k) k := fun k q => by
        refine Nat.lt_of_not_le fun z => nt ⟨k, q, z⟩
      have e2 := plain_const L (sub c fun k => m * ks.count k) t _ (fun _ => Iff.rfl) hb2 hfull
      have e1 := plain_const L (sub c fun k => m * ks.count k) t c al (fun k q => by
        have q2 := (al k).1 q
        rw [h, bag_zip hl]
        have q3 : 0 < c k - m * ks.count k := q2
        have : 1 * ks.count k ≤ m * ks.count k := Nat.mul_le_mul_right _ h1
        omega) (by rw [h, List.length_zip]; omega)
      obtain ⟨k, km, kl⟩ := he
      have kc : 0 < ks.count k := List.count_pos_iff.mpr km
      have q : 0 < c k := by
        have := hm k
        have : 1 * ks.count k ≤ m * ks.count k := Nat.mul_le_mul_right _ h1
        omega
      have z := hb2 k ((al k).1 q)
      rw [e2, ← e1, h, bag_zip hl] at z
      have z3 : ks.count k < c k - m * ks.count k := z
      rw [Nat.succ_mul] at kl
      omega
  · have z : (sub c fun k => m * ks.count k) k = 0 := by
      rw [h, bag_zip hl] at hb
      have : 1 * ks.count k ≤ m * ks.count k := Nat.mul_le_mul_right _ h1
      show c k - m * ks.count k = 0
      omega
    have := alive_lt le (hc k hk) hk z
    exact ⟨by omega, fun _ _ => .inl (by omega)⟩

/-! ### the turned game -/
def tl (L : Bool → List Nat) : Bool → List Nat := fun p => (L (!p)).reverse
theorem tl_tl (L : Bool → List Nat) : tl (tl L) = L := by funext p; simp [tl]
theorem Has.tl {K : Nat} {L : Bool → List Nat} (h : Has K L) : Has K (tl L) := fun p k => by
  unfold TG.tl
  rw [List.mem_reverse]
  exact h _ k
def E (cs : List Nat) (L : Bool → List Nat) (T : List Bool) : List Pk := plain (fn cs) (tl L) T.reverse
def bun (K : Nat) (p : Bool) (ps : List Pk) : List Nat := (List.range K).map fun k => ps.count (p, k)
def incr (b : List Nat) (k : Nat) : List Nat := b.set k (fn b k + 1)
def decr (b : List Nat) (k : Nat) : List Nat := b.set k (fn b k - 1)
theorem bun_len (K : Nat) (p : Bool) (ps : List Pk) : (bun K p ps).length = K := by simp [bun]
theorem decr_len (b : List Nat) (k : Nat) : (decr b k).length = b.length := by simp [decr]
theorem decr_sum {b : List Nat} {k : Nat} (h : 0 < fn b k) : (decr b k).sum + 1 = b.sum := by
  have hk : k < b.length := Nat.lt_of_not_le fun z => by rw [fn_ge z] at h; omega
  have := sum_set b k (fn b k - 1) hk
  unfold decr
  omega
theorem E_len {K : Nat} {L : Bool → List Nat} (hL : Has K L) {cs : List Nat} {T : List Bool} (hK : cs.length = K) (hT : T.length = cs.sum) : (E cs L T).length = T.length := by
  unfold E
  rw [plain_full hL.tl _ cs hK (by simp; omega)]
  simp
theorem E_bag {K : Nat} {L : Bool → List Nat} (hL : Has K L) {cs : List Nat} {T : List Bool} (hK : cs.length = K) (hT : T.length = cs.sum) (k : Nat) : bag (E cs L T) k = fn cs k :=
  whole_bag hL.tl hK (by simp; omega) k
theorem E_kinds {K : Nat} {L : Bool → List Nat} (hL : Has K L) {cs : List Nat} {T : List Bool} {x : Pk} (h : x ∈ E cs L T) : x.2 < K := plain_kinds hL.tl _ _ x h
theorem E_fst {K : Nat} {L : Bool → List Nat} (hL : Has K L) {cs : List Nat} {T : List Bool} (hK : cs.length = K) (hT : T.length = cs.sum) : (E cs L T).map Prod.fst = T.reverse := by
  have h := plain_fst (tl L) T.reverse (fn cs)
  have hl := plain_full hL.tl T.reverse cs hK (by simp; omega)
  unfold E
  rw [h, hl, List.take_length]
/-- the last pick of the turned game is the first one of the game; without it the game is that of the rest -/
theorem E_cons {K : Nat} {L : Bool → List Nat} (hL : Has K L) {cs : List Nat} {p : Bool} {T : List Bool} (hK : cs.length = K) (hT : T.length + 1 = cs.sum) :
    ∃ k, E cs L (p :: T) = E (decr cs k) L T ++ [(p, k)] ∧ k < K ∧ 0 < fn cs k := by
  have h0 : (plain (fn cs) (tl L) T.reverse).length = T.reverse.length := plain_full hL.tl _ cs hK (by simp; omega)
  have e : E cs L (p :: T) = plain (fn cs) (tl L) T.reverse ++ plain (sub (fn cs) (bag (plain (fn cs) (tl L) T.reverse))) (tl L) [p] := by
    unfold E
    rw [List.reverse_cons, plain_append _ _ _ _ h0]
  have hfull := E_len hL (T := p :: T) hK (by simpa using hT)
  rw [e] at hfull
  cases hb : best (sub (fn cs) (bag (plain (fn cs) (tl L) T.reverse))) (tl L p) with
  | none => rw [plain_none [] hb] at hfull; simp at hfull h0; omega
  | some k =>
    rw [plain_some [] hb] at e
    have hk := (best_some hb).1
    unfold sub at hk
    have hkK : k < K := (hL.tl p k).1 (best_some hb).2
    have e2 : E (decr cs k) L T = plain (fn cs) (tl L) T.reverse := by
      unfold E
      have hd : ∀ j, fn (decr cs k) j = if j = k then fn cs k - 1 else fn cs j := fun j => fn_set (by omega) j
      refine plain_restrict (tl L) T.reverse (fn cs) _ (fun j => ?_) fun j => ?_
      · rw [hd j]
        by_cases q : j = k
        · subst q; simp
        · simp [q]
      · rw [hd j]
        have := plain_bag_le (tl L) T.reverse (fn cs) j
        by_cases q : j = k
        · subst q; simp; omega
        · simp [q]; exact this
    exact ⟨k, by rw [e, e2]; rfl, hkK, by omega⟩

/-- the kinds with which best play can begin, in the player's order -/
def firsts (K : Nat) (cs : List Nat) (L : Bool → List Nat) : List Bool → List Nat
  | [] => []
  | p :: T => (L p).filter fun k => decide (0 < fn cs k) && decide (incr (bun K p (E (decr cs k) L T)) k = bun K p (E cs L (p :: T)))
theorem fn_bun {K : Nat} {p : Bool} {ps : List Pk} {k : Nat} (h : k < K) : fn (bun K p ps) k = ps.count (p, k) := fn_map h
theorem bun_snoc {K : Nat} {p : Bool} {ps : List Pk} {k : Nat} (h : k < K) : bun K p (ps ++ [(p, k)]) = incr (bun K p ps) k := by
  refine list_ext (by simp [incr, bun]) fun j => ?_
  unfold incr
  rw [fn_set (by rw [bun_len]; exact h)]
  by_cases hj : j < K
  · rw [fn_bun hj, fn_bun h, List.count_append, List.count_singleton]
    by_cases q : j = k
    · subst q; simp
    · have q' : ¬ k = j := fun z => q z.symm
      rw [fn_bun hj]
      simp [q, q']
  · have q : ¬ j = k := by omega
    rw [fn_ge (cs := bun K p (ps ++ [(p, k)])) (by rw [bun_len]; omega), if_neg q, fn_ge (cs := bun K p ps) (by rw [bun_len]; omega)]
theorem firsts_last {K : Nat} {L : Bool → List Nat} (hL : Has K L) {cs : List Nat} {p : Bool} {T : List Bool} (hK : cs.length = K) (hT : T.length + 1 = cs.sum) {X : List Pk} {x : Pk} (h : E cs L (p :: T) = X ++ [x]) :
    x.1 = p ∧ x.2 ∈ firsts K cs L (p :: T) := by
  obtain ⟨k, e, hk, h0⟩ := E_cons hL (p := p) hK hT
  have e2 := h.symm.trans e
  have e3 := List.append_inj_right' e2 rfl
  have e4 : x = (p, k) := by simpa using e3
  subst e4
  refine ⟨rfl, ?_⟩
  unfold firsts
  rw [List.mem_filter]
  refine ⟨(hL p k).2 hk, ?_⟩
  rw [Bool.and_eq_true]
  refine ⟨decide_eq_true h0, decide_eq_true ?_⟩
  rw [e, bun_snoc hk]
/-- a place of the course: its kind is a best first pick for what is left -/
theorem firsts_place {K : Nat} {L : Bool → List Nat} (hL : Has K L) {cs : List Nat} {T : List Bool} (hK : cs.length = K) (hT : T.length = cs.sum) {m : Nat} {x : Pk} (h : (E cs L T).reverse[m]? = some x) :
    x.2 ∈ firsts K (subl cs (bag ((E cs L T).reverse.take m))) L (T.drop m) ∧ (T.drop m).length = (subl cs (bag ((E cs L T).reverse.take m))).sum := by
  have hlen := E_len hL hK hT
  have hm : m < T.length := by
    obtain ⟨q, _⟩ := List.getElem?_eq_some_iff.mp h
    simpa [hlen] using q
  -- what is left is what the rest picks
  have hsplit : ∀ k, bag ((E cs L T).reverse.take m) k + bag ((E cs L T).reverse.drop m) k = fn cs k := fun k => by
    rw [← bag_append, List.take_append_drop, bag_reverse, E_bag hL hK hT]
  have hleft : ∀ k, fn (subl cs (bag ((E cs L T).reverse.take m))) k = bag ((E cs L T).reverse.drop m) k := fun k => by
    rw [fn_subl]
    have := hsplit k
    omega
  have e0 : (E cs L T).take (T.length - m) = plain (fn cs) (tl L) (T.drop m).reverse := by
    have ha := plain_full hL.tl (T.drop m).reverse cs hK (by simp; omega)
    have e1 : T.reverse = (T.drop m).reverse ++ (T.take m).reverse := by rw [← List.reverse_append, List.take_append_drop]
    unfold E
    rw [e1, plain_append _ _ _ _ ha, List.take_append_of_le_length (by rw [ha]; simp), List.take_of_length_le (by rw [ha]; simp)]
  have e1 : (E cs L T).reverse.drop m = ((E cs L T).take (T.length - m)).reverse := by
    rw [List.drop_reverse, hlen]
  have e2 : E (subl cs (bag ((E cs L T).reverse.take m))) L (T.drop m) = (E cs L T).take (T.length - m) := by
    rw [e0]
    show plain _ (tl L) (T.drop m).reverse = _
    refine plain_restrict (tl L) _ (fn cs) _ (fun k => by rw [fn_subl]; omega) fun k => ?_
    rw [← e0, hleft, e1, bag_reverse]
    exact Nat.le_refl _
  have hsum : (T.drop m).length = (subl cs (bag ((E cs L T).reverse.take m))).sum := by
    have s := sum_bag (K := K) ((E cs L T).reverse.drop m) fun x hx => E_kinds hL (List.mem_reverse.mp (List.mem_of_mem_drop hx))
    have q : (List.range K).map (bag ((E cs L T).reverse.drop m)) = subl cs (bag ((E cs L T).reverse.take m)) := by
      refine list_ext (by simp [subl_len, hK]) fun k => ?_
      rw [hleft]
      by_cases hk : k < K
      · rw [fn_map hk]
      · rw [fn_ge (by simp; omega)]
        have := hsplit k
        rw [fn_ge (by omega)] at this
        omega
    rw [← q, s]
    simp [hlen]
  refine ⟨?_, hsum⟩
  -- the rest's first letter
  have hd : T.drop m = T[m] :: T.drop (m + 1) := by rw [List.drop_eq_getElem_cons hm]
  have hx : (E cs L T).take (T.length - m) = ((E cs L T).reverse.drop (m + 1)).reverse ++ [x] := by
    have h3 : (E cs L T).reverse.drop m = x :: (E cs L T).reverse.drop (m + 1) := by
      have hm' : m < (E cs L T).reverse.length := by simpa [hlen] using hm
      rw [List.drop_eq_getElem_cons hm']
      congr 1
      rw [List.getElem?_eq_getElem hm'] at h
      exact Option.some.inj h
    have h4 := congrArg List.reverse (e1.symm.trans h3)
    rw [List.reverse_reverse, List.reverse_cons] at h4
    exact h4
  rw [hd] at e2 hsum ⊢
  exact (firsts_last hL (by rw [subl_len, hK]) (by rw [← hsum]; rfl) (e2.trans hx)).2

/-! ### the whole course, and renamed kinds -/
theorem course_fst {K : Nat} {L : Bool → List Nat} (hL : Has K L) {cs : List Nat} {T : List Bool} (hK : cs.length = K) (hT : T.length = cs.sum) : (E cs L T).reverse.map Prod.fst = T := by
  rw [List.map_reverse, E_fst hL hK hT, List.reverse_reverse]
theorem plain_rename {S : Nat → Prop} (f : Nat → Nat) (inj : ∀ a b, S a → S b → f a = f b → a = b) (L : Bool → List Nat) (hS : ∀ p k, k ∈ L p → S k) : ∀ (T : List Bool) (c c' : Nat → Nat), (∀ k, S k → c' (f k) = c k) →
    plain c' (fun p => (L p).map f) T = (plain c L T).map fun x => (x.1, f x.2)
  | [], c, c', _ => rfl
  | p :: ps, c, c', hc => by
    have hb : best c' ((L p).map f) = (best c (L p)).map f := by
      unfold best
      rw [List.find?_map]
      congr 1
      have : ∀ (l : List Nat), (∀ k ∈ l, S k) → l.find? ((fun k => decide (0 < c' k)) ∘ f) = l.find? fun k => decide (0 < c k) := by
        intro l
        induction l with
        | nil => intro _; rfl
        | cons a l ih =>
          intro hl
          rw [List.find?_cons, List.find?_cons]
          show (match decide (0 < c' (f a)) with | true => some a | false => _) = _
          rw [hc a (hl a List.mem_cons_self), ih fun k hk => hl k (List.mem_cons_of_mem _ hk)]
          rfl
      exact this _ (hS p)
    cases h : best c (L p) with
    | none =>
      rw [h] at hb
      rw [plain_none ps h, plain_none (L := fun p => (L p).map f) ps hb]
      rfl
    | some j =>
      rw [h] at hb
      rw [plain_some ps h, plain_some (L := fun p => (L p).map f) (k := f j) ps hb, List.map_cons]
      congr 1
      refine plain_rename f inj L hS ps (dec c j) (dec c' (f j)) fun k hk => ?_
      unfold dec
      by_cases e : k = j
      · subst e; simp [hc k hk]
      · have e' : ¬ f k = f j := fun q => e (inj k j hk (hS p j (best_some h).2) q)
        simp [e, e', hc k hk]
theorem E_rename {K : Nat} {f : Nat → Nat} {L : Bool → List Nat} (hL : Has K L) (inj : ∀ a b, a < K → b < K → f a = f b → a = b) {cs cs' : List Nat} {T : List Bool} (hc : ∀ k, k < K → fn cs' (f k) = fn cs k) :
    E cs' (fun p => (L p).map f) T = (E cs L T).map fun x => (x.1, f x.2) := by
  unfold E
  have e : tl (fun p => (L p).map f) = fun p => (tl L p).map f := by
    funext p
    unfold tl
    rw [List.map_reverse]
  rw [e]
  exact plain_rename (S := fun k => k < K) f inj (tl L) (fun p k hk => (hL.tl p k).1 hk) T.reverse _ _ hc
theorem count_rename {K : Nat} {f : Nat → Nat} (inj : ∀ a b, a < K → b < K → f a = f b → a = b) {ps : List Pk} (h : ∀ x ∈ ps, x.2 < K) {p : Bool} {k : Nat} (hk : k < K) : (ps.map fun x => (x.1, f x.2)).count (p, f k) = ps.count (p, k) := by
  induction ps with
  | nil => rfl
  | cons x r ih =>
    obtain ⟨q, j⟩ := x
    have hj : j < K := h (q, j) List.mem_cons_self
    rw [List.map_cons, List.count_cons, List.count_cons, ih fun x hx => h x (List.mem_cons_of_mem _ hx)]
    congr 1
    by_cases e : j = k
    · subst e; by_cases e2 : q = p <;> simp [e2]
    · have : ¬ f j = f k := fun z => e (inj j k hj hk z)
      simp [e, this]
end TG
namespace TG
open PySem PySem.Spec PyProof.Rows L2 TGZ
/-! ### the text -/
def topS (i : Nat) : Stmt := PySem.Challenge.pw_turnpicks_k39_whole_the_turned_game.main.body.getD i (.Pass ⟨0, 0, 0, 0⟩)
theorem bb_len : bootBuiltins "len" = some (.builtin "len") := by decide +kernel
theorem bb_sum : bootBuiltins "sum" = some (.builtin "sum") := by decide +kernel
theorem bb_min : bootBuiltins "min" = some (.builtin "min") := by decide +kernel
theorem bb_max : bootBuiltins "max" = some (.builtin "max") := by decide +kernel
theorem bb_all : bootBuiltins "all" = some (.builtin "all") := by decide +kernel
theorem bb_sorted : bootBuiltins "sorted" = some (.builtin "sorted") := by decide +kernel
theorem bb_isinstance : bootBuiltins "isinstance" = some (.builtin "isinstance") := by decide +kernel
theorem bt_int : bootBuiltins "int" = some (.type "int") := by decide +kernel
theorem bt_bool : bootBuiltins "bool" = some (.type "bool") := by decide +kernel
theorem bt_str : bootBuiltins "str" = some (.type "str") := by decide +kernel
theorem bt_list : bootBuiltins "list" = some (.type "list") := by decide +kernel
theorem bt_tuple : bootBuiltins "tuple" = some (.type "tuple") := by decide +kernel

/-! ### what a value is -/
def vN (n : Nat) : V := .int (n : Int)
def cd (b : Bool) : Nat := if b then 65 else 66
def txt (t : List Bool) : Str := ⟨(t.map cd).toArray⟩
def ltr (b : Bool) : V := .str (txt [b])
def TupN (H : Hp) (v : V) (ns : List Nat) : Prop := ∃ a, v = .ref a ∧ H a = some (.tup (ns.map vN))
def LsR (H : Hp) (v : V) (L : Bool → List Nat) : Prop := ∃ a x y, v = .ref a ∧ H a = some (.tup [x, y]) ∧ TupN H x (L true) ∧ TupN H y (L false)
def BlkR (H : Hp) (v : V) (b : Blk) : Prop := ∃ a, v = .ref a ∧ H a = some (.tup [.str (txt b.1), vN b.2])
def RowR (H : Hp) (v : V) (r : Row) : Prop := ∃ a b, v = .ref a ∧ H a = some (.tup [.str (txt r.1), .ref b, vN r.2.2]) ∧ Rd H b (.tup (r.2.1.map vN))
def All2 {α : Type} (R : V → α → Prop) (vs : List V) (ds : List α) : Prop := vs.length = ds.length ∧ ∀ (i : Nat) v d, vs[i]? = some v → ds[i]? = some d → R v d
def SeqR (H : Hp) (v : V) (bs : List Blk) : Prop := ∃ a vs, v = .ref a ∧ H a = some (.lst vs) ∧ All2 (BlkR H) vs bs
def CrsR (H : Hp) (v : V) (rs : List Row) : Prop := ∃ a vs, v = .ref a ∧ H a = some (.lst vs) ∧ All2 (RowR H) vs rs

/-- well-formed blocks, rows, lists -/
def WB (b : Blk) : Prop := 1 ≤ b.1.length ∧ b.1.length ≤ 20 ∧ 1 ≤ b.2
def WS (bs : List Blk) : Prop := bs.length ≤ 200 ∧ ∀ b ∈ bs, WB b
/-- a block more is borne -/
def WS2 (bs : List Blk) : Prop := bs.length ≤ 201 ∧ ∀ b ∈ bs, WB b
theorem WS.two {bs : List Blk} (h : WS bs) : WS2 bs := ⟨Nat.le_trans h.1 (by decide), h.2⟩
def WR (K : Nat) (r : Row) : Prop := 1 ≤ r.1.length ∧ r.1.length ≤ 20 ∧ r.2.1.length = r.1.length ∧ (∀ k ∈ r.2.1, k < K) ∧ 1 ≤ r.2.2
def WC (K : Nat) (rs : List Row) : Prop := rs.length ≤ 1000 ∧ ∀ r ∈ rs, WR K r
def WL (K : Nat) (L : Bool → List Nat) : Prop := ∀ p, (L p).Perm (List.range K)

section
variable {H H' : Hp} {v : V} {α : Type} {R R' : V → α → Prop} {vs ws : List V} {ds es : List α}
theorem All2.mono (h : All2 R vs ds) (f : ∀ v d, R v d → R' v d) : All2 R' vs ds := ⟨h.1, fun i v d a b => f v d (h.2 i v d a b)⟩
theorem All2.nil : All2 R [] [] := ⟨rfl, fun i v d a _ => by simp at a⟩
theorem All2.get (h : All2 R vs ds) {i : Nat} {d : α} (e : ds[i]? = some d) : ∃ v, vs[i]? = some v ∧ R v d := by
  obtain ⟨h1, _⟩ := List.getElem?_eq_some_iff.mp e
  have h2 : i < vs.length := by rw [h.1]; exact h1
  exact ⟨vs[i], List.getElem?_eq_getElem h2, h.2 i _ _ (List.getElem?_eq_getElem h2) e⟩
theorem All2.getV (h : All2 R vs ds) {i : Nat} {v : V} (e : vs[i]? = some v) : ∃ d, ds[i]? = some d ∧ R v d := by
  obtain ⟨h1, _⟩ := List.getElem?_eq_some_iff.mp e
  have h2 : i < ds.length := by rw [← h.1]; exact h1
  exact ⟨ds[i], List.getElem?_eq_getElem h2, h.2 i _ _ e (List.getElem?_eq_getElem h2)⟩
theorem All2.snoc {d : α} (h : All2 R vs ds) (r : R v d) : All2 R (vs ++ [v]) (ds ++ [d]) := by
  refine ⟨by simp [h.1], fun i v' d' a b => ?_⟩
  by_cases hi : i < vs.length
  · rw [List.getElem?_append_left hi] at a
    rw [List.getElem?_append_left (by rw [← h.1]; exact hi)] at b
    exact h.2 i v' d' a b
  · have hi2 : i = vs.length := by
      obtain ⟨q, _⟩ := List.getElem?_eq_some_iff.mp a
      simp at q
      omega
    subst hi2
    rw [List.getElem?_append_right (Nat.le_refl _)] at a
    rw [h.1, List.getElem?_append_right (Nat.le_refl _)] at b
    simp at a b
    subst a b
    exact r
theorem All2.append (h : All2 R vs ds) (h2 : All2 R ws es) : All2 R (vs ++ ws) (ds ++ es) := by
  refine ⟨by simp [h.1, h2.1], fun i v' d' a b => ?_⟩
  by_cases hi : i < vs.length
  · rw [List.getElem?_append_left hi] at a
    rw [List.getElem?_append_left (by rw [← h.1]; exact hi)] at b
    exact h.2 i v' d' a b
  · rw [List.getElem?_append_right (by omega)] at a
    rw [List.getElem?_append_right (by rw [← h.1]; omega), ← h.1] at b
    exact h2.2 _ v' d' a b
theorem All2.take (h : All2 R vs ds) (n : Nat) : All2 R (vs.take n) (ds.take n) := by
  refine ⟨by simp [h.1], fun i v' d' a b => ?_⟩
  rw [List.getElem?_take] at a b
  split at a
  · rename_i q
    rw [if_pos q] at b
    exact h.2 i _ _ a b
  · cases a
theorem All2.drop (h : All2 R vs ds) (n : Nat) : All2 R (vs.drop n) (ds.drop n) := by
  refine ⟨by simp [h.1], fun i v' d' a b => ?_⟩
  rw [List.getElem?_drop] at a b
  exact h.2 _ _ _ a b
/-- the tuples stand -/
def isT : HO → Bool
  | .tup _ => true
  | .frz _ _ => true
  | _ => false
def Tp (H H' : Hp) : Prop := ∀ a o, isT o = true → H a = some o → H' a = some o
theorem Tp.refl (H : Hp) : Tp H H := fun _ _ _ e => e
theorem Tp.trans {H1 : Hp} (a : Tp H H') (b : Tp H' H1) : Tp H H1 := fun c xs t e => b c xs t (a c xs t e)
theorem _root_.L2.Same.tp (e : Same H H') : Tp H H' := fun a xs _ h => e a _ h
theorem Tp.at {a : Addr} {xs : List V} (t : Tp H H') (e : H a = some (.tup xs)) : H' a = some (.tup xs) := t a _ rfl e
theorem Tp.rd {a : Addr} {xs : List V} (t : Tp H H') (e : Rd H a (.tup xs)) : Rd H' a (.tup xs) := by
  rcases e with e | ⟨o, e⟩
  · exact .inl (t a _ rfl e)
  · exact .inr ⟨o, t a _ rfl e⟩
theorem Tp.mut {p : Addr} {o o' : HO} (h : H p = some o') (hn : isT o' = false) : Tp H (upd H p o) := fun a ys t e => by
  have ne : a ≠ p := fun z => by
    rw [z, h] at e
    cases e
    rw [hn] at t
    cases t
  rw [upd_ne ne]
  exact e
theorem Tp.lst {p : Addr} {xs : List V} {o : HO} (h : H p = some (.lst xs)) : Tp H (upd H p o) := Tp.mut h rfl
theorem Tp.new {p : Addr} {o : HO} (h : H p = none) : Tp H (upd H p o) := fun a ys _ e => by
  rw [upd_ne (ne_of_none e h)]
  exact e
theorem rdT {K : PySem.W.Frag} {a : Addr} {xs : List V} (e : Rd H a (.tup xs)) : SqT K H a xs := .inl e
theorem rdTy {K : PySem.W.Frag} {a : Addr} {xs : List V} (e : Rd H a (.tup xs)) : TyX K H (.ref a) (.type "tuple") := by
  rcases e with e | ⟨o, e⟩
  · exact .base (.tup e)
  · exact .fTuple e
theorem TupN.tp (e : Tp H H') {ns : List Nat} (h : TupN H v ns) : TupN H' v ns := by
  obtain ⟨a, h1, h2⟩ := h
  exact ⟨a, h1, e.at h2⟩
theorem LsR.tp (e : Tp H H') {L : Bool → List Nat} (h : LsR H v L) : LsR H' v L := by
  obtain ⟨a, x, y, h1, h2, h3, h4⟩ := h
  exact ⟨a, x, y, h1, e.at h2, h3.tp e, h4.tp e⟩
theorem BlkR.tp (e : Tp H H') {b : Blk} (h : BlkR H v b) : BlkR H' v b := by
  obtain ⟨a, h1, h2⟩ := h
  exact ⟨a, h1, e.at h2⟩
theorem RowR.tp (e : Tp H H') {r : Row} (h : RowR H v r) : RowR H' v r := by
  obtain ⟨a, b, h1, h2, h3⟩ := h
  exact ⟨a, b, h1, e.at h2, e.rd h3⟩
theorem TupN.mono (e : Same H H') {ns : List Nat} (h : TupN H v ns) : TupN H' v ns := h.tp e.tp
theorem LsR.mono (e : Same H H') {L : Bool → List Nat} (h : LsR H v L) : LsR H' v L := h.tp e.tp
theorem BlkR.mono (e : Same H H') {b : Blk} (h : BlkR H v b) : BlkR H' v b := h.tp e.tp
theorem RowR.mono (e : Same H H') {r : Row} (h : RowR H v r) : RowR H' v r := h.tp e.tp
theorem SeqR.mono (e : Same H H') {bs : List Blk} (h : SeqR H v bs) : SeqR H' v bs := by
  obtain ⟨a, vs, h1, h2, h3⟩ := h
  exact ⟨a, vs, h1, e _ _ h2, h3.mono fun _ _ q => q.mono e⟩
theorem CrsR.mono (e : Same H H') {rs : List Row} (h : CrsR H v rs) : CrsR H' v rs := by
  obtain ⟨a, vs, h1, h2, h3⟩ := h
  exact ⟨a, vs, h1, e _ _ h2, h3.mono fun _ _ q => q.mono e⟩
theorem same_new {p : Addr} {o : HO} (h : H p = none) : Same H (upd H p o) := fun b x e => by
  rw [upd_ne (ne_of_none e h)]
  exact e
theorem _root_.L2.Same.app {p : Addr} {o' : HO} (s : Same H H') (h : H p = none) : Same H (upd H' p o') := fun b x e => by
  rw [upd_ne (ne_of_none e h)]
  exact s b x e
end

theorem get_vN {ns : List Nat} {i : Nat} {x : V} (h : (ns.map vN)[i]? = some x) : ∃ n, ns[i]? = some n ∧ x = vN n := by
  rw [List.getElem?_map] at h
  cases e : ns[i]? with
  | none => rw [e] at h; cases h
  | some n =>
    rw [e] at h
    exact ⟨n, rfl, (Option.some.inj h).symm⟩
theorem at_vN {ns : List Nat} {i n : Nat} (h : ns[i]? = some n) : (ns.map vN)[i]? = some (vN n) := by
  rw [List.getElem?_map, h]
  rfl
theorem all_yes : ∀ n : Nat, (List.replicate n true).all id = true
  | 0 => rfl
  | n + 1 => by rw [List.replicate_succ, List.all_cons, all_yes n]; rfl
theorem rep_snoc {α : Type} (n : Nat) (a : α) : List.replicate n a ++ [a] = List.replicate (n + 1) a := by
  rw [List.replicate_succ']
theorem line {n : Nat} (h : n ≤ 1000000) : n ≤ sizeLine := by rw [sizeLine_eq]; omega
theorem lineL {n : Nat} (h : n ≤ 1000000) : n < sizeLine := by rw [sizeLine_eq]; omega
/-! ### the module's names -/
structure Blt (K : PySem.W.Frag) (mg : Str → Option Value) : Prop where
  len_ : mg "len" = none
  sum_ : mg "sum" = none
  min_ : mg "min" = none
  max_ : mg "max" = none
  all_ : mg "all" = none
  sorted_ : mg "sorted" = none
  isinstance_ : mg "isinstance" = none
  int_ : mg "int" = none
  bool_ : mg "bool" = none
  str_ : mg "str" = none
  list_ : mg "list" = none
  tuple_ : mg "tuple" = none
  range_ : mg "range" = none
  reversed_ : mg "reversed" = none
  enumerate_ : mg "enumerate" = none
  zip_ : mg "zip" = none
  MAX_KINDS : ∃ u, mg "MAX_KINDS" = some u ∧ RelV (.int 60) u
  MAX_BLOCKS : ∃ u, mg "MAX_BLOCKS" = some u ∧ RelV (.int 200) u
  MAX_TURNS : ∃ u, mg "MAX_TURNS" = some u ∧ RelV (.int 20) u
  MAX_ROWS : ∃ u, mg "MAX_ROWS" = some u ∧ RelV (.int 1000) u
  pl : ∃ pa, mg "PLAYERS" = some (.ref pa) ∧ ∃ (o : Obj) (its : Array Value) (n : Nat), K.lookup pa = some o ∧ o.cls = .type "tuple" ∧ o.dict = none ∧ o.data = .seq its n ∧ its.size ≤ sizeLine ∧ Vals [ltr true, ltr false] its.toList
/-- the tuple ("A", "B") -/
noncomputable def Blt.pa {K : PySem.W.Frag} {mg : Str → Option Value} (T : Blt K mg) : Addr := T.pl.choose
theorem Blt.players {K : PySem.W.Frag} {mg : Str → Option Value} (T : Blt K mg) : ∃ u, mg "PLAYERS" = some u ∧ RelV (.ref T.pa) u := ⟨_, T.pl.choose_spec.1, rfl⟩
theorem Blt.sq {K : PySem.W.Frag} {mg : Str → Option Value} (T : Blt K mg) (H : Hp) : SqT K H T.pa [ltr true, ltr false] := by
  obtain ⟨o, its, n, h1, h2, h3, h4, h5, h6⟩ := T.pl.choose_spec.2
  exact .inr ⟨o, its, n, h1, h2, h4, h5, h6⟩
theorem Blt.ty {K : PySem.W.Frag} {mg : Str → Option Value} (T : Blt K mg) (H : Hp) : tyV K "tuple" (.ref T.pa) H := by
  obtain ⟨o, its, n, h1, h2, h3, h4, h5, h6⟩ := T.pl.choose_spec.2
  exact .inr (.inl ⟨rfl, o, h1, h2, h3⟩)

/-- a def of the text, as it stands -/
def Df (K : PySem.W.Frag) (mg : Str → Option Value) (x : Str) (st : Stmt) (ps : List Str) : Prop := ∃ fa fd, C8.Def K mg x st fa fd ∧ Binds K fd ps []
theorem cal_of {P : Program} {w : World} {K : PySem.W.Frag} {mg : Str → Option Value} {base : Heap} {x : Str} {st : Stmt} {N ps : List Str} {k : Nat} {sp : Sp} (D : Df K mg x st ps) (S : FnScope N ps (C8.fnScope st)) (len : ∀ vs H Q E, sp vs H Q E → vs.length = ps.length)
    (hbody : ∀ {f : Addr} (cdv : Value) (A : Around) (outer : List Env) (s : Shared) (H : Hp) (vs : List V) (Q : VK) (E : XK), Room k (A.deeper (envOfC x (C8.fnScope st) s.heap.objs.size f cdv)) → sp vs H Q E →
      ∃ t, PSs (cxOf C8.CX0 P w K mg base N x (C8.fnScope st) f cdv A outer s H E).nox (C8.fnBody st) t ∧ t { nx := fun _ H' => Q .non H', rt := Q } (start N vs) H) : C8.Cal P w K mg base (k + 1) x sp [] := by
  obtain ⟨fa, fd, d, b⟩ := D
  exact C8.cal0 d b .nil S len fun cdv A outer s H vs Q E hr h => hbody cdv A outer s H vs Q E hr h

/-! ### rules within a comprehension's block: the written part named -/
section
variable {X : Cx} {K : PySem.W.Frag}
theorem ix_tupK (h : X.K = K) : IxR X (rIxT K) := h ▸ ix_tup
theorem ix_listK (h : X.K = K) : IxR X (rIxL K) := h ▸ ix_list
theorem op_in_seqK (h : X.K = K) : OpR X (compareOp .In) (rIn K false) := h ▸ op_in_seq
def rLenK (K : PySem.W.Frag) : List V → Hp → VK → Prop := fun xs H Q => ∃ p ys, xs = [.ref p] ∧ (SqL K H p ys ∨ SqT K H p ys) ∧ Q (.int ys.length) H
theorem call_len_seqK (h : X.K = K) : CallR X (.builtin "len") (rLenK K) := by
  subst h
  exact call_len_seq
def rTupK (K : PySem.W.Frag) : List V → Hp → VK → Prop := fun xs H Q => ∃ p ys, xs = [.ref p] ∧ ((SqL K H p ys ∧ ∀ l, H l = none → Q (.ref l) (upd H l (.tup ys))) ∨ (SqT K H p ys ∧ Q (.ref p) H))
theorem call_tuple_ofK (h : X.K = K) : CallR X (.type "tuple") (rTupK K) := by
  subst h
  exact call_tuple_of
theorem mt_tcountK (h : X.K = K) : MtR X "tuple.count" (rCntT K) := h ▸ mt_tcount
theorem mt_indexK (h : X.K = K) : MtR X "list.index" (rIndex K) := h ▸ mt_index
theorem pe_revTK {e : Expr} {te : TE} {k : Nat} {p1 p2 p3 pos : Pos} (h : X.K = K) (he : PE X e te) : PE X (.Subscript e (.Slice none none (some (.UnaryOp .USub (.Constant (.int 1) k p1) p2)) p3) pos) (tRevT K te) := h ▸ pe_revT he
theorem pe_toK {T : String} {r : V → List V → Hp → VK → Prop} {e : Expr} {to : TE} {t : TA} (h : X.K = K) (p : PE X e (tBM X.K T r to t)) : PE X e (tBM K T r to t) := h ▸ p
theorem pi_listK {tg l : Expr} {tl : TE} (h : X.K = K) (hl : PE X l tl) : PI X tg l (iList K tl) := h ▸ pi_list hl
end
end TG
namespace TG
open PySem PySem.Spec PyProof.Rows L2 TGZ
def zi (n : Nat) : Int := n
/-! ### data that is compared -/
def iN (n : Nat) : PyData := .int (n : Int)
def dT (ns : List Nat) : PyData := .tuple (ns.map iN)
def dL (ns : List Nat) : PyData := .list (ns.map iN)
/-- flat enough -/
def Fl (n : Nat) (ds : List PyData) : Prop := PyData.canLayAll0 ds = true ∧ PyData.depthAll ds ≤ n
theorem Fl.nil {n : Nat} : Fl n [] := ⟨by rw [PyData.canLayAll0], by rw [PyData.depthAll]; omega⟩
theorem Fl.cons {n : Nat} {d : PyData} {ds : List PyData} (h1 : d.canLay0 = true) (h2 : d.depth ≤ n) (h : Fl n ds) : Fl n (d :: ds) :=
  ⟨by rw [PyData.canLayAll0, h1, h.1]; rfl, by rw [PyData.depthAll]; have := h.2; omega⟩
theorem Fl.tup {n : Nat} {ds : List PyData} (h : Fl n ds) : (PyData.tuple ds).canLay0 = true ∧ (PyData.tuple ds).depth ≤ n + 1 :=
  ⟨by rw [PyData.canLay0]; exact h.1, by rw [PyData.depth]; have := h.2; omega⟩
theorem Fl.lst {n : Nat} {ds : List PyData} (h : Fl n ds) : (PyData.list ds).canLay0 = true ∧ (PyData.list ds).depth ≤ n + 1 :=
  ⟨by rw [PyData.canLay0]; exact h.1, by rw [PyData.depth]; have := h.2; omega⟩
theorem fl_ints : ∀ ns : List Nat, Fl 0 (ns.map iN)
  | [] => Fl.nil
  | n :: ns => Fl.cons (by rw [iN, PyData.canLay0]) (by rw [iN, PyData.depth]; omega) (fl_ints ns)
theorem Fl.shT {n : Nat} {ds : List PyData} (h : Fl n ds) (hn : n ≤ 60) : SeqAt.shaped (.tuple ds) = true := by
  unfold SeqAt.shaped
  rw [h.tup.1, decide_eq_true (by have := h.tup.2; omega)]
  rfl
theorem Fl.shL {n : Nat} {ds : List PyData} (h : Fl n ds) (hn : n ≤ 60) : SeqAt.shaped (.list ds) = true := by
  unfold SeqAt.shaped
  rw [h.lst.1, decide_eq_true (by have := h.lst.2; omega)]
  rfl
theorem fl_tups (nss : List (List Nat)) : Fl 1 (nss.map dT) := by
  induction nss with
  | nil => exact Fl.nil
  | cons ns r ih => exact Fl.cons (fl_ints ns).tup.1 (fl_ints ns).tup.2 ih
theorem shT (ns : List Nat) : SeqAt.shaped (dT ns) = true := (fl_ints ns).shT (by decide)
theorem shL (ns : List Nat) : SeqAt.shaped (dL ns) = true := (fl_ints ns).shL (by decide)
theorem shTT (nss : List (List Nat)) : SeqAt.shaped (.tuple (nss.map dT)) = true := (fl_tups nss).shT (by decide)
theorem eqv_ints : ∀ as bs : List Nat, PyData.eqvAll (as.map iN) (bs.map iN) = decide (as = bs)
  | [], [] => by rw [List.map_nil, PyData.eqvAll]; rfl
  | [], b :: bs => by rw [List.map_nil, List.map_cons, PyData.eqvAll]; rfl
  | a :: as, [] => by rw [List.map_nil, List.map_cons, PyData.eqvAll]; rfl
  | a :: as, b :: bs => by
    rw [List.map_cons, List.map_cons, PyData.eqvAll, eqv_ints as bs, iN, iN, PyData.eqv]
    by_cases h : a = b
    · subst h; simp
    · have : ¬ (a : Int) = (b : Int) := by omega
      simp [h, this]
theorem eqT (as bs : List Nat) : PyData.eqv (dT as) (dT bs) = decide (as = bs) := by rw [dT, dT, PyData.eqv, eqv_ints]
theorem eqL (as bs : List Nat) : PyData.eqv (dL as) (dL bs) = decide (as = bs) := by rw [dL, dL, PyData.eqv, eqv_ints]
theorem eq_self {d : PyData} (h : SeqAt.shaped d = true) : PyData.eqv d d = true := SeqAt.eqv_refl d (SeqAt.canLay_of_shaped h)
section
variable {K : PySem.W.Frag} {H : Hp} {v : V}
theorem dp_ints : ∀ ns : List Nat, DpAll K H (ns.map vN) (ns.map iN)
  | [] => .nil
  | n :: ns => .cons (.int _) (dp_ints ns)
theorem TupN.dp {ns : List Nat} (h : TupN H v ns) : Dp K H v (dT ns) := by
  obtain ⟨a, rfl, e⟩ := h
  exact .tup (SqT.of e) (dp_ints ns)
theorem dp_lst {a : Addr} {ns : List Nat} (e : H a = some (.lst (ns.map vN))) : Dp K H (.ref a) (dL ns) := .lst (SqL.of e) (dp_ints ns)
end
theorem ints_map (ns : List Nat) : (ns.map zi).map V.int = ns.map vN := by rw [List.map_map]; rfl
/-- ints in order that are a rearrangement of 0 .. n - 1 -/
theorem sorted_range {ns : List Nat} {K : Nat} (h : ns.Perm (List.range K)) {zs : List Int} (hp : zs.Perm (ns.map zi)) (ho : zs.Pairwise (· ≤ ·)) : zs = (List.range K).map zi := by
  have h2 : zs.Perm ((List.range K).map zi) := hp.trans (h.map _)
  refine List.Perm.eq_of_pairwise (fun a b _ _ h1 h2 => Int.le_antisymm h1 h2) ho ?_ h2
  rw [List.pairwise_map]
  exact List.pairwise_lt_range.imp fun h => by unfold zi; omega
theorem sum_int : ∀ ns : List Nat, (ns.map zi).sum = ((ns.sum : Nat) : Int)
  | [] => rfl
  | n :: ns => by rw [List.map_cons, List.sum_cons, List.sum_cons, sum_int ns, zi]; omega

/-! ### walks -/
theorem walk_zs {n : Nat} {G : Hp → Prop} {x y : Nat → V} : Walk (ItS n G x y) n G (fun i H v H' => ∃ T, v = .ref T ∧ H T = none ∧ H' = upd H T (.tup [x i, y i])) :=
  ⟨fun _ _ hi g => ⟨hi, g⟩, fun _ g => ⟨rfl, g⟩, fun _ _ _ _ _ _ y => y⟩
theorem walk_en {n : Nat} {G : Hp → Prop} {x : Nat → V} : Walk (ItE n G x) n G (fun i H v H' => ∃ T, v = .ref T ∧ H T = none ∧ H' = upd H T (.tup [.int (i : Nat), x i])) :=
  ⟨fun _ _ hi g => ⟨hi, g⟩, fun _ g => ⟨rfl, g⟩, fun _ _ _ _ _ _ y => y⟩
/-- a comprehension whose element leaves all that is tracked as it was; E: what is known of its item -/
theorem lc_same {J : It} {n : Nat} {G : Hp → Prop} {Y : Nat → Hp → V → Hp → Prop} (w : Walk J n G Y) {g : TG} {te : TE} {vs : List Nat} {σ : L2.St} {H1 : Hp} {D : Addr} {Qd : Hp → Prop} (E : Nat → V → Hp → Prop) (hn : n ≤ 1000000) (hD : H1 D = none)
    (mono : ∀ j v H H', Tp H H' → E j v H → E j v H') (hG : ∀ H', Same H1 H' → G H')
    (hs : ∀ i x H H' (k : V → Hp → Prop), i < n → Same H1 H → Y i H x H' → (∀ y H4, Same H H4 → E i y H4 → k y H4) → g x (wipe σ vs) H' fun σ2 H2 => wipe σ2 vs = wipe σ vs ∧ te σ2 H2 k)
    (hd : ∀ H' acc, Same H1 H' → H' D = some (.lst acc) → acc.length = n → (∀ j v, acc[j]? = some v → E j v H') → Qd H') :
    ∃ W : Nat → Nat → Hp → Prop, (∃ m, W 0 m (upd H1 D (.lst []))) ∧ ∀ i m H, W i m H →
      (J.stop i H ∧ Qd H) ∨ (J.go i H ∧ ∃ Nx : Hp → Prop, (∀ H', Nx H' → ∃ m', m' < m ∧ W (i + 1) m' H') ∧ ∀ x H', J.yld i H x H' → g x (wipe σ vs) H' fun σ2 H2 => wipe σ2 vs = wipe σ vs ∧ tYes σ2 H2 fun b H3 =>
        if b = true then te σ2 H3 fun y H4 => ∃ acc, H4 D = some (.lst acc) ∧ acc.length < sizeLine ∧ Nx (upd H4 D (.lst (acc ++ [y]))) else Nx H3) := by
  refine lc_it w (fun i H => Same H1 H ∧ ∃ acc, H D = some (.lst acc) ∧ acc.length = i ∧ ∀ j v, acc[j]? = some v → E j v H) ⟨same_new hD, [], upd_same, rfl, fun j v e => by simp at e⟩ (fun i H _ p => hG H p.1) (fun i x H H' hi p y => ?_) (fun H p => ?_)
  · obtain ⟨s, acc, e1, e2, e3⟩ := p
    refine hs i x H H' _ hi s y fun z H4 s4 ez => ?_
    refine ⟨acc, s4 _ _ e1, lineL (by omega), (s.trans s4).app hD, acc ++ [z], upd_same, by simp [e2], fun j v ej => ?_⟩
    have t5 : Tp H4 (upd H4 D (.lst (acc ++ [z]))) := Tp.lst (s4 _ _ e1)
    by_cases hj : j < acc.length
    · rw [List.getElem?_append_left hj] at ej
      exact mono j v _ _ (s4.tp.trans t5) (e3 j v ej)
    · rw [List.getElem?_append_right (by omega)] at ej
      have hj2 : j - acc.length = 0 := by
        obtain ⟨q, _⟩ := List.getElem?_eq_some_iff.mp ej
        simp at q
        omega
      rw [hj2] at ej
      have ev : v = z := by simpa using ej.symm
      have ei : j = i := by omega
      subst ev ei
      exact mono _ _ _ _ t5 ez
  · obtain ⟨s, acc, e1, e2, e3⟩ := p
    exact hd H acc s e1 e2 e3
theorem list_of {acc : List V} {n : Nat} {f : Nat → V} (hl : acc.length = n) (h : ∀ j v, acc[j]? = some v → v = f j) : acc = (List.range n).map f := by
  refine List.ext_getElem (by simp [hl]) fun i h1 h2 => ?_
  rw [List.getElem_map, List.getElem_range]
  exact h i _ (List.getElem?_eq_getElem h1)
theorem all2_of {α : Type} {R : V → α → Prop} {acc : List V} {ds : List α} (hl : acc.length = ds.length) (h : ∀ (j : Nat) v, acc[j]? = some v → ∃ d, ds[j]? = some d ∧ R v d) : All2 R acc ds :=
  ⟨hl, fun i v d a b => by
    obtain ⟨d', e, r⟩ := h i v a
    rw [b] at e
    cases e
    exact r⟩
theorem yes {p : Prop} [Decidable p] (h : p) : V.bl (decide p) = V.bl true := by rw [decide_eq_true h]
theorem no {p : Prop} [Decidable p] (h : ¬ p) : V.bl (decide p) = V.bl false := by rw [decide_eq_false h]
theorem nyes {p : Prop} [Decidable p] (h : p) : V.bl (!decide p) = V.bl false := by rw [decide_eq_true h]; rfl
theorem nno {p : Prop} [Decidable p] (h : ¬ p) : V.bl (!decide p) = V.bl true := by rw [decide_eq_false h]; rfl
end TG
namespace TG
open PySem PySem.Spec PyProof.Rows L2 TGZ
abbrev st_is_integer : Stmt := topS 15
abbrev N_is_integer : List Str := ["value"]
theorem sc_is_integer : FnScope N_is_integer ["value"] (C8.fnScope st_is_integer) := C8.fnScope_by (by decide +kernel)
abbrev st_is_at_least : Stmt := topS 16
abbrev N_is_at_least : List Str := ["value", "low"]
theorem sc_is_at_least : FnScope N_is_at_least ["value", "low"] (C8.fnScope st_is_at_least) := C8.fnScope_by (by decide +kernel)
abbrev st_is_between : Stmt := topS 17
abbrev N_is_between : List Str := ["value", "low", "high"]
theorem sc_is_between : FnScope N_is_between ["value", "low", "high"] (C8.fnScope st_is_between) := C8.fnScope_by (by decide +kernel)
abbrev st_is_bundle : Stmt := topS 18
abbrev N_is_bundle : List Str := ["value", "many", "entry"]
theorem sc_is_bundle : FnScope N_is_bundle ["value", "many"] (C8.fnScope st_is_bundle) := C8.fnScope_by (by decide +kernel)
section
variable {P : Program} {w : World} {K : PySem.W.Frag} {mg : Str → Option Value} {base : Heap}
def sp_is_integer : Sp := fun vs H Q _ => ∃ i : Int, vs = [.int i] ∧ Q (.bl true) H
theorem ok_is_integer (T : Blt K mg) (dF : Df K mg "is_integer" st_is_integer ["value"])  : C8.Cal P w K mg base 1 "is_integer" sp_is_integer [] := by
  have nd := sc_is_integer.nd
  refine cal_of dF sc_is_integer (fun vs H Q E h => ?_) (fun cdv A outer s H vs Q E hr h => ?_)
  · obtain ⟨i, rfl, _⟩ := h
    rfl
  · obtain ⟨i, rfl, q⟩ := h
    refine ⟨_, pss_one (ps_ret (pe_and (pe_callB call_isi (by rfl) T.isinstance_ bb_isinstance (pa_cons (pv 0) (pa_cons (pe_bltn (v := .ty "int") (by rfl) T.int_ bt_int rfl) pa_nil))) (pe_one (pe_not (pe_callB call_isi (by rfl) T.isinstance_ bb_isinstance (pa_cons (pv 0) (pa_cons (pe_bltn (v := .ty "bool") (by rfl) T.bool_ bt_bool rfl) pa_nil))))))), ?_⟩
    refine ⟨.int i, rfl, .int i, .ty "int", _, _, true, rfl, .ty _, .base (.int i), kit_ty (by decide +kernel), true, rfl, ?_⟩
    refine ⟨.int i, rfl, .int i, .ty "bool", _, _, false, rfl, .ty _, .base (.int i), kit_ty (by decide +kernel), false, rfl, q⟩
def sp_is_at_least : Sp := fun vs H Q _ => ∃ i j : Int, vs = [.int i, .int j] ∧ Q (.bl (decide (j ≤ i))) H
theorem ok_is_at_least (T : Blt K mg) (dF : Df K mg "is_at_least" st_is_at_least ["value", "low"]) (c_is_integer : C8.Cal P w K mg base 1 "is_integer" sp_is_integer []) : C8.Cal P w K mg base 2 "is_at_least" sp_is_at_least [] := by
  have nd := sc_is_at_least.nd
  refine cal_of dF sc_is_at_least (fun vs H Q E h => ?_) (fun cdv A outer s H vs Q E hr h => ?_)
  · obtain ⟨i, j, rfl, _⟩ := h
    rfl
  · obtain ⟨i, j, rfl, q⟩ := h
    refine ⟨_, pss_one (ps_ret (pe_and (C8.pe_c c_is_integer hr (by decide) (by rfl) (pa_cons (pv 0) pa_nil)) (pe_one (pe_cmpR op_ge (pv 0) (pv 1) (nomark _))))), ?_⟩
    exact ⟨.int i, rfl, i, rfl, true, rfl, .int i, rfl, .int j, rfl, i, j, rfl, rfl, q⟩
def sp_is_between : Sp := fun vs H Q _ => ∃ i j k : Int, vs = [.int i, .int j, .int k] ∧ Q (.bl (decide (j ≤ i) && decide (i ≤ k))) H
theorem ok_is_between (T : Blt K mg) (dF : Df K mg "is_between" st_is_between ["value", "low", "high"]) (c_is_integer : C8.Cal P w K mg base 1 "is_integer" sp_is_integer []) : C8.Cal P w K mg base 2 "is_between" sp_is_between [] := by
  have nd := sc_is_between.nd
  refine cal_of dF sc_is_between (fun vs H Q E h => ?_) (fun cdv A outer s H vs Q E hr h => ?_)
  · obtain ⟨i, j, k, rfl, _⟩ := h
    rfl
  · obtain ⟨i, j, k, rfl, q⟩ := h
    refine ⟨_, pss_one (ps_ret (pe_and (C8.pe_c c_is_integer hr (by decide) (by rfl) (pa_cons (pv 0) pa_nil)) (pe_one (pe_chain op_le op_le (pv 1) (pv 0) (pv 2))))), ?_⟩
    refine ⟨.int i, rfl, i, rfl, true, rfl, .int j, rfl, .int i, rfl, j, i, rfl, rfl, decide (j ≤ i), rfl, ite2 (fun e => ?_) (fun e => ?_)⟩
    · rw [e] at q
      exact ⟨.int k, rfl, i, k, rfl, rfl, q⟩
    · have e2 : decide (j ≤ i) = false := by simpa using e
      rw [e2] at q
      exact q
def sp_is_bundle : Sp := fun vs H Q _ => ∃ (v : V) (ns : List Nat), vs = [v, vN ns.length] ∧ TupN H v ns ∧ ns.length ≤ 1000 ∧ ∀ H', Same H H' → Q (.bl true) H'
theorem ok_is_bundle (T : Blt K mg) (dF : Df K mg "is_bundle" st_is_bundle ["value", "many"]) (c_is_at_least : C8.Cal P w K mg base 2 "is_at_least" sp_is_at_least []) : C8.Cal P w K mg base 3 "is_bundle" sp_is_bundle [] := by
  have nd := sc_is_bundle.nd
  refine cal_of dF sc_is_bundle (fun vs H Q E h => ?_) (fun cdv A outer s H vs Q E hr h => ?_)
  · obtain ⟨v, ns, rfl, _⟩ := h
    rfl
  · obtain ⟨v, ns, rfl, ⟨a, rfl, ha⟩, hl, q⟩ := h
    refine ⟨_, pss_one (ps_ret (pe_and (pe_callB call_isi (by rfl) T.isinstance_ bb_isinstance (pa_cons (pv 0) (pa_cons (pe_bltn (v := .ty "tuple") (by rfl) T.tuple_ bt_tuple rfl) pa_nil))) (pe_and (pe_cmpR op_eq (pe_callB (call_len_seqK (K := K) rfl) (by rfl) T.len_ bb_len (pa_cons (pv 0) pa_nil)) (pv 1) (nomark _)) (pe_one (pe_callB (cr_all rfl) (by rfl) T.all_ bb_all (pa_cons (pe_lc (own := [("entry", 2)]) (g := gName 2) (tt := tYes) rfl nd (pi_tup (pv 0)) (blkOk_by (N := N_is_bundle) (sc := C8.fnScope st_is_bundle) (by decide +kernel))
        (fun _ _ _ _ _ => pg_name (i := 2) nd rfl (Or.inl rfl)) (fun _ _ _ _ _ => pts_nil)
        (fun _ _ _ _ _ => C8.pe_c c_is_at_least hr (by decide) (by rfl) (pa_cons (pv 2) (pa_cons (pe_int) pa_nil)))) pa_nil)))))), ?_⟩
    refine ⟨.ref a, rfl, .ref a, .ty "tuple", _, _, true, rfl, .ty _, .base (.tup ha), kit_ty (by decide +kernel), true, rfl, ?_⟩
    refine ⟨.ref a, rfl, a, _, rfl, .inr (SqT.of ha), vN ns.length, rfl, rfl, true, by simp [vN], ?_⟩
    refine ⟨.ref a, rfl, a, rfl, ⟨_, SqT.of ha⟩, fun D hD => ?_⟩
    refine lc_tup (K := K) (a := a) (xs := ns.map vN) (fun i H' => Same H H' ∧ H' D = some (.lst ((List.replicate i true).map V.bl))) ⟨same_new hD, upd_same⟩ (fun i H' _ p => SqT.of (p.1 _ _ ha)) (fun i x H' hx p => ?_) (fun H' p => ?_)
    · obtain ⟨n, _, rfl⟩ := get_vN hx
      refine ⟨rfl, ?_⟩
      refine ⟨vN n, rfl, (n : Int), 0, rfl, _, p.2, ?_, p.1.app hD, ?_⟩
      · obtain ⟨q1, _⟩ := List.getElem?_eq_some_iff.mp hx
        rw [List.length_map] at q1
        refine lineL ?_
        rw [List.length_map, List.length_replicate]
        omega
      · rw [upd_same, ← rep_snoc, List.map_append, decide_eq_true (Int.natCast_nonneg n)]
        rfl
    · exact ⟨D, _, rfl, SqL.of p.2, by rw [all_yes]; exact q H' p.1⟩
end
end TG
namespace TG
open PySem PySem.Spec PyProof.Rows L2 TGZ
abbrev st_is_list : Stmt := topS 19
abbrev N_is_list : List Str := ["value", "many", "kind"]
theorem sc_is_list : FnScope N_is_list ["value", "many"] (C8.fnScope st_is_list) := C8.fnScope_by (by decide +kernel)
abbrev st_is_turns : Stmt := topS 20
abbrev N_is_turns : List Str := ["value", "letter"]
theorem sc_is_turns : FnScope N_is_turns ["value"] (C8.fnScope st_is_turns) := C8.fnScope_by (by decide +kernel)
abbrev st_is_block : Stmt := topS 21
abbrev N_is_block : List Str := ["value"]
theorem sc_is_block : FnScope N_is_block ["value"] (C8.fnScope st_is_block) := C8.fnScope_by (by decide +kernel)
abbrev st_is_row : Stmt := topS 22
abbrev N_is_row : List Str := ["value", "many", "kind"]
theorem sc_is_row : FnScope N_is_row ["value", "many"] (C8.fnScope st_is_row) := C8.fnScope_by (by decide +kernel)
abbrev st_require_counts : Stmt := topS 23
abbrev N_require_counts : List Str := ["counts"]
theorem sc_require_counts : FnScope N_require_counts ["counts"] (C8.fnScope st_require_counts) := C8.fnScope_by (by decide +kernel)
abbrev st_require_lists : Stmt := topS 24
abbrev N_require_lists : List Str := ["lists", "many", "index", "ranking"]
theorem sc_require_lists : FnScope N_require_lists ["lists", "many"] (C8.fnScope st_require_lists) := C8.fnScope_by (by decide +kernel)
abbrev st_require_sequence : Stmt := topS 25
abbrev N_require_sequence : List Str := ["sequence", "index", "block"]
theorem sc_require_sequence : FnScope N_require_sequence ["sequence"] (C8.fnScope st_require_sequence) := C8.fnScope_by (by decide +kernel)
abbrev st_require_course : Stmt := topS 26
abbrev N_require_course : List Str := ["course", "many", "index", "row"]
theorem sc_require_course : FnScope N_require_course ["course", "many"] (C8.fnScope st_require_course) := C8.fnScope_by (by decide +kernel)
section
variable {P : Program} {w : World} {K : PySem.W.Frag} {mg : Str → Option Value} {base : Heap}
/-- all(..) of a comprehension of tests that hold -/
theorem all_true {acc : List V} {n : Nat} (hl : acc.length = n) (h : ∀ (j : Nat) v, acc[j]? = some v → v = .bl true) : acc = (List.replicate n true).map V.bl := by
  have e := list_of hl h
  rw [e]
  refine List.ext_getElem (by simp) fun i h1 h2 => by simp
def sp_is_list : Sp := fun vs H Q _ => ∃ (v : V) (ns : List Nat) (k : Nat), vs = [v, vN k] ∧ TupN H v ns ∧ ns.Perm (List.range k) ∧ k ≤ 1000 ∧ ∀ H', Same H H' → Q (.bl true) H'
theorem ok_is_list (T : Blt K mg) (dF : Df K mg "is_list" st_is_list ["value", "many"]) (c_is_between : C8.Cal P w K mg base 2 "is_between" sp_is_between []) : C8.Cal P w K mg base 3 "is_list" sp_is_list [] := by
  have nd := sc_is_list.nd
  refine cal_of dF sc_is_list (fun vs H Q E h => ?_) (fun cdv A outer s H vs Q E hr h => ?_)
  · obtain ⟨v, ns, k, rfl, _⟩ := h
    rfl
  · obtain ⟨v, ns, k, rfl, ⟨a, rfl, ha⟩, hp, hk, q⟩ := h
    have hl : ns.length = k := by rw [hp.length_eq, List.length_range]
    refine ⟨_, pss_cons (ps_if ((pw_or (pt_not (pt_val (pe_callB call_isi (by rfl) T.isinstance_ bb_isinstance (pa_cons (pv 0) (pa_cons (pe_bltn (v := .ty "tuple") (by rfl) T.tuple_ bt_tuple rfl) pa_nil))))) (pw_or1 (pt_cmpR op_ne (pe_callB (call_len_seqK (K := K) rfl) (by rfl) T.len_ bb_len (pa_cons (pv 0) pa_nil)) (pv 1) (nomark _)))).pt)
        (pss_one (ps_ret (pe_bl)))
        (pss_nil))
      (pss_one (ps_ret (pe_and (pe_callB (cr_all rfl) (by rfl) T.all_ bb_all (pa_cons (pe_lc (own := [("kind", 2)]) (g := gName 2) (tt := tYes) rfl nd (pi_tup (pv 0)) (blkOk_by (N := N_is_list) (sc := C8.fnScope st_is_list) (by decide +kernel))
        (fun _ _ _ _ _ => pg_name (i := 2) nd rfl (Or.inl rfl)) (fun _ _ _ _ _ => pts_nil)
        (fun _ _ _ _ _ => C8.pe_c c_is_between hr (by decide) (by rfl) (pa_cons (pv 2) (pa_cons (pe_int) (pa_cons (pe_op op_sub (pv 1) (pe_int)) pa_nil))))) pa_nil)) (pe_one (pe_cmpR (op_eqD hr.units) (pe_callB cr_sortedT (by rfl) T.sorted_ bb_sorted (pa_cons (pv 0) pa_nil)) (pe_listRg rfl (by rfl) T.list_ (prg_1 (by rfl) T.range_ (pv 1))) (nomark _)))))), ?_⟩
    refine ⟨.ref a, rfl, .ref a, .ty "tuple", _, _, true, rfl, .ty _, .base (.tup ha), kit_ty (by decide +kernel), true, rfl, ?_⟩
    refine ⟨.ref a, rfl, a, _, rfl, .inr (SqT.of ha), vN k, rfl, rfl, false, by simp [vN, hl], ?_⟩
    refine ⟨.ref a, rfl, a, rfl, ⟨_, SqT.of ha⟩, fun D hD => ?_⟩
    refine lc_same (walk_tup (K := K) (a := a) (xs := ns.map vN)) (fun i v _ => v = .bl true) (by rw [List.length_map]; omega) hD (fun _ _ _ _ _ e => e) (fun H' s => SqT.of (s _ _ ha)) (fun i x H1 H' kk hi s y hkk => ?_) (fun H' acc s eD el eE => ?_)
    · obtain ⟨rfl, hx⟩ := y
      obtain ⟨n, hn, rfl⟩ := get_vN hx
      have hm : n < k := List.mem_range.mp (hp.mem_iff.mp (List.mem_of_getElem? hn))
      refine ⟨rfl, ?_⟩
      refine ⟨vN n, rfl, vN k, rfl, (k : Int), 1, rfl, rfl, (n : Int), 0, (k : Int) - 1, rfl, hkk _ _ (Same.refl _) ?_⟩
      rw [decide_eq_true (show (0 : Int) ≤ (n : Int) by omega), decide_eq_true (show (n : Int) ≤ (k : Int) - 1 by omega)]
      rfl
    · have e := all_true el eE
      subst e
      refine ⟨D, _, rfl, SqL.of eD, true, by rw [all_yes], ?_⟩
      refine ⟨.ref a, rfl, a, ns.map zi, rfl, ?_, fun zs p pz po hp2 => ?_⟩
      · have : (ns.map zi).map V.int = ns.map vN := ints_map ns
        rw [this]
        exact SqT.of (s _ _ ha)
      · have ez := sorted_range hp pz po
        refine ⟨vN k, rfl, (k : Int), rfl, RgOk.of_le (by omega) (by omega) (by omega) (by omega), fun r hr2 => ?_⟩
        have e1 : rgV 0 (k : Int) = (List.range k).map vN := by
          unfold rgV
          have : ((k : Int) - 0).toNat = k := by omega
          rw [this]
          refine List.map_congr_left fun i _ => ?_
          unfold vN
          congr 1
          omega
        rw [ez, ints_map] at hr2
        rw [ez, e1, ints_map]
        have npr : p ≠ r := fun z => by
          rw [← z, upd_same] at hr2
          cases hr2
        refine ⟨dL (List.range k), dL (List.range k), dp_lst (by rw [upd_ne npr, upd_same]), dp_lst upd_same, shL _, shL _, ?_⟩
        rw [eqL, decide_eq_true rfl]
        exact q _ ((s.trans (same_new hp2)).trans (same_new hr2))

theorem txt_size (t : List Bool) : (txt t).cps.size = t.length := by simp [txt]
theorem txt_len (t : List Bool) : (txt t).length = t.length := txt_size t
theorem txt_at {t : List Bool} {i : Nat} {c : Nat} (h : (txt t).cps[i]? = some c) : ∃ b, t[i]? = some b ∧ V.str ⟨#[c]⟩ = ltr b := by
  have e : (txt t).cps[i]? = (t.map cd)[i]? := by simp [txt]
  rw [e, List.getElem?_map] at h
  cases q : t[i]? with
  | none => rw [q] at h; cases h
  | some b =>
    rw [q] at h
    have hc : cd b = c := Option.some.inj h
    exact ⟨b, rfl, by rw [← hc]; rfl⟩
theorem ltr_in (b : Bool) : inV (ltr b) [ltr true, ltr false] = true := by cases b <;> decide +kernel
theorem ltr_flat (b : Bool) : flatV (ltr b) = true := rfl
def sp_is_turns : Sp := fun vs H Q _ => ∃ t : List Bool, vs = [.str (txt t)] ∧ 1 ≤ t.length ∧ t.length ≤ 20 ∧ ∀ H', Same H H' → Q (.bl true) H'
theorem ok_is_turns (T : Blt K mg) (dF : Df K mg "is_turns" st_is_turns ["value"])  : C8.Cal P w K mg base 1 "is_turns" sp_is_turns [] := by
  have nd := sc_is_turns.nd
  refine cal_of dF sc_is_turns (fun vs H Q E h => ?_) (fun cdv A outer s H vs Q E hr h => ?_)
  · obtain ⟨t, rfl, _⟩ := h
    rfl
  · obtain ⟨t, rfl, h1, h20, q⟩ := h
    have hlen : ((txt t).length : Int) = (t.length : Int) := by rw [txt_len]
    refine ⟨_, pss_one (ps_ret (pe_and (pe_callB call_isi (by rfl) T.isinstance_ bb_isinstance (pa_cons (pv 0) (pa_cons (pe_bltn (v := .ty "str") (by rfl) T.str_ bt_str rfl) pa_nil))) (pe_and (pe_chain op_le op_le (pe_int) (pe_callB call_len_str (by rfl) T.len_ bb_len (pa_cons (pv 0) pa_nil)) (C8.pe_gc (by rfl) T.MAX_TURNS)) (pe_one (pe_callB (cr_all rfl) (by rfl) T.all_ bb_all (pa_cons (pe_lc (own := [("letter", 1)]) (g := gName 1) (tt := tYes) rfl nd (pi_str (pv 0)) (blkOk_by (N := N_is_turns) (sc := C8.fnScope st_is_turns) (by decide +kernel))
        (fun _ _ _ _ _ => pg_name (i := 1) nd rfl (Or.inl rfl)) (fun _ _ _ _ _ => pts_nil)
        (fun _ _ _ _ _ => pe_cmpR (op_in_seqK (K := K) rfl) (pv 1) (C8.pe_gc (by rfl) T.players) (by rfl))) pa_nil)))))), ?_⟩
    refine ⟨.str (txt t), rfl, .str (txt t), .ty "str", _, _, true, rfl, .ty _, .base (.str _), kit_ty (by decide +kernel), true, rfl, ?_⟩
    refine ⟨.str (txt t), rfl, txt t, rfl, line (by rw [txt_len]; omega), 1, _, rfl, rfl, true, yes (by omega), _, 20, rfl, rfl, true, yes (by omega), ?_⟩
    refine ⟨.str (txt t), rfl, txt t, rfl, fun D hD => ?_⟩
    refine lc_same (walk_str (z := txt t)) (fun i v _ => v = .bl true) (by rw [txt_size]; omega) hD (fun _ _ _ _ _ e => e) (fun H' s => trivial) (fun i x H1 H' kk hi s y hkk => ?_) (fun H' acc s eD el eE => ?_)
    · obtain ⟨rfl, c, hc, rfl⟩ := y
      obtain ⟨b, _, e⟩ := txt_at hc
      refine ⟨rfl, ?_⟩
      refine ⟨_, rfl, T.pa, _, rfl, .inr (T.sq _), ?_, rfl, hkk _ _ (Same.refl _) ?_⟩
      · rw [e]; exact ltr_flat b
      · rw [e]
        show V.bl (inV (ltr b) [ltr true, ltr false]) = V.bl true
        rw [ltr_in b]
    · have e := all_true el eE
      subst e
      exact ⟨D, _, rfl, SqL.of eD, by rw [all_yes]; exact q _ s⟩
def sp_is_block : Sp := fun vs H Q _ => ∃ (v : V) (b : Blk), vs = [v] ∧ BlkR H v b ∧ WB b ∧ ∀ H', Same H H' → Q (.bl true) H'
theorem ok_is_block (T : Blt K mg) (dF : Df K mg "is_block" st_is_block ["value"]) (c_is_turns : C8.Cal P w K mg base 1 "is_turns" sp_is_turns []) (c_is_at_least : C8.Cal P w K mg base 2 "is_at_least" sp_is_at_least []) : C8.Cal P w K mg base 3 "is_block" sp_is_block [] := by
  have nd := sc_is_block.nd
  refine cal_of dF sc_is_block (fun vs H Q E h => ?_) (fun cdv A outer s H vs Q E hr h => ?_)
  · obtain ⟨v, b, rfl, _⟩ := h
    rfl
  · obtain ⟨v, b, rfl, ⟨a, rfl, ha⟩, ⟨h1, h2, h3⟩, q⟩ := h
    refine ⟨_, pss_one (ps_ret (pe_and (pe_callB call_isi (by rfl) T.isinstance_ bb_isinstance (pa_cons (pv 0) (pa_cons (pe_bltn (v := .ty "tuple") (by rfl) T.tuple_ bt_tuple rfl) pa_nil))) (pe_and (pe_cmpR op_eq (pe_callB (call_len_seqK (K := K) rfl) (by rfl) T.len_ bb_len (pa_cons (pv 0) pa_nil)) (pe_int) (nomark _)) (pe_and (C8.pe_c c_is_turns hr (by decide) (by rfl) (pa_cons (pe_ix ix_tup (pv 0) (pe_int) (fun _ _ => rfl)) pa_nil)) (pe_one (C8.pe_c c_is_at_least hr (by decide) (by rfl) (pa_cons (pe_ix ix_tup (pv 0) (pe_int) (fun _ _ => rfl)) (pa_cons (pe_int) pa_nil)))))))), ?_⟩
    refine ⟨.ref a, rfl, .ref a, .ty "tuple", _, _, true, rfl, .ty _, .base (.tup ha), kit_ty (by decide +kernel), true, rfl, ?_⟩
    refine ⟨.ref a, rfl, a, _, rfl, .inr (SqT.of ha), rfl, true, yes rfl, ?_⟩
    refine ⟨.ref a, rfl, a, _, 0, _, rfl, rfl, SqT.of ha, atI_nat (j := 0) rfl, b.1, rfl, h1, h2, fun H1 s => ⟨true, rfl, ?_⟩⟩
    refine ⟨.ref a, rfl, a, _, 1, _, rfl, rfl, SqT.of (s _ _ ha), atI_nat (j := 1) rfl, (b.2 : Int), 1, rfl, ?_⟩
    rw [decide_eq_true (by omega)]
    exact q _ s
def sp_is_row : Sp := fun vs H Q _ => ∃ (v : V) (r : Row) (k : Nat), vs = [v, vN k] ∧ RowR H v r ∧ WR k r ∧ ∀ H', Same H H' → Q (.bl true) H'
theorem ok_is_row (T : Blt K mg) (dF : Df K mg "is_row" st_is_row ["value", "many"]) (c_is_turns : C8.Cal P w K mg base 1 "is_turns" sp_is_turns []) (c_is_at_least : C8.Cal P w K mg base 2 "is_at_least" sp_is_at_least []) (c_is_between : C8.Cal P w K mg base 2 "is_between" sp_is_between []) : C8.Cal P w K mg base 3 "is_row" sp_is_row [] := by
  have nd := sc_is_row.nd
  refine cal_of dF sc_is_row (fun vs H Q E h => ?_) (fun cdv A outer s H vs Q E hr h => ?_)
  · obtain ⟨v, r, k, rfl, _⟩ := h
    rfl
  · obtain ⟨v, r, k, rfl, ⟨a, b, rfl, ha, hb⟩, ⟨h1, h2, h3, h4, h5⟩, q⟩ := h
    refine ⟨_, pss_cons (ps_if ((pw_or (pt_not (pt_val (pe_callB call_isi (by rfl) T.isinstance_ bb_isinstance (pa_cons (pv 0) (pa_cons (pe_bltn (v := .ty "tuple") (by rfl) T.tuple_ bt_tuple rfl) pa_nil))))) (pw_or (pt_cmpR op_ne (pe_callB (call_len_seqK (K := K) rfl) (by rfl) T.len_ bb_len (pa_cons (pv 0) pa_nil)) (pe_int) (nomark _)) (pw_or (pt_not (pt_val (C8.pe_c c_is_turns hr (by decide) (by rfl) (pa_cons (pe_ix ix_tup (pv 0) (pe_int) (fun _ _ => rfl)) pa_nil)))) (pw_or1 (pt_not (pt_val (C8.pe_c c_is_at_least hr (by decide) (by rfl) (pa_cons (pe_ix ix_tup (pv 0) (pe_int) (fun _ _ => rfl)) (pa_cons (pe_int) pa_nil))))))))).pt)
        (pss_one (ps_ret (pe_bl)))
        (pss_nil))
      (pss_cons (ps_if ((pw_or (pt_not (pt_val (pe_callB call_isi (by rfl) T.isinstance_ bb_isinstance (pa_cons (pe_ix ix_tup (pv 0) (pe_int) (fun _ _ => rfl)) (pa_cons (pe_bltn (v := .ty "tuple") (by rfl) T.tuple_ bt_tuple rfl) pa_nil))))) (pw_or1 (pt_cmpR op_ne (pe_callB (call_len_seqK (K := K) rfl) (by rfl) T.len_ bb_len (pa_cons (pe_ix ix_tup (pv 0) (pe_int) (fun _ _ => rfl)) pa_nil)) (pe_callB call_len_str (by rfl) T.len_ bb_len (pa_cons (pe_ix ix_tup (pv 0) (pe_int) (fun _ _ => rfl)) pa_nil)) (nomark _)))).pt)
        (pss_one (ps_ret (pe_bl)))
        (pss_nil))
      (pss_one (ps_ret (pe_callB (cr_all rfl) (by rfl) T.all_ bb_all (pa_cons (pe_lc (own := [("kind", 2)]) (g := gName 2) (tt := tYes) rfl nd (pi_tup (pe_ix ix_tup (pv 0) (pe_int) (fun _ _ => rfl))) (blkOk_by (N := N_is_row) (sc := C8.fnScope st_is_row) (by decide +kernel))
        (fun _ _ _ _ _ => pg_name (i := 2) nd rfl (Or.inl rfl)) (fun _ _ _ _ _ => pts_nil)
        (fun _ _ _ _ _ => C8.pe_c c_is_between hr (by decide) (by rfl) (pa_cons (pv 2) (pa_cons (pe_int) (pa_cons (pe_op op_sub (pv 1) (pe_int)) pa_nil))))) pa_nil))))), ?_⟩
    refine ⟨.ref a, rfl, .ref a, .ty "tuple", _, _, true, rfl, .ty _, .base (.tup ha), kit_ty (by decide +kernel), true, rfl, ?_⟩
    refine ⟨.ref a, rfl, a, _, rfl, .inr (SqT.of ha), rfl, false, nyes rfl, ?_⟩
    refine ⟨.ref a, rfl, a, _, 0, _, rfl, rfl, SqT.of ha, atI_nat (j := 0) rfl, r.1, rfl, h1, h2, fun H1 s => ⟨true, rfl, ?_⟩⟩
    have ha1 := s _ _ ha
    have hb1 := s.tp.rd hb
    refine ⟨.ref a, rfl, a, _, 2, _, rfl, rfl, SqT.of ha1, atI_nat (j := 2) rfl, (r.2.2 : Int), 1, rfl, true, yes (by omega), ?_⟩
    refine ⟨.ref a, rfl, a, _, 1, _, rfl, rfl, SqT.of ha1, atI_nat (j := 1) rfl, .ref b, .ty "tuple", _, _, true, rfl, .ty _, rdTy hb1, kit_ty (by decide +kernel), true, rfl, ?_⟩
    refine ⟨.ref a, rfl, a, _, 1, _, rfl, rfl, SqT.of ha1, atI_nat (j := 1) rfl, b, _, rfl, .inr (rdT hb1), .ref a, rfl, a, _, 0, _, rfl, rfl, SqT.of ha1, atI_nat (j := 0) rfl, txt r.1, rfl, line (by rw [txt_len]; omega), rfl, false, nyes (by rw [txt_len, List.length_map, h3]), ?_⟩
    refine ⟨.ref a, rfl, a, _, 1, _, rfl, rfl, SqT.of ha1, atI_nat (j := 1) rfl, b, rfl, ⟨_, rdT hb1⟩, fun D hD => ?_⟩
    refine lc_same (walk_tup (K := K) (a := b) (xs := r.2.1.map vN)) (fun i v _ => v = .bl true) (by rw [List.length_map]; omega) hD (fun _ _ _ _ _ e => e) (fun H' s => rdT (s.tp.rd hb1)) (fun i x H2 H' kk hi s2 y hkk => ?_) (fun H' acc s2 eD el eE => ?_)
    · obtain ⟨rfl, hx⟩ := y
      obtain ⟨n, hn, rfl⟩ := get_vN hx
      have hm : n < k := h4 n (List.mem_of_getElem? hn)
      refine ⟨rfl, ?_⟩
      refine ⟨vN n, rfl, vN k, rfl, (k : Int), 1, rfl, rfl, (n : Int), 0, (k : Int) - 1, rfl, hkk _ _ (Same.refl _) ?_⟩
      rw [decide_eq_true (show (0 : Int) ≤ (n : Int) by omega), decide_eq_true (show (n : Int) ≤ (k : Int) - 1 by omega)]
      rfl
    · have e := all_true el eE
      subst e
      exact ⟨D, _, rfl, SqL.of eD, by rw [all_yes]; exact q _ (s.trans s2)⟩
def sp_require_counts : Sp := fun vs H Q _ => ∃ (v : V) (cs : List Nat), vs = [v] ∧ TupN H v cs ∧ cs.length ≤ 60 ∧ ∀ H', Same H H' → Q .non H'
theorem ok_require_counts (T : Blt K mg) (dF : Df K mg "require_counts" st_require_counts ["counts"]) (c_is_bundle : C8.Cal P w K mg base 3 "is_bundle" sp_is_bundle []) : C8.Cal P w K mg base 4 "require_counts" sp_require_counts [] := by
  have nd := sc_require_counts.nd
  refine cal_of dF sc_require_counts (fun vs H Q E h => ?_) (fun cdv A outer s H vs Q E hr h => ?_)
  · obtain ⟨v, cs, rfl, _⟩ := h
    rfl
  · obtain ⟨v, cs, rfl, ⟨a, rfl, ha⟩, hl, q⟩ := h
    refine ⟨_, pss_one (ps_if ((pw_or (pt_not (pt_val (pe_callB call_isi (by rfl) T.isinstance_ bb_isinstance (pa_cons (pv 0) (pa_cons (pe_bltn (v := .ty "tuple") (by rfl) T.tuple_ bt_tuple rfl) pa_nil))))) (pw_or (pt_cmpR op_gt (pe_callB (call_len_seqK (K := K) rfl) (by rfl) T.len_ bb_len (pa_cons (pv 0) pa_nil)) (C8.pe_gc (by rfl) T.MAX_KINDS) (nomark _)) (pw_or1 (pt_not (pt_val (C8.pe_c c_is_bundle hr (by decide) (by rfl) (pa_cons (pv 0) (pa_cons (pe_callB (call_len_seqK (K := K) rfl) (by rfl) T.len_ bb_len (pa_cons (pv 0) pa_nil)) pa_nil)))))))).pt)
        (pss_never)
        (pss_nil)), ?_⟩
    refine ⟨.ref a, rfl, .ref a, .ty "tuple", _, _, true, rfl, .ty _, .base (.tup ha), kit_ty (by decide +kernel), true, rfl, ?_⟩
    refine ⟨.ref a, rfl, a, _, rfl, .inr (SqT.of ha), _, 60, rfl, rfl, false, no (by rw [List.length_map]; omega), ?_⟩
    refine ⟨.ref a, rfl, .ref a, rfl, a, _, rfl, .inr (SqT.of ha), .ref a, cs, by rw [List.length_map]; rfl, ⟨a, rfl, ha⟩, by omega, fun H' s => ⟨true, rfl, q _ s⟩⟩
def sp_require_lists : Sp := fun vs H Q _ => ∃ (v : V) (L : Bool → List Nat) (k : Nat), vs = [v, vN k] ∧ LsR H v L ∧ WL k L ∧ k ≤ 60 ∧ ∀ H', Same H H' → Q .non H'
theorem ok_require_lists (T : Blt K mg) (dF : Df K mg "require_lists" st_require_lists ["lists", "many"]) (c_is_list : C8.Cal P w K mg base 3 "is_list" sp_is_list []) : C8.Cal P w K mg base 4 "require_lists" sp_require_lists [] := by
  have nd := sc_require_lists.nd
  refine cal_of dF sc_require_lists (fun vs H Q E h => ?_) (fun cdv A outer s H vs Q E hr h => ?_)
  · obtain ⟨v, L, k, rfl, _⟩ := h
    rfl
  · obtain ⟨v, L, k, rfl, ⟨a, x, y, rfl, ha, hx, hy⟩, hL, hk, q⟩ := h
    refine ⟨_, pss_cons (ps_if ((pw_or (pt_not (pt_val (pe_callB call_isi (by rfl) T.isinstance_ bb_isinstance (pa_cons (pv 0) (pa_cons (pe_bltn (v := .ty "tuple") (by rfl) T.tuple_ bt_tuple rfl) pa_nil))))) (pw_or1 (pt_cmpR op_ne (pe_callB (call_len_seqK (K := K) rfl) (by rfl) T.len_ bb_len (pa_cons (pv 0) pa_nil)) (pe_int) (nomark _)))).pt)
        (pss_never)
        (pss_nil))
      (pss_one (ps_for PassesOwn.never rfl (pi_en (by rfl) T.enumerate_ (pa_cons (pv 0) pa_nil)) (pg_tup rfl (pgs_cons (pg_name (i := 2) nd rfl (Or.inl rfl)) (pgs_cons (pg_name (i := 3) nd rfl (Or.inl rfl)) pgs_nil)))
        (pss_one (ps_if (pt_not (pt_val (C8.pe_c c_is_list hr (by decide) (by rfl) (pa_cons (pv 3) (pa_cons (pv 1) pa_nil)))))
          (pss_never)
          (pss_nil))))), ?_⟩
    refine ⟨.ref a, rfl, .ref a, .ty "tuple", _, _, true, rfl, .ty _, .base (.tup ha), kit_ty (by decide +kernel), true, rfl, ?_⟩
    refine ⟨.ref a, rfl, a, _, rfl, .inr (SqT.of ha), rfl, false, nyes rfl, ?_⟩
    refine ⟨.ref a, rfl, _, _, _, _, rfl, .tup a [x, y], SqT.of ha, ?_⟩
    refine for_it walk_en (fun i σ H' => Same H H' ∧ ∃ z2 z3, σ = [some (.ref a), some (vN k), z2, z3]) ⟨Same.refl _, _, _, rfl⟩ (fun i σ H' _ p => SqT.of (p.1 _ _ ha)) (fun i v σ H1 H' hi p y => ?_) (fun σ H' p => ?_)
    · obtain ⟨s, z2, z3, rfl⟩ := p
      obtain ⟨T', rfl, nT, rfl⟩ := y
      have s1 := s.trans (same_new (o := .tup [.int (i : Nat), [x, y].getD i .non]) nT)
      obtain ⟨p, hp⟩ : ∃ p, TupN H ([x, y].getD i .non) (L p) := by
        have : i = 0 ∨ i = 1 := by
          have : i < 2 := hi
          omega
        rcases this with rfl | rfl
        · exact ⟨true, hx⟩
        · exact ⟨false, hy⟩
      refine ⟨T', _, rfl, SqT.of upd_same, rfl, _, _, rfl, _, _, rfl, rfl, ?_⟩
      refine ⟨_, rfl, vN k, rfl, _, L p, k, rfl, hp.mono s1, hL p, by omega, fun H2 s2 => ⟨true, rfl, ?_⟩⟩
      exact ⟨s1.trans s2, _, _, rfl⟩
    · exact q _ p.1
def sp_require_sequence : Sp := fun vs H Q _ => ∃ (v : V) (bs : List Blk), vs = [v] ∧ SeqR H v bs ∧ WS bs ∧ ∀ H', Same H H' → Q .non H'
theorem ok_require_sequence (T : Blt K mg) (dF : Df K mg "require_sequence" st_require_sequence ["sequence"]) (c_is_block : C8.Cal P w K mg base 3 "is_block" sp_is_block []) : C8.Cal P w K mg base 4 "require_sequence" sp_require_sequence [] := by
  have nd := sc_require_sequence.nd
  refine cal_of dF sc_require_sequence (fun vs H Q E h => ?_) (fun cdv A outer s H vs Q E hr h => ?_)
  · obtain ⟨v, bs, rfl, _⟩ := h
    rfl
  · obtain ⟨v, bs, rfl, ⟨a, xs, rfl, ha, hb⟩, ⟨hl, hw⟩, q⟩ := h
    refine ⟨_, pss_cons (ps_if ((pw_or (pt_not (pt_val (pe_callB call_isiT (by rfl) T.isinstance_ bb_isinstance (pa_cons (pv 0) (pa_cons (pe_tup (pa_cons (pe_bltn (v := .ty "list") (by rfl) T.list_ bt_list rfl) (pa_cons (pe_bltn (v := .ty "tuple") (by rfl) T.tuple_ bt_tuple rfl) pa_nil))) pa_nil))))) (pw_or1 (pt_cmpR op_gt (pe_callB (call_len_seqK (K := K) rfl) (by rfl) T.len_ bb_len (pa_cons (pv 0) pa_nil)) (C8.pe_gc (by rfl) T.MAX_BLOCKS) (nomark _)))).pt)
        (pss_never)
        (pss_nil))
      (pss_one (ps_for PassesOwn.never rfl (pi_en (by rfl) T.enumerate_ (pa_cons (pv 0) pa_nil)) (pg_tup rfl (pgs_cons (pg_name (i := 1) nd rfl (Or.inl rfl)) (pgs_cons (pg_name (i := 2) nd rfl (Or.inl rfl)) pgs_nil)))
        (pss_one (ps_if (pt_not (pt_val (C8.pe_c c_is_block hr (by decide) (by rfl) (pa_cons (pv 2) pa_nil))))
          (pss_never)
          (pss_nil))))), ?_⟩
    refine ⟨.ref a, rfl, (show 2 ≤ sizeLine from line (by decide)), fun t ht => ?_⟩
    have s0 : Same H (upd H t (.tup [.ty "list", .ty "tuple"])) := same_new ht
    have ha1 := s0 _ _ ha
    refine ⟨.ref a, t, _, .type "list", [.type "list", .type "tuple"], true, rfl, upd_same, .cons (.ty _) (.cons (.ty _) .nil), .base (.lst ha1), ?_, true, rfl, ?_⟩
    · exact kitAny_cons (b := true) (kit_ty (by decide +kernel)) (fun e => by cases e) (fun _ => rfl)
    refine ⟨.ref a, rfl, a, _, rfl, .inl (SqL.of ha1), _, 200, rfl, rfl, false, no (by rw [hb.1]; omega), ?_⟩
    refine ⟨.ref a, rfl, _, _, _, _, rfl, .lst a xs, SqL.of ha1, ?_⟩
    refine for_it walk_en (fun i σ H' => Same H H' ∧ ∃ z2 z3, σ = [some (.ref a), z2, z3]) ⟨s0, _, _, rfl⟩ (fun i σ H' _ p => SqL.of (p.1 _ _ ha)) (fun i v σ H1 H' hi p y => ?_) (fun σ H' p => ?_)
    · obtain ⟨s, z2, z3, rfl⟩ := p
      obtain ⟨T', rfl, nT, rfl⟩ := y
      have s1 := s.trans (same_new (o := .tup [.int (i : Nat), xs.getD i .non]) nT)
      have ex : xs[i]? = some (xs.getD i .non) := by rw [List.getD_eq_getElem?_getD, List.getElem?_eq_getElem hi]; rfl
      obtain ⟨b, eb, rb⟩ := hb.getV ex
      refine ⟨T', _, rfl, SqT.of upd_same, rfl, _, _, rfl, _, _, rfl, rfl, ?_⟩
      refine ⟨_, rfl, _, b, rfl, rb.mono s1, hw b (List.mem_of_getElem? eb), fun H2 s2 => ⟨true, rfl, ?_⟩⟩
      exact ⟨s1.trans s2, _, _, rfl⟩
    · exact q _ p.1
def sp_require_course : Sp := fun vs H Q _ => ∃ (v : V) (rs : List Row) (k : Nat), vs = [v, vN k] ∧ CrsR H v rs ∧ WC k rs ∧ ∀ H', Same H H' → Q .non H'
theorem ok_require_course (T : Blt K mg) (dF : Df K mg "require_course" st_require_course ["course", "many"]) (c_is_row : C8.Cal P w K mg base 3 "is_row" sp_is_row []) : C8.Cal P w K mg base 4 "require_course" sp_require_course [] := by
  have nd := sc_require_course.nd
  refine cal_of dF sc_require_course (fun vs H Q E h => ?_) (fun cdv A outer s H vs Q E hr h => ?_)
  · obtain ⟨v, rs, k, rfl, _⟩ := h
    rfl
  · obtain ⟨v, rs, k, rfl, ⟨a, xs, rfl, ha, hb⟩, ⟨hl, hw⟩, q⟩ := h
    refine ⟨_, pss_cons (ps_if ((pw_or (pt_not (pt_val (pe_callB call_isi (by rfl) T.isinstance_ bb_isinstance (pa_cons (pv 0) (pa_cons (pe_bltn (v := .ty "list") (by rfl) T.list_ bt_list rfl) pa_nil))))) (pw_or1 (pt_cmpR op_gt (pe_callB (call_len_seqK (K := K) rfl) (by rfl) T.len_ bb_len (pa_cons (pv 0) pa_nil)) (C8.pe_gc (by rfl) T.MAX_ROWS) (nomark _)))).pt)
        (pss_never)
        (pss_nil))
      (pss_one (ps_for PassesOwn.never rfl (pi_en (by rfl) T.enumerate_ (pa_cons (pv 0) pa_nil)) (pg_tup rfl (pgs_cons (pg_name (i := 2) nd rfl (Or.inl rfl)) (pgs_cons (pg_name (i := 3) nd rfl (Or.inl rfl)) pgs_nil)))
        (pss_one (ps_if (pt_not (pt_val (C8.pe_c c_is_row hr (by decide) (by rfl) (pa_cons (pv 3) (pa_cons (pv 1) pa_nil)))))
          (pss_never)
          (pss_nil))))), ?_⟩
    refine ⟨.ref a, rfl, .ref a, .ty "list", _, _, true, rfl, .ty _, .base (.lst ha), kit_ty (by decide +kernel), true, rfl, ?_⟩
    refine ⟨.ref a, rfl, a, _, rfl, .inl (SqL.of ha), _, 1000, rfl, rfl, false, no (by rw [hb.1]; omega), ?_⟩
    refine ⟨.ref a, rfl, _, _, _, _, rfl, .lst a xs, SqL.of ha, ?_⟩
    refine for_it walk_en (fun i σ H' => Same H H' ∧ ∃ z2 z3, σ = [some (.ref a), some (vN k), z2, z3]) ⟨Same.refl _, _, _, rfl⟩ (fun i σ H' _ p => SqL.of (p.1 _ _ ha)) (fun i v σ H1 H' hi p y => ?_) (fun σ H' p => ?_)
    · obtain ⟨s, z2, z3, rfl⟩ := p
      obtain ⟨T', rfl, nT, rfl⟩ := y
      have s1 := s.trans (same_new (o := .tup [.int (i : Nat), xs.getD i .non]) nT)
      have ex : xs[i]? = some (xs.getD i .non) := by rw [List.getD_eq_getElem?_getD, List.getElem?_eq_getElem hi]; rfl
      obtain ⟨r, er, rr⟩ := hb.getV ex
      refine ⟨T', _, rfl, SqT.of upd_same, rfl, _, _, rfl, _, _, rfl, rfl, ?_⟩
      refine ⟨_, rfl, vN k, rfl, _, r, k, rfl, rr.mono s1, hw r (List.mem_of_getElem? er), fun H2 s2 => ⟨true, rfl, ?_⟩⟩
      exact ⟨s1.trans s2, _, _, rfl⟩
    · exact q _ p.1
end
end TG
namespace TG
open PySem PySem.Spec PyProof.Rows L2 TGZ
abbrev st_picks_of : Stmt := topS 27
abbrev N_picks_of : List Str := ["sequence", "turns", "times"]
theorem sc_picks_of : FnScope N_picks_of ["sequence"] (C8.fnScope st_picks_of) := C8.fnScope_by (by decide +kernel)
abbrev st_require_fits : Stmt := topS 28
abbrev N_require_fits : List Str := ["counts", "sequence"]
theorem sc_require_fits : FnScope N_require_fits ["counts", "sequence"] (C8.fnScope st_require_fits) := C8.fnScope_by (by decide +kernel)
abbrev st_own_list : Stmt := topS 29
abbrev N_own_list : List Str := ["lists", "player"]
theorem sc_own_list : FnScope N_own_list ["lists", "player"] (C8.fnScope st_own_list) := C8.fnScope_by (by decide +kernel)
abbrev st_require_game : Stmt := topS 41
abbrev N_require_game : List Str := ["counts", "lists", "sequence"]
theorem sc_require_game : FnScope N_require_game ["counts", "lists", "sequence"] (C8.fnScope st_require_game) := C8.fnScope_by (by decide +kernel)
abbrev st_require_whole : Stmt := topS 45
abbrev N_require_whole : List Str := ["counts", "lists", "sequence"]
theorem sc_require_whole : FnScope N_require_whole ["counts", "lists", "sequence"] (C8.fnScope st_require_whole) := C8.fnScope_by (by decide +kernel)
abbrev st_reversed_sequence : Stmt := topS 31
abbrev N_reversed_sequence : List Str := ["sequence", "turns", "times"]
theorem sc_reversed_sequence : FnScope N_reversed_sequence ["sequence"] (C8.fnScope st_reversed_sequence) := C8.fnScope_by (by decide +kernel)
abbrev st_turned_lists : Stmt := topS 46
abbrev N_turned_lists : List Str := ["lists"]
theorem sc_turned_lists : FnScope N_turned_lists ["lists"] (C8.fnScope st_turned_lists) := C8.fnScope_by (by decide +kernel)
theorem wl_has {K : Nat} {L : Bool → List Nat} (h : WL K L) : Has K L := fun p k => by rw [(h p).mem_iff, List.mem_range]
theorem wl_tl {K : Nat} {L : Bool → List Nat} (h : WL K L) : WL K (tl L) := fun p => ((List.reverse_perm _).trans (h !p))
theorem revS_txt (t : List Bool) : revS (txt t) = txt t.reverse := by simp [revS, txt]
theorem revB_at {bs : List Blk} {i : Nat} {b : Blk} (hi : i < bs.length) (h : bs[bs.length - 1 - i]? = some b) : (revB bs)[i]? = some (b.1.reverse, b.2) := by
  unfold revB
  rw [List.getElem?_map, List.getElem?_reverse hi, h]
  rfl
theorem revB_len (bs : List Blk) : (revB bs).length = bs.length := by simp [revB]
theorem WS.rev {bs : List Blk} (h : WS bs) : WS (revB bs) := by
  refine ⟨by rw [revB_len]; exact h.1, fun b hb => ?_⟩
  unfold revB at hb
  obtain ⟨c, hc, rfl⟩ := List.mem_map.mp hb
  obtain ⟨h1, h2, h3⟩ := h.2 c (List.mem_reverse.mp hc)
  exact ⟨by simpa using h1, by simpa using h2, h3⟩
theorem WS2.rev {bs : List Blk} (h : WS2 bs) : WS2 (revB bs) := by
  refine ⟨by rw [revB_len]; exact h.1, fun b hb => ?_⟩
  unfold revB at hb
  obtain ⟨c, hc, rfl⟩ := List.mem_map.mp hb
  obtain ⟨h1, h2, h3⟩ := h.2 c (List.mem_reverse.mp hc)
  exact ⟨by simpa using h1, by simpa using h2, h3⟩
section
variable {P : Program} {w : World} {K : PySem.W.Frag} {mg : Str → Option Value} {base : Heap}
def sp_picks_of : Sp := fun vs H Q _ => ∃ (v : V) (bs : List Blk), vs = [v] ∧ SeqR H v bs ∧ WS bs ∧ ∀ H', Same H H' → Q (vN (lenB bs)) H'
theorem ok_picks_of (T : Blt K mg) (dF : Df K mg "picks_of" st_picks_of ["sequence"])  : C8.Cal P w K mg base 1 "picks_of" sp_picks_of [] := by
  have nd := sc_picks_of.nd
  refine cal_of dF sc_picks_of (fun vs H Q E h => ?_) (fun cdv A outer s H vs Q E hr h => ?_)
  · obtain ⟨v, bs, rfl, _⟩ := h
    rfl
  · obtain ⟨v, bs, rfl, ⟨a, xs, rfl, ha, hb⟩, ⟨hl, hw⟩, q⟩ := h
    refine ⟨_, pss_one (ps_ret (pe_callB (cr_sum rfl) (by rfl) T.sum_ bb_sum (pa_cons (pe_lc (own := [("turns", 1), ("times", 2)]) (g := gTup K 2 (gCons (gName 1) (gCons (gName 2) gNil))) (tt := tYes) rfl nd (pi_list (pv 0)) (blkOk_by (N := N_picks_of) (sc := C8.fnScope st_picks_of) (by decide +kernel))
        (fun _ _ _ _ _ => pg_tup rfl (pgs_cons (pg_name (i := 1) nd rfl (Or.inl rfl)) (pgs_cons (pg_name (i := 2) nd rfl (Or.inl rfl)) pgs_nil))) (fun _ _ _ _ _ => pts_nil)
        (fun _ _ _ _ _ => pe_op op_mul (pe_callB call_len_str (by rfl) T.len_ bb_len (pa_cons (pv 1) pa_nil)) (pv 2))) pa_nil))), ?_⟩
    refine ⟨.ref a, rfl, a, rfl, ⟨_, SqL.of ha⟩, fun D hD => ?_⟩
    refine lc_same (walk_list (K := K) (a := a) (xs := xs)) (fun i v _ => ∃ b, bs[i]? = some b ∧ v = vN (b.1.length * b.2)) (by rw [hb.1]; omega) hD (fun _ _ _ _ _ e => e) (fun H' s => SqL.of (s _ _ ha)) (fun i x H1 H' kk hi s y hkk => ?_) (fun H' acc s eD el eE => ?_)
    · obtain ⟨rfl, hx⟩ := y
      obtain ⟨b, eb, rb⟩ := hb.getV hx
      obtain ⟨c, rfl, hc⟩ := rb.mono s
      obtain ⟨h1, h2, h3⟩ := hw b (List.mem_of_getElem? eb)
      refine ⟨c, _, rfl, SqT.of hc, rfl, _, _, rfl, _, _, rfl, rfl, rfl, ?_⟩
      refine ⟨_, rfl, txt b.1, rfl, line (by rw [txt_len]; omega), _, rfl, _, (b.2 : Int), rfl, rfl, .inl ⟨by omega, by rw [txt_len]; omega⟩, hkk _ _ (Same.refl _) ⟨b, eb, ?_⟩⟩
      unfold vN
      rw [txt_len, Int.natCast_mul]
    · have e : acc = (bs.map fun b => b.1.length * b.2).map vN := by
        refine List.ext_getElem? fun i => ?_
        by_cases hi : i < acc.length
        · obtain ⟨b, eb, ev⟩ := eE i _ (List.getElem?_eq_getElem hi)
          rw [List.getElem?_eq_getElem hi, ev, List.getElem?_map, List.getElem?_map, eb]
          rfl
        · rw [List.getElem?_eq_none (by omega), List.getElem?_eq_none (by simp [← hb.1]; omega)]
      refine ⟨D, (bs.map fun b => b.1.length * b.2).map zi, rfl, ?_, ?_⟩
      · rw [ints_map, ← e]
        exact SqL.of eD
      · rw [sum_int]
        exact q _ s
def sp_require_fits : Sp := fun vs H Q _ => ∃ (u v : V) (cs : List Nat) (bs : List Blk), vs = [u, v] ∧ TupN H u cs ∧ SeqR H v bs ∧ WS bs ∧ lenB bs ≤ cs.sum ∧ ∀ H', Same H H' → Q .non H'
theorem ok_require_fits (T : Blt K mg) (dF : Df K mg "require_fits" st_require_fits ["counts", "sequence"]) (c_picks_of : C8.Cal P w K mg base 1 "picks_of" sp_picks_of []) : C8.Cal P w K mg base 2 "require_fits" sp_require_fits [] := by
  have nd := sc_require_fits.nd
  refine cal_of dF sc_require_fits (fun vs H Q E h => ?_) (fun cdv A outer s H vs Q E hr h => ?_)
  · obtain ⟨u, v, cs, bs, rfl, _⟩ := h
    rfl
  · obtain ⟨u, v, cs, bs, rfl, hu, hv, hw, hle, q⟩ := h
    refine ⟨_, pss_one (ps_if (pt_cmpR op_gt (C8.pe_c c_picks_of hr (by decide) (by rfl) (pa_cons (pv 1) pa_nil)) (pe_callB (cr_sumT rfl) (by rfl) T.sum_ bb_sum (pa_cons (pv 0) pa_nil)) (nomark _))
        (pss_never)
        (pss_nil)), ?_⟩
    refine ⟨v, rfl, v, bs, rfl, hv, hw, fun H1 s1 => ?_⟩
    obtain ⟨a, rfl, ha⟩ := hu
    refine ⟨.ref a, rfl, a, cs.map zi, rfl, ?_, _, _, rfl, rfl, false, no ?_, q _ s1⟩
    · rw [ints_map]
      exact SqT.of (s1 _ _ ha)
    · rw [sum_int]
      omega
def sp_own_list : Sp := fun vs H Q _ => ∃ (v : V) (L : Bool → List Nat) (p : Bool), vs = [v, ltr p] ∧ LsR H v L ∧ ∀ v', TupN H v' (L p) → Q v' H
theorem pl_map : [ltr true, ltr false] = [txt [true], txt [false]].map V.str := rfl
theorem txt_ne : txt [true] ≠ txt [false] := by decide +kernel
def pix (p : Bool) : Nat := if p then 0 else 1
theorem pl_at (p : Bool) : [txt [true], txt [false]][pix p]? = some (txt [p]) ∧ ∀ m, m < pix p → [txt [true], txt [false]][m]? ≠ some (txt [p]) := by
  cases p
  · refine ⟨rfl, fun m hm => ?_⟩
    have : m = 0 := by
      have : m < 1 := hm
      omega
    subst this
    intro e
    exact txt_ne (Option.some.inj e)
  · exact ⟨rfl, fun m hm => absurd hm (Nat.not_lt_zero _)⟩
theorem ok_own_list (T : Blt K mg) (dF : Df K mg "own_list" st_own_list ["lists", "player"])  : C8.Cal P w K mg base 1 "own_list" sp_own_list [] := by
  have nd := sc_own_list.nd
  refine cal_of dF sc_own_list (fun vs H Q E h => ?_) (fun cdv A outer s H vs Q E hr h => ?_)
  · obtain ⟨v, L, p, rfl, _⟩ := h
    rfl
  · obtain ⟨v, L, p, rfl, ⟨a, x, y, rfl, ha, hx, hy⟩, q⟩ := h
    refine ⟨_, pss_one (ps_ret (pe_ix ix_tup (pv 0) (pe_bm PySem.F.plainAttrs_tuple PySem.F.slot_tuple_index PySem.F.type_tuple_index mt_tup_index (C8.pe_gc (by rfl) T.players) (pa_cons (pv 1) pa_nil)) (fun _ _ => rfl))), ?_⟩
    obtain ⟨p1, p2⟩ := pl_at p
    refine ⟨.ref a, rfl, T.ty _, ltr p, rfl, T.pa, [txt [true], txt [false]], txt [p], pix p, rfl, rfl, T.sq _, p1, p2, ?_⟩
    have hat : ∃ z, [x, y][pix p]? = some z ∧ TupN H z (L p) := by
      cases p
      · exact ⟨y, rfl, hy⟩
      · exact ⟨x, rfl, hx⟩
    obtain ⟨z, hz, rz⟩ := hat
    exact ⟨a, _, _, z, rfl, rfl, SqT.of ha, atI_nat hz, q z rz⟩
def sp_require_game : Sp := fun vs H Q _ => ∃ (u l v : V) (cs : List Nat) (L : Bool → List Nat) (bs : List Blk), vs = [u, l, v] ∧ TupN H u cs ∧ LsR H l L ∧ SeqR H v bs ∧ cs.length ≤ 60 ∧ WL cs.length L ∧ WS bs ∧ ∀ H', Same H H' → Q .non H'
theorem ok_require_game (T : Blt K mg) (dF : Df K mg "require_game" st_require_game ["counts", "lists", "sequence"]) (c_require_counts : C8.Cal P w K mg base 4 "require_counts" sp_require_counts []) (c_require_lists : C8.Cal P w K mg base 4 "require_lists" sp_require_lists []) (c_require_sequence : C8.Cal P w K mg base 4 "require_sequence" sp_require_sequence []) : C8.Cal P w K mg base 5 "require_game" sp_require_game [] := by
  have nd := sc_require_game.nd
  refine cal_of dF sc_require_game (fun vs H Q E h => ?_) (fun cdv A outer s H vs Q E hr h => ?_)
  · obtain ⟨u, l, v, cs, L, bs, rfl, _⟩ := h
    rfl
  · obtain ⟨u, l, v, cs, L, bs, rfl, hu, hl, hv, h60, hL, hw, q⟩ := h
    refine ⟨_, pss_cons (ps_expr (C8.pe_c c_require_counts hr (by decide) (by rfl) (pa_cons (pv 0) pa_nil)))
      (pss_cons (ps_expr (C8.pe_c c_require_lists hr (by decide) (by rfl) (pa_cons (pv 1) (pa_cons (pe_callB (call_len_seqK (K := K) rfl) (by rfl) T.len_ bb_len (pa_cons (pv 0) pa_nil)) pa_nil))))
      (pss_one (ps_expr (C8.pe_c c_require_sequence hr (by decide) (by rfl) (pa_cons (pv 2) pa_nil))))), ?_⟩
    refine ⟨u, rfl, u, cs, rfl, hu, h60, fun H1 s1 => ?_⟩
    obtain ⟨a, rfl, ha⟩ := hu
    refine ⟨l, rfl, .ref a, rfl, a, _, rfl, .inr (SqT.of (s1 _ _ ha)), l, L, cs.length, by rw [List.length_map]; rfl, hl.mono s1, hL, h60, fun H2 s2 => ?_⟩
    exact ⟨v, rfl, v, bs, rfl, hv.mono (s1.trans s2), hw, fun H3 s3 => q _ ((s1.trans s2).trans s3)⟩
def sp_require_whole : Sp := fun vs H Q _ => ∃ (u l v : V) (cs : List Nat) (L : Bool → List Nat) (bs : List Blk), vs = [u, l, v] ∧ TupN H u cs ∧ LsR H l L ∧ SeqR H v bs ∧ cs.length ≤ 60 ∧ WL cs.length L ∧ WS bs ∧ lenB bs = cs.sum ∧ ∀ H', Same H H' → Q .non H'
theorem ok_require_whole (T : Blt K mg) (dF : Df K mg "require_whole" st_require_whole ["counts", "lists", "sequence"]) (c_require_game : C8.Cal P w K mg base 5 "require_game" sp_require_game []) (c_picks_of : C8.Cal P w K mg base 1 "picks_of" sp_picks_of []) : C8.Cal P w K mg base 6 "require_whole" sp_require_whole [] := by
  have nd := sc_require_whole.nd
  refine cal_of dF sc_require_whole (fun vs H Q E h => ?_) (fun cdv A outer s H vs Q E hr h => ?_)
  · obtain ⟨u, l, v, cs, L, bs, rfl, _⟩ := h
    rfl
  · obtain ⟨u, l, v, cs, L, bs, rfl, hu, hl, hv, h60, hL, hw, hs, q⟩ := h
    refine ⟨_, pss_cons (ps_expr (C8.pe_c c_require_game hr (by decide) (by rfl) (pa_cons (pv 0) (pa_cons (pv 1) (pa_cons (pv 2) pa_nil)))))
      (pss_one (ps_if (pt_cmpR op_ne (C8.pe_c c_picks_of hr (by decide) (by rfl) (pa_cons (pv 2) pa_nil)) (pe_callB (cr_sumT rfl) (by rfl) T.sum_ bb_sum (pa_cons (pv 0) pa_nil)) (nomark _))
        (pss_never)
        (pss_nil))), ?_⟩
    refine ⟨u, rfl, l, rfl, v, rfl, u, l, v, cs, L, bs, rfl, hu, hl, hv, h60, hL, hw, fun H1 s1 => ?_⟩
    refine ⟨v, rfl, v, bs, rfl, hv.mono s1, hw, fun H2 s2 => ?_⟩
    obtain ⟨a, rfl, ha⟩ := hu
    refine ⟨.ref a, rfl, a, cs.map zi, rfl, ?_, rfl, false, nyes ?_, q _ (s1.trans s2)⟩
    · rw [ints_map]
      exact SqT.of ((s1.trans s2) _ _ ha)
    · rw [sum_int, hs]
      rfl
def sp_reversed_sequence : Sp := fun vs H Q _ => ∃ (v : V) (bs : List Blk), vs = [v] ∧ SeqR H v bs ∧ WS bs ∧ ∀ v' H', Same H H' → SeqR H' v' (revB bs) → Q v' H'
theorem ok_reversed_sequence (T : Blt K mg) (dF : Df K mg "reversed_sequence" st_reversed_sequence ["sequence"]) (c_require_sequence : C8.Cal P w K mg base 4 "require_sequence" sp_require_sequence []) : C8.Cal P w K mg base 5 "reversed_sequence" sp_reversed_sequence [] := by
  have nd := sc_reversed_sequence.nd
  refine cal_of dF sc_reversed_sequence (fun vs H Q E h => ?_) (fun cdv A outer s H vs Q E hr h => ?_)
  · obtain ⟨v, bs, rfl, _⟩ := h
    rfl
  · obtain ⟨v, bs, rfl, hv, hw, q⟩ := h
    refine ⟨_, pss_cons (ps_expr (C8.pe_c c_require_sequence hr (by decide) (by rfl) (pa_cons (pv 0) pa_nil)))
      (pss_one (ps_ret (pe_lc (own := [("turns", 1), ("times", 2)]) (g := gTup K 2 (gCons (gName 1) (gCons (gName 2) gNil))) (tt := tYes) rfl nd (pi_reversed (by rfl) T.reversed_ (pa_cons (pv 0) pa_nil)) (blkOk_by (N := N_reversed_sequence) (sc := C8.fnScope st_reversed_sequence) (by decide +kernel))
        (fun _ _ _ _ _ => pg_tup rfl (pgs_cons (pg_name (i := 1) nd rfl (Or.inl rfl)) (pgs_cons (pg_name (i := 2) nd rfl (Or.inl rfl)) pgs_nil))) (fun _ _ _ _ _ => pts_nil)
        (fun _ _ _ _ _ => pe_tup (pa_cons (pe_revS (pv 1)) (pa_cons (pv 2) pa_nil)))))), ?_⟩
    refine ⟨v, rfl, v, bs, rfl, hv, hw, fun H1 s1 => ?_⟩
    obtain ⟨a, xs, rfl, ha, hb⟩ := hv
    have ha1 := s1 _ _ ha
    refine ⟨.ref a, rfl, a, xs, rfl, SqL.of ha1, fun D hD => ?_⟩
    refine lc_same (walk_rev (K := K) (a := a) (xs := xs)) (fun i v H => ∃ b, (revB bs)[i]? = some b ∧ BlkR H v b) (by rw [hb.1]; have := hw.1; omega) hD (fun _ _ _ _ t ⟨b, e, r⟩ => ⟨b, e, r.tp t⟩) (fun H' s => SqL.of (s _ _ ha1)) (fun i x H2 H' kk hi s y hkk => ?_) (fun H' acc s eD el eE => ?_)
    · obtain ⟨rfl, hx⟩ := y
      obtain ⟨b, eb, rb⟩ := hb.getV hx
      obtain ⟨c, rfl, hc⟩ := rb.mono (s1.trans s)
      obtain ⟨h1, h2, h3⟩ := hw.2 b (List.mem_of_getElem? eb)
      rw [hb.1] at hi eb
      refine ⟨c, _, rfl, SqT.of hc, rfl, _, _, rfl, _, _, rfl, rfl, rfl, ?_⟩
      refine ⟨_, rfl, txt b.1, rfl, line (by rw [txt_len]; omega), _, rfl, (show 2 ≤ sizeLine from line (by decide)), fun p hp => ?_⟩
      refine hkk _ _ (same_new hp) ⟨_, revB_at hi eb, p, rfl, ?_⟩
      rw [upd_same, revS_txt]
    · refine q _ _ (s1.trans s) ⟨D, acc, rfl, eD, all2_of (by rw [el, revB_len, hb.1]) eE⟩
def sp_turned_lists : Sp := fun vs H Q _ => ∃ (v : V) (L : Bool → List Nat), vs = [v] ∧ LsR H v L ∧ ∀ v' H', Same H H' → LsR H' v' (tl L) → Q v' H'
theorem ok_turned_lists (T : Blt K mg) (dF : Df K mg "turned_lists" st_turned_lists ["lists"])  : C8.Cal P w K mg base 1 "turned_lists" sp_turned_lists [] := by
  have nd := sc_turned_lists.nd
  refine cal_of dF sc_turned_lists (fun vs H Q E h => ?_) (fun cdv A outer s H vs Q E hr h => ?_)
  · obtain ⟨v, L, rfl, _⟩ := h
    rfl
  · obtain ⟨v, L, rfl, ⟨a, x, y, rfl, ha, ⟨b, rfl, hb⟩, ⟨c, rfl, hc⟩⟩, q⟩ := h
    refine ⟨_, pss_one (ps_ret (pe_tup (pa_cons (pe_revT (pe_ix ix_tup (pv 0) (pe_int) (fun _ _ => rfl))) (pa_cons (pe_revT (pe_ix ix_tup (pv 0) (pe_int) (fun _ _ => rfl))) pa_nil)))), ?_⟩
    refine ⟨.ref a, rfl, a, _, 1, _, rfl, rfl, SqT.of ha, atI_nat (j := 1) rfl, c, _, rfl, SqT.of hc, fun p1 n1 => ?_⟩
    have s1 : Same H (upd H p1 (.tup (List.map vN (L false)).reverse)) := same_new n1
    refine ⟨.ref a, rfl, a, _, 0, _, rfl, rfl, SqT.of (s1 _ _ ha), atI_nat (j := 0) rfl, b, _, rfl, SqT.of (s1 _ _ hb), fun p2 n2 => ?_⟩
    have s2 := same_new (o := .tup (List.map vN (L true)).reverse) n2
    refine ⟨(show 2 ≤ sizeLine from line (by decide)), fun p3 n3 => ?_⟩
    have s3 := same_new (o := .tup [.ref p1, .ref p2]) n3
    refine q _ _ ((s1.trans s2).trans s3) ⟨p3, _, _, rfl, upd_same, ⟨p1, rfl, ?_⟩, ⟨p2, rfl, ?_⟩⟩
    · have := (s2.trans s3) p1 _ upd_same
      rw [this, ← List.map_reverse]
      rfl
    · have := s3 p2 _ upd_same
      rw [this, ← List.map_reverse]
      rfl
end
end TG
namespace TG
open PySem PySem.Spec PyProof.Rows L2 TGZ
abbrev st_best_left : Stmt := topS 36
abbrev N_best_left : List Str := ["left", "ranking", "kind"]
theorem sc_best_left : FnScope N_best_left ["left", "ranking"] (C8.fnScope st_best_left) := C8.fnScope_by (by decide +kernel)
abbrev st_one_repetition : Stmt := topS 37
abbrev N_one_repetition : List Str := ["left", "lists", "turns", "after", "kinds", "letter", "kind"]
theorem sc_one_repetition : FnScope N_one_repetition ["left", "lists", "turns"] (C8.fnScope st_one_repetition) := C8.fnScope_by (by decide +kernel)
abbrev st_like_repetitions : Stmt := topS 38
abbrev N_like_repetitions : List Str := ["left", "kinds", "times", "kind"]
theorem sc_like_repetitions : FnScope N_like_repetitions ["left", "kinds", "times"] (C8.fnScope st_like_repetitions) := C8.fnScope_by (by decide +kernel)
/-- a list's item, by values -/
theorem get_list {X : Cx} : PGet X (rIxL X.K) := by
  intro pins s σ H x y v u Q I rx ry h
  obtain ⟨p, xs, i, z, rfl, rfl, hq, he, q⟩ := h
  cases rx
  obtain ⟨t, rfl⟩ := ry
  obtain ⟨its, r, pl, hz⟩ := I.list hq
  obtain ⟨j, h1, h2, h3, h4, h5⟩ := atI_get he
  obtain ⟨w, ew, rw'⟩ := r.get h2
  have hl := r.length
  have hn := line63
  have fin : EP X pins σ Q w s := ⟨z, H, I, rw', q⟩
  by_cases h0 : 0 ≤ i
  · have hj : i.toNat = j := by
      rw [seqIndex_of h0 h5] at h1
      exact Option.some.inj h1
    exact wpAny_getItem_list pl.isList h0 (by omega) (by rw [hj]; simpa using ew) fin
  · have hj : (i + (its.toArray.size : Int)).toNat = j := by
      rw [seqIndex_neg (by omega) h4] at h1
      rw [List.size_toArray, ← hl]
      exact Option.some.inj h1
    exact wpAny_getItem_list_neg pl.isList (by omega) (by rw [List.size_toArray] <;> omega) (by omega) (by rw [hj]; simpa using ew) fin
theorem ix_nat {n j : Nat} (hj : j < n) : ixN n (j : Int) = some j := by
  unfold ixN
  rw [if_pos (by omega), if_pos (by omega)]
  simp
theorem fn_at {cs : List Nat} {k : Nat} (h : k < cs.length) : cs[k]? = some (fn cs k) := by
  rw [fn_lt h, List.getElem?_eq_getElem h]
theorem take_snoc {α : Type} {l : List α} {i : Nat} {x : α} (h : l[i]? = some x) : l.take (i + 1) = l.take i ++ [x] := by
  rw [List.take_succ, h]
  rfl
theorem count_zi (ks : List Nat) (k : Nat) : (ks.map zi).count (k : Int) = ks.count k := by
  induction ks with
  | nil => rfl
  | cons a as ih =>
    rw [List.map_cons, List.count_cons, List.count_cons, ih]
    have e : (zi a == (k : Int)) = (a == k) := by
      unfold zi
      rw [Bool.eq_iff_iff, beq_iff_eq, beq_iff_eq]
      omega
    rw [e]
section
variable {P : Program} {w : World} {K : PySem.W.Frag} {mg : Str → Option Value} {base : Heap}
def sp_best_left : Sp := fun vs H Q _ => ∃ (a : Addr) (v : V) (cs ns : List Nat) (k : Nat), vs = [.ref a, v] ∧ H a = some (.lst (cs.map vN)) ∧ TupN H v ns ∧ (∀ j ∈ ns, j < cs.length) ∧ ns.length ≤ 1000 ∧ best (fn cs) ns = some k ∧ ∀ H', Same H H' → Q (vN k) H'
theorem ok_best_left (T : Blt K mg) (dF : Df K mg "best_left" st_best_left ["left", "ranking"])  : C8.Cal P w K mg base 1 "best_left" sp_best_left [] := by
  have nd := sc_best_left.nd
  refine cal_of dF sc_best_left (fun vs H Q E h => ?_) (fun cdv A outer s H vs Q E hr h => ?_)
  · obtain ⟨a, v, cs, ns, k, rfl, _⟩ := h
    rfl
  · obtain ⟨a, v, cs, ns, k, rfl, ha, ⟨b, rfl, hb⟩, hlt, hle, hk, q⟩ := h
    refine ⟨_, pss_one (ps_ret (pe_ix ix_list (pe_lc (own := [("kind", 2)]) (g := gName 2) rfl nd (pi_tup (pv 1)) (blkOk_by (N := N_best_left) (sc := C8.fnScope st_best_left) (by decide +kernel))
        (fun _ _ _ _ _ => pg_name (i := 2) nd rfl (Or.inl rfl)) (fun _ _ _ _ _ => pts_one (pt_cmpR op_gt (pe_ix (ix_listK (K := K) rfl) (pv 0) (pv 2) (fun _ _ => rfl)) (pe_int) (nomark _)))
        (fun _ _ _ _ _ => pv 2)) (pe_int) (fun _ _ => rfl))), ?_⟩
    refine ⟨.ref b, rfl, b, rfl, ⟨_, SqT.of hb⟩, fun D hD => ?_⟩
    refine lc_it (walk_tup (K := K) (a := b) (xs := ns.map vN)) (fun i H' => Same H H' ∧ H' D = some (.lst (((ns.take i).filter fun k => decide (0 < fn cs k)).map vN))) ⟨same_new hD, upd_same⟩ (fun i H' _ p => SqT.of (p.1 _ _ hb)) (fun i x H1 H' hi p y => ?_) (fun H' p => ?_)
    · obtain ⟨rfl, hx⟩ := y
      obtain ⟨n, hn, rfl⟩ := get_vN hx
      have hm : n < cs.length := hlt n (List.mem_of_getElem? hn)
      have hlen : i < ns.length := (List.getElem?_eq_some_iff.mp hn).1
      refine ⟨rfl, ?_⟩
      by_cases h0 : 0 < fn cs n
      · refine ⟨.ref a, rfl, vN n, rfl, a, _, (n : Int), vN (fn cs n), rfl, rfl, SqL.of (p.1 _ _ ha), atI_nat (at_vN (fn_at hm)), _, 0, rfl, rfl, true, yes (by omega), ?_⟩
        refine ⟨vN n, rfl, _, p.2, lineL ?_, p.1.app hD, ?_⟩
        · rw [List.length_map]
          have := List.length_filter_le (fun k => decide (0 < fn cs k)) (ns.take i)
          rw [List.length_take] at this
          omega
        · rw [upd_same, take_snoc hn, List.filter_append, List.map_append]
          rw [List.filter_cons_of_pos (by simpa using h0)]
          rfl
      · refine ⟨.ref a, rfl, vN n, rfl, a, _, (n : Int), vN (fn cs n), rfl, rfl, SqL.of (p.1 _ _ ha), atI_nat (at_vN (fn_at hm)), _, 0, rfl, rfl, false, no (by omega), ?_⟩
        refine ⟨p.1, ?_⟩
        rw [p.2, take_snoc hn, List.filter_append, List.filter_cons_of_neg (by simpa using h0), List.filter_nil, List.append_nil]
    · obtain ⟨s, e⟩ := p
      rw [List.length_map, List.take_length] at e
      refine ⟨D, _, 0, _, rfl, rfl, SqL.of e, atI_nat (j := 0) (at_vN ?_), q _ s⟩
      rw [← List.head?_eq_getElem?, List.head?_filter]
      exact hk
def sp_one_repetition : Sp := fun vs H Q _ => ∃ (a : Addr) (l : V) (cs : List Nat) (L : Bool → List Nat) (t : List Bool), vs = [.ref a, l, .str (txt t)] ∧ H a = some (.lst (cs.map vN)) ∧ LsR H l L ∧ WL cs.length L ∧ cs.length ≤ 60 ∧ t.length ≤ 20 ∧ (plain (fn cs) L t).length = t.length ∧
  ∀ v b c o ks c' H', Same H H' → H c = none → H' v = some (.tup [.ref b, .ref c]) → H' b = some (.frz o (.tup (ks.map vN))) → o.cls = .type "tuple" → o.dict = none → H' c = some (.lst (c'.map vN)) → ks.length = t.length → plain (fn cs) L t = t.zip ks → c'.length = cs.length →
    (∀ k, fn c' k + ks.count k = fn cs k) → (∀ k ∈ ks, k < cs.length) → Q (.ref v) H'
theorem ok_one_repetition (T : Blt K mg) (dF : Df K mg "one_repetition" st_one_repetition ["left", "lists", "turns"]) (c_best_left : C8.Cal P w K mg base 1 "best_left" sp_best_left []) (c_own_list : C8.Cal P w K mg base 1 "own_list" sp_own_list []) : C8.Cal P w K mg base 2 "one_repetition" sp_one_repetition [] := by
  have nd := sc_one_repetition.nd
  refine cal_of dF sc_one_repetition (fun vs H Q E h => ?_) (fun cdv A outer s H vs Q E hr h => ?_)
  · obtain ⟨a, l, cs, L, t, rfl, _⟩ := h
    rfl
  · obtain ⟨a, l, cs, L, t, rfl, ha, hl, hL, h60, h20, hfull, q⟩ := h
    refine ⟨_, pss_cons (ps_par (i := 3) (j := 4) rfl nd rfl rfl (by decide) rfl rfl (pa_cons (pe_callTy call_list_of (by rfl) T.list_ bt_list (pa_cons (pv 0) pa_nil)) (pa_cons (pe_lst (pa_nil)) pa_nil)) (by first | rfl | decide +kernel))
      (pss_cons (ps_for PassesOwn.never rfl (pi_str (pv 2)) (pg_name (i := 5) nd rfl (Or.inl rfl))
        (pss_cons (ps_set (i := 6) nd rfl (Or.inl rfl) (C8.pe_c c_best_left hr (by decide) (by rfl) (pa_cons (pv 3) (pa_cons (C8.pe_c c_own_list hr (by decide) (by rfl) (pa_cons (pv 1) (pa_cons (pv 5) pa_nil))) pa_nil))))
        (pss_cons (ps_augS (pv 3) (pv 6) get_list (pe_int) ip_sub set_list)
        (pss_one (ps_expr (pe_bm PySem.F.plainAttrs_list PySem.F.slot_list_append PySem.F.type_list_append mt_append (pv 4) (pa_cons (pv 6) pa_nil)))))))
      (pss_one (ps_ret (pe_tup (pa_cons (pe_callTy call_tuple_frz (by rfl) T.tuple_ bt_tuple (pa_cons (pv 4) pa_nil)) (pa_cons (pv 3) pa_nil)))))), ?_⟩
    refine ⟨.ref a, rfl, a, _, rfl, .inl (SqL.of ha), fun p1 n1 => ⟨Nat.zero_le _, fun p2 n2 => ?_⟩⟩
    have s1 : Same H (upd H p1 (.lst (cs.map vN))) := same_new n1
    have n2' : H p2 = none := by
      have : p2 ≠ p1 := fun z => by rw [z, upd_same] at n2; cases n2
      rwa [upd_ne this] at n2
    have ne12 : p1 ≠ p2 := fun z => by rw [← z, upd_same] at n2; cases n2
    refine ⟨_, _, rfl, .str (txt t), rfl, txt t, rfl, ?_⟩
    refine for_it (walk_str (z := txt t)) (fun i σ H' => Same H H' ∧ (∃ z1 z2, σ = [some (.ref a), some l, some (.str (txt t)), some (.ref p1), some (.ref p2), z1, z2]) ∧ ∃ c ks : List Nat, H' p1 = some (.lst (c.map vN)) ∧ H' p2 = some (.lst (ks.map vN)) ∧ c.length = cs.length ∧ ks.length = i ∧
      (∀ k, fn c k + ks.count k = fn cs k) ∧ (∀ k ∈ ks, k < cs.length) ∧ ∀ T', plain (fn cs) L (t.take i ++ T') = (t.take i).zip ks ++ plain (fn c) L T') ⟨s1.trans (same_new n2), ⟨_, _, rfl⟩, cs, [], ?_, upd_same, rfl, rfl, fun k => by simp, fun k hk => by simp at hk, fun T' => by simp⟩ (fun i σ H' _ p => trivial) (fun i v σ H1 H' hi p y => ?_) (fun σ H' p => ?_)
    · rw [upd_ne ne12, upd_same]
    · obtain ⟨s, ⟨z1, z2, rfl⟩, c, ks, e1, e2, l1, l2, hc, hk, hp⟩ := p
      obtain ⟨rfl, c0, hc0, rfl⟩ := y
      obtain ⟨b, hb, eb⟩ := txt_at hc0
      have hit : i < t.length := (List.getElem?_eq_some_iff.mp hb).1
      have hd : t = t.take i ++ b :: t.drop (i + 1) := by
        have := List.take_append_drop i t
        rw [List.drop_eq_getElem_cons hit] at this
        rw [(List.getElem?_eq_some_iff.mp hb).2] at this
        exact this.symm
      obtain ⟨k, hbest⟩ : ∃ k, best (fn c) (L b) = some k := by
        cases e : best (fn c) (L b) with
        | some k => exact ⟨k, rfl⟩
        | none =>
          exfalso
          have := hp (b :: t.drop (i + 1))
          rw [← hd, plain_none _ e, List.append_nil] at this
          rw [this, List.length_zip, List.length_take, l2] at hfull
          omega
      obtain ⟨hpos, hmem⟩ := best_some hbest
      have hkK : k < cs.length := (wl_has hL b k).mp hmem
      have hkc : k < c.length := by omega
      refine ⟨.ref p1, rfl, l, rfl, _, rfl, l, L, b, by rw [eb]; rfl, hl.mono s, fun v' hv' => ?_⟩
      refine ⟨p1, v', c, L b, k, rfl, e1, hv', fun j hj => by rw [l1]; exact (wl_has hL b j).mp hj, by rw [(hL b).length_eq, List.length_range]; omega, hbest, fun H2 s2 => ?_⟩
      have e1' := s2 _ _ e1
      have e2' := s2 _ _ e2
      refine ⟨.ref p1, rfl, vN k, rfl, p1, _, (k : Int), vN (fn c k), rfl, rfl, SqL.of e1', atI_nat (at_vN (fn_at hkc)), (fn c k : Int), 1, rfl, rfl, p1, _, (k : Int), k, rfl, rfl, e1', ?_, ?_⟩
      · rw [List.length_map]
        exact ix_nat hkc
      · have eset : (c.map vN).set k (.int ((fn c k : Int) - 1)) = (c.set k (fn c k - 1)).map vN := by
          rw [List.map_set]
          congr 1
          unfold vN
          congr 1
          omega
        rw [eset]
        have s3 : Same H (upd H2 p1 (.lst ((c.set k (fn c k - 1)).map vN))) := (s.trans s2).app n1
        have e2'' : upd H2 p1 (.lst ((c.set k (fn c k - 1)).map vN)) p2 = some (.lst (ks.map vN)) := by rw [upd_ne (Ne.symm ne12)]; exact e2'
        refine ⟨.ref p2, rfl, .inl ⟨rfl, _, SqL.of e2''⟩, vN k, rfl, p2, _, vN k, rfl, rfl, e2'', ?_, ?_⟩
        · rw [List.length_map]
          exact lineL (by omega)
        · refine ⟨s3.app n2', ⟨_, _, rfl⟩, c.set k (fn c k - 1), ks ++ [k], ?_, ?_, by rw [List.length_set]; exact l1, by simp [l2], fun j => ?_, fun j hj => ?_, fun T' => ?_⟩
          · rw [upd_ne ne12, upd_same]
          · rw [upd_same, List.map_append]
            rfl
          · rw [fn_set hkc, List.count_append, ← hc j]
            by_cases hjk : j = k
            · subst hjk
              simp
              omega
            · rw [if_neg hjk]
              have : List.count j [k] = 0 := by
                rw [List.count_eq_zero]
                simp [hjk]
              omega
          · rcases List.mem_append.mp hj with hj | hj
            · exact hk j hj
            · rw [List.mem_singleton.mp hj]
              exact hkK
          · rw [take_snoc hb, List.append_assoc, hp, List.singleton_append, plain_some _ hbest, plain_congr L T' (dec_fn hkc), List.zip_append (by rw [List.length_take, l2]; omega), List.append_assoc]
            rfl
    · obtain ⟨s, ⟨z1, z2, rfl⟩, c, ks, e1, e2, l1, l2, hc, hk, hp⟩ := p
      rw [txt_size] at l2 hp
      refine ⟨.ref p2, rfl, p2, _, rfl, SqL.of e2, fun b o nb oc od => ⟨.ref p1, rfl, (show 2 ≤ sizeLine from line (by decide)), fun v nv => ?_⟩⟩
      have nvb : b ≠ v := fun z => by rw [← z, upd_same] at nv; cases nv
      have n1b : p1 ≠ b := fun z => by rw [← z, e1] at nb; cases nb
      have n1v : p1 ≠ v := fun z => by rw [← z, upd_ne n1b, e1] at nv; cases nv
      have ep := hp []
      rw [List.take_length, List.append_nil] at ep
      have ez : plain (fn c) L [] = [] := rfl
      rw [ez, List.append_nil] at ep
      refine q v b p1 o ks c _ ((s.trans (same_new nb)).trans (same_new nv)) n1 upd_same ?_ oc od ?_ l2 ep l1 hc hk
      · rw [upd_ne nvb, upd_same]
      · rw [upd_ne n1v, upd_ne n1b]
        exact e1
def sp_like_repetitions : Sp := fun vs H Q _ => ∃ (a b : Addr) (o : Obj) (cs ks : List Nat) (n : Nat), vs = [.ref a, .ref b, vN n] ∧ H a = some (.lst (cs.map vN)) ∧ H b = some (.frz o (.tup (ks.map vN))) ∧ o.cls = .type "tuple" ∧ o.dict = none ∧ ks.length ≤ 20 ∧ (∀ k ∈ ks, k < cs.length) ∧ 1 ≤ n ∧ (∀ k, ks.count k ≤ fn cs k) ∧
  ∀ m H', Same H H' → 1 ≤ m → m ≤ n → (∀ k, m * ks.count k ≤ fn cs k) → (m = n ∨ ∃ k ∈ ks, fn cs k < (m + 1) * ks.count k) → Q (vN m) H'
theorem ok_like_repetitions (T : Blt K mg) (dF : Df K mg "like_repetitions" st_like_repetitions ["left", "kinds", "times"])  : C8.Cal P w K mg base 1 "like_repetitions" sp_like_repetitions [] := by
  have nd := sc_like_repetitions.nd
  refine cal_of dF sc_like_repetitions (fun vs H Q E h => ?_) (fun cdv A outer s H vs Q E hr h => ?_)
  · obtain ⟨a, b, o, cs, ks, n, rfl, _⟩ := h
    rfl
  · obtain ⟨a, b, o, cs, ks, n, rfl, ha, hb, oc, od, h20, hlt, h1, hle, q⟩ := h
    refine ⟨_, pss_one (ps_ret (pe_callB (cr_min rfl) (by rfl) T.min_ bb_min (pa_cons (pe_op op_cat (pe_lst (pa_cons (pv 2) pa_nil)) (pe_lc (own := [("kind", 3)]) (g := gName 3) (tt := tYes) rfl nd (pi_tup (pv 1)) (blkOk_by (N := N_like_repetitions) (sc := C8.fnScope st_like_repetitions) (by decide +kernel))
        (fun _ _ _ _ _ => pg_name (i := 3) nd rfl (Or.inl rfl)) (fun _ _ _ _ _ => pts_nil)
        (fun _ _ _ _ _ => pe_op op_fdiv (pe_ix (ix_listK (K := K) rfl) (pv 0) (pv 3) (fun _ _ => rfl)) (pe_bmF PySem.F.plainAttrs_tuple PySem.F.slot_tuple_count PySem.F.type_tuple_count (mt_tcountK (K := K) rfl) (pv 1) (pa_cons (pv 3) pa_nil))))) pa_nil))), ?_⟩
    refine ⟨vN n, rfl, (show 1 ≤ sizeLine from line (by decide)), fun p1 n1 => ?_⟩
    have s1 : Same H (upd H p1 (.lst [vN n])) := same_new n1
    refine ⟨.ref b, rfl, b, rfl, ⟨_, rdT (.inr ⟨o, s1 _ _ hb⟩)⟩, fun D hD => ?_⟩
    refine lc_same (walk_tup (K := K) (a := b) (xs := ks.map vN)) (fun i v _ => ∃ k, ks[i]? = some k ∧ v = vN (fn cs k / ks.count k)) (by rw [List.length_map]; omega) hD (fun _ _ _ _ _ e => e) (fun H' s => rdT (.inr ⟨o, s _ _ (s1 _ _ hb)⟩)) (fun i x H1 H' kk hi s y hkk => ?_) (fun H' acc s eD el eE => ?_)
    · obtain ⟨rfl, hx⟩ := y
      obtain ⟨k, hk, rfl⟩ := get_vN hx
      have hmem := List.mem_of_getElem? hk
      have hm : k < cs.length := hlt k hmem
      have hc0 : 0 < ks.count k := List.count_pos_iff.mpr hmem
      have hc1 : ks.count k ≤ ks.length := List.count_le_length
      have s' := s1.trans s
      refine ⟨rfl, ?_⟩
      refine ⟨.ref a, rfl, vN k, rfl, a, _, (k : Int), vN (fn cs k), rfl, rfl, SqL.of (s' _ _ ha), atI_nat (at_vN (fn_at hm)), ?_⟩
      refine ⟨.ref b, rfl, ⟨b, o, _, rfl, s' _ _ hb, oc, od⟩, vN k, rfl, b, ks.map zi, (k : Int), rfl, rfl, ?_, (fn cs k : Int), ((ks.map zi).count (k : Int) : Nat), rfl, rfl, ?_, ?_⟩
      · rw [ints_map]
        exact rdT (.inr ⟨o, s' _ _ hb⟩)
      · rw [count_zi]
        exact ⟨by omega, by omega⟩
      · rw [count_zi]
        exact hkk _ _ (Same.refl _) ⟨k, hk, rfl⟩
    · have e : acc = (ks.map fun k => fn cs k / ks.count k).map vN := by
        refine List.ext_getElem? fun i => ?_
        by_cases hi : i < acc.length
        · obtain ⟨k, ek, ev⟩ := eE i _ (List.getElem?_eq_getElem hi)
          rw [List.getElem?_eq_getElem hi, ev, List.getElem?_map, List.getElem?_map, ek]
          rfl
        · rw [List.getElem?_eq_none (by omega), List.getElem?_eq_none (by rw [List.length_map, List.length_map]; rw [List.length_map] at el; omega)]
      have e1 := s _ _ (upd_same (H := H) (a := p1) (o := .lst [vN n]))
      refine ⟨p1, D, _, _, rfl, rfl, e1, eD, ?_, fun p2 n2 => ?_⟩
      · rw [el, List.length_map]
        exact line (by simp; omega)
      · refine ⟨p2, (n :: ks.map fun k => fn cs k / ks.count k).map zi, rfl, ?_, by simp, fun m hm hy => ?_⟩
        · rw [ints_map, List.map_cons, ← e]
          exact SqL.of upd_same
        · obtain ⟨m, hm2, rfl⟩ := List.mem_map.mp hm
          have hy2 : ∀ y ∈ n :: ks.map (fun k => fn cs k / ks.count k), m ≤ y := fun y hyy => by
            have := hy _ (List.mem_map_of_mem (f := zi) hyy)
            unfold zi at this
            omega
          have hmn := hy2 n List.mem_cons_self
          have hall : ∀ k, m * ks.count k ≤ fn cs k := fun k => by
            by_cases hk : k ∈ ks
            · have := hy2 _ (List.mem_cons_of_mem n (List.mem_map_of_mem (f := fun k => fn cs k / ks.count k) hk))
              exact (Nat.le_div_iff_mul_le (List.count_pos_iff.mpr hk)).mp this
            · rw [List.count_eq_zero.mpr hk, Nat.mul_zero]
              exact Nat.zero_le _
          have hone : 1 ≤ m := by
            rcases List.mem_cons.mp hm2 with rfl | h2
            · exact h1
            · obtain ⟨k, hk, rfl⟩ := List.mem_map.mp h2
              exact (Nat.le_div_iff_mul_le (List.count_pos_iff.mpr hk)).mpr (by rw [Nat.one_mul]; exact hle k)
          refine q m _ ((s1.trans s).trans (same_new n2)) hone hmn hall ?_
          rcases List.mem_cons.mp hm2 with h2 | h2
          · exact .inl h2
          · obtain ⟨k, hk, ek⟩ := List.mem_map.mp h2
            refine .inr ⟨k, hk, ?_⟩
            have := List.count_pos_iff.mpr hk
            rw [← ek, Nat.mul_comm]
            exact Nat.lt_mul_div_succ _ this
end
end TG
namespace TG
open PySem PySem.Spec PyProof.Rows L2 TGZ
abbrev st_plain_rows : Stmt := topS 39
abbrev N_plain_rows : List Str := ["counts", "lists", "sequence", "left", "course", "turns", "times", "kinds", "after", "many", "kind", "count"]
theorem sc_plain_rows : FnScope N_plain_rows ["counts", "lists", "sequence"] (C8.fnScope st_plain_rows) := C8.fnScope_by (by decide +kernel)
theorem plain_pref (L : Bool → List Nat) : ∀ (S T : List Bool) (c : Nat → Nat), (plain c L (S ++ T)).length = (S ++ T).length → (plain c L S).length = S.length
  | [], T, c, _ => rfl
  | p :: S, T, c, h => by
    cases e : best c (L p) with
    | none =>
      rw [List.cons_append, plain_none _ e] at h
      simp at h
    | some k =>
      rw [List.cons_append, plain_some _ e, List.length_cons, List.length_cons] at h
      rw [plain_some _ e, List.length_cons, plain_pref L S T _ (by omega)]
      rfl
theorem rep_split {α : Type} {m n : Nat} (h : m ≤ n) (t : List α) : (List.replicate n t).flatten = (List.replicate m t).flatten ++ (List.replicate (n - m) t).flatten := by
  rw [← List.flatten_append, List.replicate_append_replicate]
  congr 2
  omega
theorem rep_len {α : Type} (m : Nat) {s : List α} {n : Nat} (h : s.length = n) : (List.replicate m s).flatten.length = m * n := by
  rw [List.length_flatten, List.map_replicate, List.sum_replicate_nat, h]
/-- one row more -/
theorem row_step {K : Nat} {L : Bool → List Nat} {F : List Pk} {rs : List Row} {c c' : List Nat} {t : List Bool} {ks : List Nat} {m n i : Nat} {rest : List Bool} (hl : ks.length = t.length) (h : plain (fn c) L t = t.zip ks) (hcK : c.length = K) (hm : ∀ k, m * ks.count k ≤ fn c k) (hn : m ≤ n) (h1 : 1 ≤ m)
    (hc' : ∀ k, fn c' k = fn c k - m * ks.count k) (hF : F = expR rs ++ plain (fn c) L ((List.replicate n t).flatten ++ rest)) (hfull : (plain (fn c) L ((List.replicate n t).flatten ++ rest)).length = ((List.replicate n t).flatten ++ rest).length)
    (hb : RW K rs.length i (fn c) L t) (hor : m = n ∨ ∃ k ∈ ks, fn c k < (m + 1) * ks.count k) :
    F = expR (rs ++ [(t, ks, m)]) ++ plain (fn c') L ((List.replicate (n - m) t).flatten ++ rest) ∧ (plain (fn c') L ((List.replicate (n - m) t).flatten ++ rest)).length = ((List.replicate (n - m) t).flatten ++ rest).length ∧
    ((n - m = 0 ∧ (rs ++ [(t, ks, m)]).length + 2 * alive K (fn c') ≤ i + 1 + 2 * K) ∨ (0 < n - m ∧ RW K (rs ++ [(t, ks, m)]).length i (fn c') L t)) := by
  have ef : fn c' = sub (fn c) (fun k => m * ks.count k) := funext hc'
  have hr := plain_row L (rest := rest) hl h hm hn
  rw [← ef] at hr
  have full : (plain (fn c') L ((List.replicate (n - m) t).flatten ++ rest)).length = ((List.replicate (n - m) t).flatten ++ rest).length := by
    have hz : (t.zip ks).length = t.length := by rw [List.length_zip]; omega
    rw [hr, List.length_append, rep_len m hz, rep_split hn t, List.append_assoc, List.length_append (as := (List.replicate m t).flatten), rep_len m rfl] at hfull
    omega
  refine ⟨?_, full, ?_⟩
  · rw [hF, hr, expR_append, List.append_assoc]
    congr 1
    have : expR [(t, ks, m)] = (List.replicate m (t.zip ks)).flatten := by simp [expR]
    rw [this]
  · have ht := hb.turn (fun k hk => by
      rcases Nat.lt_or_ge k K with h | h
      · exact h
      · rw [fn_ge (by omega)] at hk; omega) hl h hm h1
    rw [← ef] at ht
    by_cases e : n - m = 0
    · refine .inl ⟨e, ?_⟩
      rw [List.length_append]
      exact ht.1
    · refine .inr ⟨by omega, ?_⟩
      rw [List.length_append]
      rcases hor with z | z
      · omega
      · refine ht.2 z ?_
        have : n - m = (n - m - 1) + 1 := by omega
        rw [this, List.replicate_succ, List.flatten_cons, List.append_assoc] at full
        exact plain_pref L _ _ _ full
/-- the rows so far: left at pl, the course at pc -/
def RI (K : Nat) (F : List Pk) (L : Bool → List Nat) (H' : Hp) (pl pc : Addr) (rest : List Bool) (bnd : Nat → (Nat → Nat) → Prop) : Prop :=
  pl ≠ pc ∧ ∃ (c : List Nat) (rs : List Row) (vs : List V), H' pl = some (.lst (c.map vN)) ∧ H' pc = some (.lst vs) ∧ All2 (RowR H') vs rs ∧ c.length = K ∧ (∀ r ∈ rs, WR K r) ∧ F = expR rs ++ plain (fn c) L rest ∧ (plain (fn c) L rest).length = rest.length ∧ bnd rs.length (fn c)
section
variable {P : Program} {w : World} {K : PySem.W.Frag} {mg : Str → Option Value} {base : Heap}
def sp_plain_rows : Sp := fun vs H Q _ => ∃ (u l v : V) (cs : List Nat) (L : Bool → List Nat) (bs : List Blk), vs = [u, l, v] ∧ TupN H u cs ∧ LsR H l L ∧ SeqR H v bs ∧ cs.length ≤ 60 ∧ WL cs.length L ∧ WS2 bs ∧ lenB bs ≤ cs.sum ∧
  ∀ v' rs H', Same H H' → CrsR H' v' rs → WC cs.length rs → expR rs = plain (fn cs) L (expB bs) → Q v' H'
theorem ok_plain_rows (T : Blt K mg) (dF : Df K mg "plain_rows" st_plain_rows ["counts", "lists", "sequence"]) (c_one_repetition : C8.Cal P w K mg base 2 "one_repetition" sp_one_repetition []) (c_like_repetitions : C8.Cal P w K mg base 1 "like_repetitions" sp_like_repetitions []) : C8.Cal P w K mg base 3 "plain_rows" sp_plain_rows [] := by
  have nd := sc_plain_rows.nd
  refine cal_of dF sc_plain_rows (fun vs H Q E h => ?_) (fun cdv A outer s H vs Q E hr h => ?_)
  · obtain ⟨u, l, v, cs, L, bs, rfl, _⟩ := h
    rfl
  · obtain ⟨u, l, v, cs, L, bs, rfl, ⟨a, rfl, ha⟩, hl, ⟨q0, xs, rfl, hq, hx⟩, h60, hL, ⟨h200, hw⟩, hsum, q⟩ := h
    refine ⟨_, pss_cons (ps_par (i := 3) (j := 4) rfl nd rfl rfl (by decide) rfl rfl (pa_cons (pe_callTy call_list_of (by rfl) T.list_ bt_list (pa_cons (pv 0) pa_nil)) (pa_cons (pe_lst (pa_nil)) pa_nil)) (by first | rfl | decide +kernel))
      (pss_cons (ps_for PassesOwn.never rfl (pi_list (pv 2)) (pg_tup rfl (pgs_cons (pg_name (i := 5) nd rfl (Or.inl rfl)) (pgs_cons (pg_name (i := 6) nd rfl (Or.inl rfl)) pgs_nil)))
        (pss_one (ps_while PassesOwn.never (pt_cmpR op_gt (pv 6) (pe_int) (nomark _))
          (pss_cons (ps_asg (C8.pe_c c_one_repetition hr (by decide) (by rfl) (pa_cons (pv 3) (pa_cons (pv 1) (pa_cons (pv 5) pa_nil)))) (pg_tup rfl (pgs_cons (pg_name (i := 7) nd rfl (Or.inr rfl)) (pgs_cons (pg_name (i := 8) nd rfl (Or.inl rfl)) pgs_nil))))
          (pss_cons (ps_set (i := 9) nd rfl (Or.inr rfl) (C8.pe_c c_like_repetitions hr (by decide) (by rfl) (pa_cons (pv 3) (pa_cons (pv 7) (pa_cons (pv 6) pa_nil)))))
          (pss_cons (ps_expr (pe_bm PySem.F.plainAttrs_list PySem.F.slot_list_append PySem.F.type_list_append mt_append (pv 4) (pa_cons (pe_tup (pa_cons (pv 5) (pa_cons (pv 7) (pa_cons (pv 9) pa_nil)))) pa_nil)))
          (pss_cons (ps_if (pt_cmpR op_gt (pv 9) (pe_int) (nomark _))
            (pss_one (ps_setLc (i := 8) (own := [("kind", 10), ("count", 11)]) (g := gTup K 2 (gCons (gName 10) (gCons (gName 11) gNil))) (tt := tYes) rfl nd rfl rfl (sw_true rfl rfl rfl (by decide +kernel)) (pi_en (by rfl) T.enumerate_ (pa_cons (pv 3) pa_nil)) (blkOk_by (N := N_plain_rows) (sc := C8.fnScope st_plain_rows) (by decide +kernel))
              (fun _ _ _ _ _ => pg_tup rfl (pgs_cons (pg_name (i := 10) nd rfl (Or.inl rfl)) (pgs_cons (pg_name (i := 11) nd rfl (Or.inl rfl)) pgs_nil))) (fun _ _ _ _ _ => pts_nil)
              (fun _ _ _ _ _ => pe_op op_sub (pv 11) (pe_op op_mul (pv 9) (pe_bmF PySem.F.plainAttrs_tuple PySem.F.slot_tuple_count PySem.F.type_tuple_count (mt_tcountK (K := K) rfl) (pv 7) (pa_cons (pv 10) pa_nil))))))
            (pss_nil))
          (pss_one (ps_par (i := 3) (j := 6) rfl nd rfl rfl (by decide) rfl rfl (pa_cons (pv 8) (pa_cons (pe_op op_sub (pv 6) (pv 9)) pa_nil)) (by first | rfl | decide +kernel))))))))))
      (pss_one (ps_ret (pv 4)))), ?_⟩
    refine ⟨.ref a, rfl, a, _, rfl, .inr (SqT.of ha), fun p1 n1 => ⟨Nat.zero_le _, fun p2 n2 => ⟨_, _, rfl, ?_⟩⟩⟩
    have s1 : Same H (upd H p1 (.lst (cs.map vN))) := same_new n1
    have n2' : H p2 = none := by
      have : p2 ≠ p1 := fun z => by rw [z, upd_same] at n2; cases n2
      rwa [upd_ne this] at n2
    have ne12 : p1 ≠ p2 := fun z => by rw [← z, upd_same] at n2; cases n2
    have s2 := s1.trans (same_new (o := .lst []) n2)
    refine ⟨.ref q0, rfl, q0, rfl, ⟨_, SqL.of (s2 _ _ hq)⟩, ?_⟩
    refine for_it (walk_list (K := K) (a := q0) (xs := xs)) (fun i σ H' => Same H H' ∧ ∃ pl z5 z6 z7 z8 z9 z10 z11, σ = [some (.ref a), some l, some (.ref q0), some (.ref pl), some (.ref p2), z5, z6, z7, z8, z9, z10, z11] ∧
      RI cs.length (plain (fn cs) L (expB bs)) L H' pl p2 (expB (bs.drop i)) fun d c => d + 2 * alive cs.length c ≤ i + 2 * cs.length) ⟨s2, _, _, _, _, _, _, _, _, rfl, ne12, cs, [], [], ?_, upd_same, All2.nil, rfl, fun r hr => by simp at hr, rfl, ?_, ?_⟩ (fun i σ H' _ p => SqL.of (p.1 _ _ hq)) (fun i x σ H1 H' hi p y => ?_) (fun σ H' p => ?_)
    · rw [upd_ne ne12, upd_same]
    · exact plain_full (wl_has hL) _ _ rfl (by rw [List.drop_zero, expB_len]; exact hsum)
    · have := alive_le_K (K := cs.length) (c := fn cs)
      simp
      omega
    · obtain ⟨rfl, hxi⟩ := y
      obtain ⟨s, pl, z5, z6, z7, z8, z9, z10, z11, rfl, hri⟩ := p
      obtain ⟨⟨t, n0⟩, eb, rb⟩ := hx.getV hxi
      obtain ⟨ab, rfl, hab⟩ := rb.mono s
      obtain ⟨b1, b20, bn⟩ := hw _ (List.mem_of_getElem? eb)
      have b1 : 1 ≤ t.length := b1
      have b20 : t.length ≤ 20 := b20
      have hib : i < bs.length := (List.getElem?_eq_some_iff.mp eb).1
      have hdrop : bs.drop i = (t, n0) :: bs.drop (i + 1) := by
        rw [List.drop_eq_getElem_cons hib, (List.getElem?_eq_some_iff.mp eb).2]
      rw [hdrop, expB_cons] at hri
      refine ⟨ab, _, rfl, SqT.of hab, rfl, _, _, rfl, _, _, rfl, rfl, ?_⟩
      refine ⟨fun n σ H' => Same H H' ∧ ∃ pl z7 z8 z9 z10 z11, σ = [some (.ref a), some l, some (.ref q0), some (.ref pl), some (.ref p2), some (.str (txt t)), some (vN n), z7, z8, z9, z10, z11] ∧
        RI cs.length (plain (fn cs) L (expB bs)) L H' pl p2 ((List.replicate n t).flatten ++ expB (bs.drop (i + 1))) fun d c => (n = 0 ∧ d + 2 * alive cs.length c ≤ i + 1 + 2 * cs.length) ∨ (0 < n ∧ RW cs.length d i c L t), ⟨n0, s, pl, _, _, _, _, _, rfl, ?_⟩, fun n σ H2 p => ?_⟩
      · obtain ⟨ne, c, rs, vs, i1, i2, i3, i4, i5, i6, i7, i8⟩ := hri
        exact ⟨ne, c, rs, vs, i1, i2, i3, i4, i5, i6, i7, .inr ⟨bn, RW.start i8⟩⟩
      · obtain ⟨s2, pl, z7, z8, z9, z10, z11, rfl, ne, c, rs, vs, i1, i2, i3, i4, i5, i6, i7, i8⟩ := p
        by_cases hn : 0 < n
        · refine ⟨vN n, rfl, n, 0, rfl, rfl, true, yes (by omega), ?_⟩
          refine ⟨fun σ' H' => ∃ n', n' < n ∧ (Same H H' ∧ ∃ pl z7 z8 z9 z10 z11, σ' = [some (.ref a), some l, some (.ref q0), some (.ref pl), some (.ref p2), some (.str (txt t)), some (vN n'), z7, z8, z9, z10, z11] ∧
            RI cs.length (plain (fn cs) L (expB bs)) L H' pl p2 ((List.replicate n' t).flatten ++ expB (bs.drop (i + 1))) fun d c => (n' = 0 ∧ d + 2 * alive cs.length c ≤ i + 1 + 2 * cs.length) ∨ (0 < n' ∧ RW cs.length d i c L t)), fun _ _ h => h, ?_⟩
          have hrw : RW cs.length rs.length i (fn c) L t := by
            rcases i8 with z | z
            · omega
            · exact z.2
          have full1 : (plain (fn c) L t).length = t.length := by
            have e : n = (n - 1) + 1 := by omega
            rw [e, List.replicate_succ, List.flatten_cons, List.append_assoc] at i7
            exact plain_pref L _ _ _ i7
          refine ⟨.ref pl, rfl, l, rfl, .str (txt t), rfl, pl, l, c, L, t, rfl, i1, hl.mono s2, by rw [i4]; exact hL, by omega, b20, full1, fun vt kb ac o ks c' H3 s3 fc et ek oc od ec lks hp lc' hc' hks => ?_⟩
          refine ⟨vt, _, rfl, SqT.of et, rfl, _, _, rfl, _, _, rfl, rfl, ?_⟩
          refine ⟨.ref pl, rfl, .ref kb, rfl, vN n, rfl, pl, kb, o, c, ks, n, rfl, s3 _ _ i1, ek, oc, od, by omega, hks, hn, fun k => by have := hc' k; omega, fun m H4 s4 m1 mn hm hor => ?_⟩
          have s34 := s3.trans s4
          have i2' := s34 _ _ i2
          refine ⟨.ref p2, rfl, .inl ⟨rfl, _, SqL.of i2'⟩, .str (txt t), rfl, .ref kb, rfl, vN m, rfl, (show 3 ≤ sizeLine from line (by decide)), fun r nr => ?_⟩
          have s5 : Same H4 (upd H4 r (.tup [.str (txt t), .ref kb, vN m])) := same_new nr
          have i2'' := s5 _ _ i2'
          have hvs : vs.length ≤ 1000 := by
            rw [i3.1]
            have hb2 : rs.length + 1 ≤ i + 1 + 2 * cs.length + 2 := by
              have := hrw
              unfold RW at this
              rcases this with z | ⟨z, _⟩ <;> omega
            omega
          refine ⟨p2, vs, .ref r, rfl, rfl, i2'', lineL (by omega), ?_⟩
          have fin : ∀ (pl' : Addr) (c3 : List Nat) (H6 : Hp) (z10 z11 : Option V), Same H H6 → Tp (upd H4 r (.tup [.str (txt t), .ref kb, vN m])) H6 → pl' ≠ p2 → H6 pl' = some (.lst (c3.map vN)) → H6 p2 = some (.lst (vs ++ [.ref r])) → c3.length = cs.length → (∀ k, fn c3 k = fn c k - m * ks.count k) →
              ∃ n', n' < n ∧ (Same H H6 ∧ ∃ pl z7 z8 z9 z10' z11', [some (.ref a), some l, some (.ref q0), some (.ref pl'), some (.ref p2), some (.str (txt t)), some (vN (n - m)), some (.ref kb), some (.ref pl'), some (vN m), z10, z11] = [some (.ref a), some l, some (.ref q0), some (.ref pl), some (.ref p2), some (.str (txt t)), some (vN n'), z7, z8, z9, z10', z11'] ∧
                RI cs.length (plain (fn cs) L (expB bs)) L H6 pl p2 ((List.replicate n' t).flatten ++ expB (bs.drop (i + 1))) fun d c => (n' = 0 ∧ d + 2 * alive cs.length c ≤ i + 1 + 2 * cs.length) ∨ (0 < n' ∧ RW cs.length d i c L t)) := by
            intro pl' c3 H6 z10 z11 hs6 ht6 hne6 h61 h62 hl3 hc3
            obtain ⟨r1, r2, r3⟩ := row_step lks hp i4 hm mn m1 hc3 i6 i7 hrw hor
            refine ⟨n - m, by omega, hs6, pl', _, _, _, _, _, rfl, hne6, c3, rs ++ [(t, ks, m)], vs ++ [.ref r], h61, h62, ?_, hl3, fun r0 hr0 => ?_, r1, r2, r3⟩
            · refine All2.snoc (i3.mono fun _ _ z => ((z.mono s34).mono s5).tp ht6) ⟨r, kb, rfl, ht6.at upd_same, ?_⟩
              exact ht6.rd (s5.tp.rd (.inr ⟨o, s4 _ _ ek⟩))
            · rcases List.mem_append.mp hr0 with z | z
              · exact i5 r0 z
              · rw [List.mem_singleton.mp z]
                exact ⟨b1, b20, lks, fun k hk => by have := hks k hk; omega, m1⟩
          have em : V.int ((n : Int) - (m : Int)) = vN (n - m) := by
            unfold vN
            congr 1
            omega
          have s6 : Same H (upd (upd H4 r (.tup [.str (txt t), .ref kb, vN m])) p2 (.lst (vs ++ [.ref r]))) := (((s2.trans s34).trans s5)).app n2'
          have t6 : Tp (upd H4 r (.tup [.str (txt t), .ref kb, vN m])) (upd (upd H4 r (.tup [.str (txt t), .ref kb, vN m])) p2 (.lst (vs ++ [.ref r]))) := Tp.lst i2''
          by_cases hm1 : 1 < m
          · refine ⟨vN m, rfl, (m : Int), 1, rfl, rfl, true, yes (by omega), ?_⟩
            have i1' : (upd (upd H4 r (.tup [.str (txt t), .ref kb, vN m])) p2 (.lst (vs ++ [.ref r]))) pl = some (.lst (c.map vN)) := by
              rw [upd_ne ne]
              exact s5 _ _ (s34 _ _ i1)
            have ekr : Rd (upd (upd H4 r (.tup [.str (txt t), .ref kb, vN m])) p2 (.lst (vs ++ [.ref r]))) kb (.tup (ks.map vN)) := t6.rd (s5.tp.rd (.inr ⟨o, s4 _ _ ek⟩))
            have ekf : (upd (upd H4 r (.tup [.str (txt t), .ref kb, vN m])) p2 (.lst (vs ++ [.ref r]))) kb = some (.frz o (.tup (ks.map vN))) := t6 _ _ rfl (s5.tp _ _ rfl (s4 _ _ ek))
            refine ⟨.ref pl, rfl, _, _, _, _, rfl, .lst pl (c.map vN), SqL.of i1', fun D hD => ?_⟩
            refine lc_same walk_en (fun j v _ => v = vN (fn c j - m * ks.count j)) (by rw [List.length_map]; omega) hD (fun _ _ _ _ _ e => e) (fun H' s => SqL.of (s _ _ i1')) (fun j x H7 H' kk hj s7 y hkk => ?_) (fun H' acc s7 eD el eE => ?_)
            · obtain ⟨T', rfl, nT, rfl⟩ := y
              have s8 := s7.trans (same_new (o := .tup [.int (j : Nat), (c.map vN).getD j .non]) nT)
              have hjc : j < c.length := by rw [List.length_map] at hj; exact hj
              have ev : (c.map vN).getD j .non = vN (fn c j) := by
                rw [List.getD_eq_getElem?_getD, at_vN (fn_at hjc)]
                rfl
              have hcc : ks.count j ≤ ks.length := List.count_le_length
              have hmj := hm j
              refine ⟨T', _, rfl, SqT.of upd_same, rfl, _, _, rfl, _, _, rfl, rfl, rfl, ?_⟩
              refine ⟨_, rfl, vN m, rfl, .ref kb, rfl, ⟨kb, o, _, rfl, s8 _ _ ekf, oc, od⟩, _, rfl, kb, ks.map zi, (j : Int), rfl, rfl, ?_, (m : Int), ((ks.map zi).count (j : Int) : Nat), rfl, rfl, ?_, (fn c j : Int), (m : Int) * ((ks.map zi).count (j : Int) : Nat), ?_, rfl, hkk _ _ ?_ ?_⟩
              · rw [ints_map]
                exact rdT (s8.tp.rd ekr)
              · rw [count_zi]
                exact .inr ⟨by omega, by omega⟩
              · exact ev
              · exact same_new nT
              · rw [count_zi]
                show V.int ((fn c j : Int) - (m : Int) * (ks.count j : Int)) = V.int ((fn c j - m * ks.count j : Nat) : Int)
                congr 1
                have : ((m * ks.count j : Nat) : Int) = (m : Int) * (ks.count j : Int) := Int.natCast_mul _ _
                omega
            · have e := list_of el eE
              have s9 : Same H H' := s6.trans s7
              refine ⟨.ref D, rfl, vN n, rfl, vN m, rfl, (n : Int), (m : Int), rfl, rfl, _, _, rfl, ?_⟩
              have hD2 : D ≠ p2 := fun z => by rw [z, upd_same] at hD; cases hD
              have res := fin D ((List.range (c.map vN).length).map fun k => fn c k - m * ks.count k) H' z10 z11 s9 (t6.trans s7.tp) hD2 ?_ (s7 _ _ upd_same) (by simp [i4]) (fun k => ?_)
              · rw [← em] at res
                exact res
              · rw [eD, e, List.map_map]
                rfl
              · by_cases hk : k < c.length
                · rw [fn_map (by rw [List.length_map]; exact hk)]
                · rw [fn_ge (by simp; omega), fn_ge (cs := c) (by omega)]
                  omega
          · have hm0 : m = 1 := by omega
            subst hm0
            refine ⟨vN 1, rfl, 1, 1, rfl, rfl, false, no (by omega), ?_⟩
            refine ⟨.ref ac, rfl, vN n, rfl, vN 1, rfl, (n : Int), 1, rfl, rfl, _, _, rfl, ?_⟩
            have hac : ac ≠ p2 := fun z => by rw [z, i2] at fc; cases fc
            have res := fin ac c' _ z10 z11 s6 t6 hac (by rw [upd_ne hac]; exact s5 _ _ (s4 _ _ ec)) upd_same (by omega) (fun k => by have := hc' k; omega)
            rw [← em] at res
            exact res
        · have hn0 : n = 0 := by omega
          subst hn0
          refine ⟨vN 0, rfl, _, 0, rfl, rfl, false, no (by omega), ?_⟩
          refine ⟨s2, pl, _, _, _, _, _, _, _, rfl, ne, c, rs, vs, i1, i2, i3, i4, i5, ?_, ?_, ?_⟩
          · exact i6
          · exact i7
          · rcases i8 with z | z
            · exact z.2
            · omega
    · obtain ⟨s, pl, z5, z6, z7, z8, z9, z10, z11, rfl, ne, c, rs, vs, i1, i2, i3, i4, i5, i6, i7, i8⟩ := p
      refine ⟨.ref p2, rfl, ?_⟩
      rw [hx.1] at i6 i8
      refine q _ rs H' s ⟨p2, vs, rfl, i2, i3⟩ ⟨by omega, i5⟩ ?_
      rw [List.drop_length] at i6
      have ez : expB [] = [] := rfl
      rw [ez] at i6
      have ep : plain (fn c) L [] = [] := rfl
      rw [ep, List.append_nil] at i6
      exact i6.symm
end
end TG
namespace TG
open PySem PySem.Spec PyProof.Rows L2 TGZ
abbrev st_bundles_of : Stmt := topS 40
abbrev N_bundles_of : List Str := ["counts", "course", "found", "left", "index", "turns", "kinds", "times", "letter", "kind", "player"]
theorem sc_bundles_of : FnScope N_bundles_of ["counts", "course"] (C8.fnScope st_bundles_of) := C8.fnScope_by (by decide +kernel)
section
variable {X : Cx}
/-- name = {..} on one line, the name a local -/
theorem ps_setDc {i : Nat} {y : Str} {py : Pos} {kx vx tg iter : Expr} {ifs : List Expr} {scope : Scope} {own : List (Str × Nat)} {pos spos : Pos} {wi : TI} {g : TG} {tt : TT} {tk tv : TE} (hc : X.calm = true) (hN : X.N.Nodup) (hy : X.N[i]? = some y) (hyl : X.env.scope.names.lookup y = some .local)
    (hsw : swapsWith (.DictComp kx vx [⟨tg, iter, ifs, 0⟩] scope pos) (some (.Name y py)) spos.line X.env = pure true) (hi : PI X tg iter wi) (ok : BlkOk X.N X.env.scope scope own)
    (hg : ∀ (s : Shared) (H : Hp) (C : Addr) (cl : List (Str × Addr)) (fp : List Addr), PG (X.blk s H scope (compEnvC scope cl C X.env) fp) tg g) (ht : ∀ (s : Shared) (H : Hp) (C : Addr) (cl : List (Str × Addr)) (fp : List Addr), PTs (X.blk s H scope (compEnvC scope cl C X.env) fp) ifs tt)
    (hk : ∀ (s : Shared) (H : Hp) (C : Addr) (cl : List (Str × Addr)) (fp : List Addr), PE (X.blk s H scope (compEnvC scope cl C X.env) fp) kx tk)
    (he : ∀ (s : Shared) (H : Hp) (C : Addr) (cl : List (Str × Addr)) (fp : List Addr), PE (X.blk s H scope (compEnvC scope cl C X.env) fp) vx tv) (hs : ∀ x, foldedSetIterable iter X.env x = pure x := by intro _; rfl) :
    PS X (.Assign [.Name y py] (.DictComp kx vx [⟨tg, iter, ifs, 0⟩] scope pos) spos) (tAsg (tDc wi g tt tk tv (own.map (·.2))) (gName i)) := by
  refine ⟨fun pins s σ H D I h => ?_⟩
  rw [exec_Assign_Name_used _ _ _ _ hsw]
  refine wpAny_bind (wpAny_standAt (wpAny_bind ?_))
  show wpAny _ X.A (do let _ ← comprehension (.DictComp kx vx [⟨tg, iter, ifs, 0⟩] scope pos) scope X.env (firstIterPos [⟨tg, iter, ifs, 0⟩] pos) newDict false (eval iter X.env) (some (assign (.Name y py) X.env))) _ _ s
  have h : tDc wi g tt tk tv (own.map (·.2)) σ H (fun x H1 => gName i x σ H1 D.nx) := h
  refine wpAny_bind (thn (dc_core (Qf := fun _ s' => SP X pins D .next s') hc hN I hi ok hg ht hk he hs h fun L C s' m H' I' q hn f => ?_) fun _ s' hq => wpAny_pure (wpAny_pure hq))
  show wpAny _ _ (assign (.Name y py) X.env (.ref L)) _ _ _
  refine wpAny_assign_Name (store_ok2 (v := V.ref L) I' hN hy (.inl hyl) rfl (fun s2 I2 ⟨a, sb, ha⟩ => ?_) (.inr hyl))
  obtain ⟨f0, f1, f2, f3, f4, f5⟩ := f
  have haC : C ≠ a := by
    rcases ha with z | z
    · rw [z]; exact f1
    · exact fun e => f4 y a z e.symm
  refine ⟨m, hn.sameBut sb haC, fun h3 sb3 => ?_⟩
  exact ⟨_, H', I2.turned (t' := s2.toks) (fun b o hb e => (sb3.2 b hb).trans e) f0 f1 f3 f4 f5, q⟩
theorem sw_dict {kx vx : Expr} {gs : List Comprehension} {scope : Scope} {pos py : Pos} {y : Str} {l : Nat} {env : Env} (hk : env.scope.kind = .function) (hy : env.scope.names.lookup y = some .local) (hl : (py.line == pos.line) = true)
    (ha : (scope.names.any fun (n, k) => n == y && (k == .local || k == .cell)) = false) : swapsWith (.DictComp kx vx gs scope pos) (some (.Name y py)) l env = pure true := by
  have ky : env.kindOf y = some .local := hy
  have hb : env.blockKind = .function := by unfold Env.blockKind; rw [hk]; rfl
  unfold swapsWith
  simp only [hb, ky, ha, Expr.pos, hl]
  rfl
end
def key (p : Bool) : Key := .inr (txt [p])
theorem key_ne : key true ≠ key false := by decide +kernel
theorem key_A : Str.ofString "A" = txt [true] := by decide +kernel
theorem key_B : Str.ofString "B" = txt [false] := by decide +kernel
theorem count_snoc {Z : List Pk} {j : Nat} {z : Pk} (h : Z[j]? = some z) (x : Pk) : (Z.take (j + 1)).count x = (Z.take j).count x + if x = z then 1 else 0 := by
  rw [take_snoc h, List.count_append, List.count_singleton]
  by_cases e : x = z
  · subst e; simp
  · rw [if_neg e]
    have : (z == x) = false := by simpa using fun q => e q.symm
    rw [this]
    rfl
theorem count_take_le (Z : List Pk) (j : Nat) (x : Pk) : (Z.take j).count x ≤ Z.count x := (List.take_sublist j Z).count_le x
theorem count_rep (Z : List Pk) (x : Pk) : ∀ n : Nat, (List.replicate n Z).flatten.count x = n * Z.count x
  | 0 => by simp
  | n + 1 => by rw [List.replicate_succ, List.flatten_cons, List.count_append, count_rep Z x n, Nat.add_mul, Nat.one_mul, Nat.add_comm]
theorem expR_take {rs : List Row} {i : Nat} {t : List Bool} {ks : List Nat} {n : Nat} (h : rs[i]? = some (t, ks, n)) (x : Pk) : (expR (rs.take (i + 1))).count x = (expR (rs.take i)).count x + n * (t.zip ks).count x := by
  rw [take_snoc h, expR_append, List.count_append]
  congr 1
  have : expR [(t, ks, n)] = (List.replicate n (t.zip ks)).flatten := by simp [expR]
  rw [this, count_rep]
theorem expR_take_le (rs : List Row) (i : Nat) (x : Pk) : (expR (rs.take i)).count x ≤ (expR rs).count x := by
  have h : expR rs = expR (rs.take i) ++ expR (rs.drop i) := by rw [← expR_append, List.take_append_drop]
  rw [h, List.count_append]
  omega
/-- two new bundles at g, what is left at pl: how often F says -/
def BI (K : Nat) (cs : List Nat) (H H' : Hp) (D pl : Addr) (g : Bool → Addr) (kvs : List (Key × V)) (F : Pk → Nat) : Prop :=
  Same H H' ∧ H' D = some (.dK kvs) ∧ ∃ (f : Bool → List Nat) (l : List Nat), (∀ p, H' (g p) = some (.lst ((f p).map vN)) ∧ (f p).length = K ∧ ∀ k, k < K → fn (f p) k = F (p, k)) ∧
    H' pl = some (.lst (l.map vN)) ∧ l.length = K ∧ ∀ k, k < K → fn l k + (F (true, k) + F (false, k)) = fn cs k
theorem BI.cong {K : Nat} {cs : List Nat} {H H' : Hp} {D pl : Addr} {g : Bool → Addr} {kvs : List (Key × V)} {F F' : Pk → Nat} (h : BI K cs H H' D pl g kvs F) (e : ∀ x, F x = F' x) : BI K cs H H' D pl g kvs F' := by
  have : F = F' := funext e
  rw [← this]
  exact h
theorem BI.same {K : Nat} {cs : List Nat} {H H' H2 : Hp} {D pl : Addr} {g : Bool → Addr} {kvs : List (Key × V)} {F : Pk → Nat} (h : BI K cs H H' D pl g kvs F) (s : Same H' H2) : BI K cs H H2 D pl g kvs F := by
  obtain ⟨h1, h2, f, l, h3, h4, h5, h6⟩ := h
  exact ⟨h1.trans s, s _ _ h2, f, l, fun p => ⟨s _ _ (h3 p).1, (h3 p).2⟩, s _ _ h4, h5, h6⟩
section
variable {P : Program} {w : World} {K : PySem.W.Frag} {mg : Str → Option Value} {base : Heap}
def sp_bundles_of : Sp := fun vs H Q _ => ∃ (u v : V) (cs : List Nat) (rs : List Row), vs = [u, v] ∧ TupN H u cs ∧ CrsR H v rs ∧ cs.length ≤ 60 ∧ WC cs.length rs ∧ (∀ k, bag (expR rs) k ≤ fn cs k) ∧
  ∀ v' x y z H', Same H H' → H' v' = some (.tup [x, y, z]) → TupN H' x (bun cs.length true (expR rs)) → TupN H' y (bun cs.length false (expR rs)) → TupN H' z (subl cs (bag (expR rs))) → Q (.ref v') H'
theorem ok_bundles_of (T : Blt K mg) (dF : Df K mg "bundles_of" st_bundles_of ["counts", "course"])  : C8.Cal P w K mg base 1 "bundles_of" sp_bundles_of [] := by
  have nd := sc_bundles_of.nd
  refine cal_of dF sc_bundles_of (fun vs H Q E h => ?_) (fun cdv A outer s H vs Q E hr h => ?_)
  · obtain ⟨u, v, cs, rs, rfl, _⟩ := h
    rfl
  · obtain ⟨u, v, cs, rs, rfl, ⟨a, rfl, ha⟩, ⟨q0, xs, rfl, hq, hx⟩, h60, ⟨h1000, hw⟩, hbag, q⟩ := h
    refine ⟨_, pss_cons (ps_setDc (i := 2) (own := [("player", 10)]) (g := gName 10) (tt := tYes) rfl nd rfl rfl (sw_dict rfl rfl rfl (by decide +kernel)) (pi_tup (C8.pe_gc (by rfl) T.players)) (blkOk_by (N := N_bundles_of) (sc := C8.fnScope st_bundles_of) (by decide +kernel))
        (fun _ _ _ _ _ => pg_name (i := 10) nd rfl (Or.inl rfl)) (fun _ _ _ _ _ => pts_nil) (fun _ _ _ _ _ => pv 10) (fun _ _ _ _ _ => pe_op op_rep (pe_lst (pa_cons (pe_int) pa_nil)) (pe_callB (call_len_seqK (K := K) rfl) (by rfl) T.len_ bb_len (pa_cons (pv 0) pa_nil))))
      (pss_cons (ps_set (i := 3) nd rfl (Or.inl rfl) (pe_callTy call_list_of (by rfl) T.list_ bt_list (pa_cons (pv 0) pa_nil)))
      (pss_cons (ps_for PassesOwn.never rfl (pi_en (by rfl) T.enumerate_ (pa_cons (pv 1) pa_nil)) (pg_tup rfl (pgs_cons (pg_name (i := 4) nd rfl (Or.inl rfl)) (pgs_cons (pg_tup rfl (pgs_cons (pg_name (i := 5) nd rfl (Or.inl rfl)) (pgs_cons (pg_name (i := 6) nd rfl (Or.inl rfl)) (pgs_cons (pg_name (i := 7) nd rfl (Or.inl rfl)) pgs_nil)))) pgs_nil)))
        (pss_one (ps_for PassesOwn.never rfl (pi_zs (by rfl) T.zip_ (pa_cons (pv 5) (pa_cons (pv 6) pa_nil))) (pg_tup rfl (pgs_cons (pg_name (i := 8) nd rfl (Or.inl rfl)) (pgs_cons (pg_name (i := 9) nd rfl (Or.inl rfl)) pgs_nil)))
          (pss_cons (ps_augS (pe_dget (hu_of hr) (pv 2) (pv 8) (fun _ _ => rfl)) (pv 9) get_list (pv 7) ip_add set_list)
          (pss_cons (ps_augS (pv 3) (pv 9) get_list (pv 7) ip_sub set_list)
          (pss_one (ps_if (pt_cmpR op_lt (pe_ix ix_list (pv 3) (pv 9) (fun _ _ => rfl)) (pe_int) (nomark _))
            (pss_never)
            (pss_nil))))))))
      (pss_one (ps_ret (pe_tup (pa_cons (pe_callTy (call_tuple_ofK (K := K) rfl) (by rfl) T.tuple_ bt_tuple (pa_cons (pe_dget (hu_of hr) (pv 2) (pe_str) (fun _ _ => rfl)) pa_nil)) (pa_cons (pe_callTy (call_tuple_ofK (K := K) rfl) (by rfl) T.tuple_ bt_tuple (pa_cons (pe_dget (hu_of hr) (pv 2) (pe_str) (fun _ _ => rfl)) pa_nil)) (pa_cons (pe_callTy (call_tuple_ofK (K := K) rfl) (by rfl) T.tuple_ bt_tuple (pa_cons (pv 3) pa_nil)) pa_nil)))))))), ?_⟩
    refine ⟨T.pa, rfl, ⟨_, T.sq _⟩, fun D hD => ?_⟩
    refine dc_tup (K := K) (a := T.pa) (xs := [ltr true, ltr false]) (fun i H' => Same H H' ∧ ∃ (kvs : List (Key × V)) (g : Bool → Addr), H' D = some (.dK kvs) ∧ kvs.length ≤ i ∧ (∀ p, (pix p < i → valV kvs (key p) = some (.ref (g p)) ∧ H' (g p) = some (.lst ((List.replicate cs.length 0).map vN)) ∧ H (g p) = none) ∧ (i ≤ pix p → valV kvs (key p) = none)) ∧ (1 < i → g true ≠ g false)) ⟨same_new hD, [], fun _ => 0, upd_same, Nat.le_refl _, fun p => ⟨fun h => absurd h (Nat.not_lt_zero _), fun _ => rfl⟩, fun h => absurd h (by decide)⟩ (fun i H' _ p => T.sq _) (fun i x H1 hxi p => ?_) (fun H1 p => ?_)
    · obtain ⟨s, kvs, g, e1, e2, e3, e4⟩ := p
      obtain ⟨p, ep, rfl⟩ : ∃ p, i = pix p ∧ x = ltr p := by
        match i, hxi with
        | 0, h => exact ⟨true, rfl, (Option.some.inj h).symm⟩
        | 1, h => exact ⟨false, rfl, (Option.some.inj h).symm⟩
        | n + 2, h => simp at h
      subst ep
      refine ⟨rfl, ?_⟩
      refine ⟨ltr p, rfl, (show 1 ≤ sizeLine from line (by decide)), fun q1 nq1 => ?_⟩
      have s1 : Same H1 (upd H1 q1 (.lst [.int 0])) := same_new nq1
      refine ⟨.ref a, rfl, a, _, rfl, .inr (SqT.of ((s.trans s1) _ _ ha)), q1, _, [.int 0], rfl, rfl, upd_same, ?_, ?_, ?_, fun q2 nq2 => ?_⟩
      · omega
      · rw [List.length_map]
        omega
      · rw [List.length_map]
        exact line (by simp; omega)
      · have s2 := s1.trans (same_new (o := .lst (List.replicate ((cs.map vN).length : Int).toNat [V.int 0]).flatten) nq2)
        have eD := s2 _ _ e1
        have nq2' : H1 q2 = none := by
          cases e : H1 q2 with
          | none => rfl
          | some o => rw [s1 _ _ e] at nq2; cases nq2
        have nq2D : q2 ≠ D := fun z => by rw [z, e1] at nq2'; cases nq2'
        have nqH : H q2 = none := by
          cases e : H q2 with
          | none => rfl
          | some o => rw [s _ _ e] at nq2'; cases nq2'
        have hDH : H D = none := hD
        have hp2 : pix p < 2 := by cases p <;> decide
        refine ⟨kvs, key p, rfl, eD, lineL (by omega), (s.trans s2).app hDH, putK kvs (key p) (.ref q2), fun r => if r = p then q2 else g r, upd_same, ?_, fun r => ⟨fun hr => ?_, fun hr => ?_⟩, fun h1 => ?_⟩
        · rw [putK_new _ ((e3 p).2 (Nat.le_refl _)), List.length_append]
          exact Nat.succ_le_succ e2
        · rw [valV_put]
          by_cases hrp : r = p
          · subst hrp
            dsimp only
            rw [if_pos rfl, if_pos rfl]
            refine ⟨rfl, ?_, nqH⟩
            rw [upd_ne nq2D, upd_same]
            congr 1
            simp
            exact .inr rfl
          · have hk : ¬ key r = key p := fun z => by
              cases r <;> cases p <;> first | exact hrp rfl | exact key_ne z | exact key_ne z.symm
            dsimp only
            rw [if_neg hk, if_neg hrp]
            have hlt : pix r < pix p := by
              cases r <;> cases p <;> first | exact absurd rfl hrp | exact Nat.zero_lt_one | exact absurd hr (by decide)
            obtain ⟨k1, k2, k3⟩ := (e3 r).1 hlt
            have : g r ≠ D := fun z => by rw [z, e1] at k2; cases k2
            exact ⟨k1, by rw [upd_ne this]; exact s2 _ _ k2, k3⟩
        · have hk : ¬ key r = key p := fun z => by
            cases r <;> cases p <;> first | exact absurd hr (by decide) | exact key_ne z | exact key_ne z.symm
          rw [valV_put, if_neg hk]
          exact (e3 r).2 (by omega)
        · have hp1 : p = false := by
            cases p with
            | true => exact absurd h1 (by decide)
            | false => rfl
          subst hp1
          obtain ⟨k1, k2, k3⟩ := (e3 true).1 (by decide)
          show (if true = false then q2 else g true) ≠ (if false = false then q2 else g false)
          rw [if_neg (by decide), if_pos rfl]
          intro z
          rw [z, nq2'] at k2
          cases k2
    · obtain ⟨s, kvs, g, e1, e2, e3, e4⟩ := p
      have hg : g true ≠ g false := e4 (by decide)
      have hv : ∀ p, valV kvs (key p) = some (.ref (g p)) := fun p => ((e3 p).1 (by cases p <;> decide)).1
      have hz : ∀ p, H1 (g p) = some (.lst ((List.replicate cs.length 0).map vN)) := fun p => ((e3 p).1 (by cases p <;> decide)).2.1
      have hn : ∀ p, H (g p) = none := fun p => ((e3 p).1 (by cases p <;> decide)).2.2
      refine ⟨.ref a, rfl, a, _, rfl, .inr (SqT.of (s _ _ ha)), fun pl npl => ?_⟩
      have s1 : Same H1 (upd H1 pl (.lst (cs.map vN))) := same_new npl
      have hpg : ∀ p, pl ≠ g p := fun p z => by rw [z, hz p] at npl; cases npl
      have npl0 : H pl = none := by
        cases e : H pl with
        | none => rfl
        | some o => rw [s _ _ e] at npl; cases npl
      refine ⟨.ref q0, rfl, _, _, _, _, rfl, .lst q0 xs, SqL.of ((s.trans s1) _ _ hq), ?_⟩
      refine for_it walk_en (fun i σ H' => BI cs.length cs H H' D pl g kvs (fun x => (expR (rs.take i)).count x) ∧ ∃ z4 z5 z6 z7 z8 z9 z10, σ = [some (.ref a), some (.ref q0), some (.ref D), some (.ref pl), z4, z5, z6, z7, z8, z9, z10]) ⟨⟨s.trans s1, s1 _ _ e1, fun _ => List.replicate cs.length 0, cs, fun p => ⟨s1 _ _ (hz p), by simp, fun k hk => ?_⟩, upd_same, rfl, fun k hk => ?_⟩, _, _, _, _, _, _, _, rfl⟩ (fun i σ H' _ p => SqL.of (p.1.1 _ _ hq)) (fun i x σ H2 H' hi p y => ?_) (fun σ H' p => ?_)
      · rw [fn_lt (by simpa using hk)]
        simp [expR]
      · simp [expR]
      · obtain ⟨bi, z4, z5, z6, z7, z8, z9, z10, rfl⟩ := p
        obtain ⟨T', rfl, nT, rfl⟩ := y
        have ex : xs[i]? = some (xs.getD i .non) := by rw [List.getD_eq_getElem?_getD, List.getElem?_eq_getElem hi]; rfl
        obtain ⟨⟨t, ks, n⟩, er, rr⟩ := hx.getV ex
        have sT := same_new (o := .tup [.int (i : Nat), xs.getD i .non]) nT
        have bi' := bi.same sT
        obtain ⟨ra, kb, era, hra0, hkb0⟩ := rr
        have hkb0 : Rd H kb (.tup (ks.map vN)) := hkb0
        have hra := bi'.1 _ _ hra0
        have hkb := bi'.1.tp.rd hkb0
        obtain ⟨w1, w2, w3, w4, w5⟩ := hw _ (List.mem_of_getElem? er)
        have w3 : ks.length = t.length := w3
        have w2 : t.length ≤ 20 := w2
        have w4 : ∀ k ∈ ks, k < cs.length := w4
        rw [era]
        rw [era] at bi' hra hkb
        refine ⟨T', _, rfl, SqT.of upd_same, rfl, _, _, rfl, _, _, rfl, ra, _, rfl, SqT.of hra, rfl, _, _, rfl, _, _, rfl, _, _, rfl, rfl, rfl, ?_⟩
        have wt : Wv K (.ref kb) (txt t).cps.size (fun i => (ks.map vN).getD i .non) (fun H => SqT K H kb (ks.map vN)) := by
          have := Wv.tup (K := K) kb (ks.map vN)
          rw [List.length_map, w3, ← txt_size t] at this
          exact this
        refine ⟨.str (txt t), rfl, .ref kb, rfl, _, _, _, _, _, _, _, rfl, .txt (txt t), wt, trivial, rdT (K := K) hkb, ?_⟩
        · have htot : ∀ k, (expR (rs.take i)).count (true, k) + (expR (rs.take i)).count (false, k) + n * ((t.zip ks).count (true, k) + (t.zip ks).count (false, k)) ≤ fn cs k := fun k => by
            have h1 := expR_take_le rs (i + 1) (true, k)
            have h2 := expR_take_le rs (i + 1) (false, k)
            rw [expR_take er] at h1 h2
            have h3 := hbag k
            rw [bag_count] at h3
            rw [Nat.mul_add]
            omega
          refine for_it walk_zs (fun j σ H' => BI cs.length cs H H' D pl g kvs (fun x => (expR (rs.take i)).count x + n * ((t.zip ks).take j).count x) ∧ ∃ z8 z9, σ = [some (.ref a), some (.ref q0), some (.ref D), some (.ref pl), some (.int (i : Nat)), some (.str (txt t)), some (.ref kb), some (vN n), z8, z9, z10]) ⟨bi'.cong fun x => by simp, _, _, rfl⟩ (fun j σ H' _ p => ⟨trivial, rdT (p.1.1.tp.rd hkb0)⟩) (fun j x σ H3 H' hj p y => ?_) (fun σ H' p => ?_)
          · obtain ⟨bj, z8', z9', rfl⟩ := p
            obtain ⟨T2, rfl, nT2, rfl⟩ := y
            have bj2 := bj.same (same_new (o := .tup [.str ⟨#[(txt t).cps.getD j 0]⟩, (ks.map vN).getD j .non]) nT2)
            rw [txt_size] at hj
            have hjk : j < ks.length := by omega
            have ev1 : V.str ⟨#[(txt t).cps.getD j 0]⟩ = ltr t[j] := by
              have hc : (txt t).cps[j]? = some ((txt t).cps.getD j 0) := by
                rw [Array.getD_eq_getD_getElem?, Array.getElem?_eq_getElem (by rw [txt_size]; exact hj)]
                rfl
              obtain ⟨b, hb, eb⟩ := txt_at hc
              rw [eb, List.getElem?_eq_getElem hj] at *
              cases hb
              rfl
            have ev2 : (ks.map vN).getD j .non = vN ks[j] := by
              rw [List.getD_eq_getElem?_getD, at_vN (List.getElem?_eq_getElem hjk)]
              rfl
            have hZ : (t.zip ks)[j]? = some (t[j], ks[j]) := by
              rw [List.getElem?_zip_eq_some]
              exact ⟨List.getElem?_eq_getElem hj, List.getElem?_eq_getElem hjk⟩
            rw [ev1, ev2] at bj2 ⊢
            generalize hb0 : t[j] = b at *
            generalize hk0 : ks[j] = k at *
            have hkK : k < cs.length := w4 k (by rw [← hk0]; exact List.getElem_mem _)
            obtain ⟨s3, eD, f, l, hf, hl, ll, hbal⟩ := bj2
            obtain ⟨hfb, lfb, cfb⟩ := hf b
            have hle1 := count_take_le (t.zip ks) (j + 1) (true, k)
            have hle2 := count_take_le (t.zip ks) (j + 1) (false, k)
            have hsn1 := count_snoc hZ (true, k)
            have hsn2 := count_snoc hZ (false, k)
            refine ⟨T2, _, rfl, SqT.of upd_same, rfl, _, _, rfl, _, _, rfl, rfl, ?_⟩
            have hdg : ∀ Hx : Hp, Hx D = some (.dK kvs) → ∀ p, DGet Hx D (ltr p) (some (.ref (g p))) := fun Hx e p => by
              have := DGet.k (k := key p) e
              rw [hv p] at this
              exact this
            have hF' : ∀ x, (expR (rs.take i)).count x + n * ((t.zip ks).take (j + 1)).count x = (expR (rs.take i)).count x + n * ((t.zip ks).take j).count x + if x = (b, k) then n else 0 := fun x => by
              rw [count_snoc hZ, Nat.mul_add]
              split <;> simp <;> omega
            have hFle : (expR (rs.take i)).count (true, k) + n * ((t.zip ks).take (j + 1)).count (true, k) + ((expR (rs.take i)).count (false, k) + n * ((t.zip ks).take (j + 1)).count (false, k)) ≤ fn cs k := by
              have h1 := htot k
              have h2 := Nat.mul_le_mul_left n hle1
              have h3 := Nat.mul_le_mul_left n hle2
              rw [Nat.mul_add] at h1
              omega
            have hone : (if (true, k) = (b, k) then n else 0) + (if (false, k) = (b, k) then n else 0) = n := by cases b <;> simp
            have hbk := hbal k hkK
            dsimp only at hbk
            have hnl : n ≤ fn l k := by
              rw [hF', hF'] at hFle
              omega
            have hgb : ∀ p, p ≠ b → g p ≠ g b := fun p hp z => by
              cases p <;> cases b <;> first | exact hp rfl | exact hg z | exact hg z.symm
            generalize hH4 : upd H3 T2 (.tup [ltr b, vN k]) = H4 at *
            refine ⟨.ref D, rfl, ltr b, rfl, D, .ref (g b), rfl, hdg _ eD b, vN k, rfl, g b, _, (k : Int), vN (fn (f b) k), rfl, rfl, SqL.of hfb, atI_nat (at_vN (fn_at (by omega))), vN n, rfl, (fn (f b) k : Int), (n : Int), rfl, rfl, g b, _, (k : Int), k, rfl, rfl, hfb, ?_, ?_⟩
            · rw [List.length_map]
              exact ix_nat (by omega)
            have eset : ((f b).map vN).set k (.int ((fn (f b) k : Int) + (n : Int))) = ((f b).set k (fn (f b) k + n)).map vN := by
              rw [List.map_set]
              rfl
            rw [eset]
            have s4 : Same H (upd H4 (g b) (.lst (((f b).set k (fn (f b) k + n)).map vN))) := s3.app (hn b)
            have hl4 : upd H4 (g b) (.lst (((f b).set k (fn (f b) k + n)).map vN)) pl = some (.lst (l.map vN)) := by rw [upd_ne (hpg b)]; exact hl
            refine ⟨.ref pl, rfl, vN k, rfl, pl, _, (k : Int), vN (fn l k), rfl, rfl, SqL.of hl4, atI_nat (at_vN (fn_at (by omega))), vN n, rfl, (fn l k : Int), (n : Int), rfl, rfl, pl, _, (k : Int), k, rfl, rfl, hl4, ?_, ?_⟩
            · rw [List.length_map]
              exact ix_nat (by omega)
            have eset2 : (l.map vN).set k (.int ((fn l k : Int) - (n : Int))) = (l.set k (fn l k - n)).map vN := by
              rw [List.map_set]
              congr 1
              unfold vN
              congr 1
              omega
            rw [eset2]
            have hfin : BI cs.length cs H (upd (upd H4 (g b) (.lst (((f b).set k (fn (f b) k + n)).map vN))) pl (.lst ((l.set k (fn l k - n)).map vN))) D pl g kvs (fun x => (expR (rs.take i)).count x + n * ((t.zip ks).take (j + 1)).count x) := by
              refine ⟨s4.app npl0, ?_, fun p => if p = b then (f b).set k (fn (f b) k + n) else f p, l.set k (fn l k - n), fun p => ?_, upd_same, by rw [List.length_set]; exact ll, fun x hx => ?_⟩
              · have d1 : D ≠ pl := fun z => by rw [z, hl] at eD; cases eD
                have d2 : D ≠ g b := fun z => by rw [z, hfb] at eD; cases eD
                rw [upd_ne d1, upd_ne d2]
                exact eD
              · obtain ⟨y1, y2, y3⟩ := hf p
                dsimp only
                by_cases hp : p = b
                · subst hp
                  rw [if_pos rfl, upd_ne (hpg p).symm, upd_same]
                  refine ⟨rfl, by rw [List.length_set]; exact y2, fun x hx => ?_⟩
                  rw [fn_set (by omega), hF' (p, x)]
                  by_cases hxk : x = k
                  · subst hxk
                    rw [if_pos rfl, if_pos rfl, y3 x hx]
                  · have : ¬ (p, x) = (p, k) := fun z => hxk (Prod.mk.inj z).2
                    rw [if_neg hxk, if_neg this, y3 x hx]
                    rfl
                · rw [if_neg hp, upd_ne (hpg p).symm, upd_ne (hgb p hp)]
                  refine ⟨y1, y2, fun x hx => ?_⟩
                  have : ¬ (p, x) = (b, k) := fun z => hp (Prod.mk.inj z).1
                  rw [hF' (p, x), if_neg this, y3 x hx]
                  rfl
              · have hbx := hbal x hx
                dsimp only at hbx ⊢
                rw [hF' (true, x), hF' (false, x), fn_set (by omega)]
                by_cases hxk : x = k
                · subst hxk
                  rw [if_pos rfl]
                  omega
                · have h1 : ¬ (true, x) = (b, k) := fun z => hxk (Prod.mk.inj z).2
                  have h2 : ¬ (false, x) = (b, k) := fun z => hxk (Prod.mk.inj z).2
                  rw [if_neg hxk, if_neg h1, if_neg h2]
                  exact hbx
            refine ⟨.ref pl, rfl, vN k, rfl, pl, _, (k : Int), vN (fn l k - n), rfl, rfl, SqL.of upd_same, ?_, ((fn l k - n : Nat) : Int), 0, rfl, rfl, false, no (by omega), ?_⟩
            · refine atI_nat (at_vN ?_)
              rw [List.getElem?_set]
              have : k < l.length := by omega
              simp [this]
            · exact ⟨hfin, _, _, rfl⟩
          · obtain ⟨bj, z8', z9', rfl⟩ := p
            refine ⟨bj.cong fun x => ?_, _, _, _, _, _, _, _, rfl⟩
            rw [expR_take er, txt_size]
            have : (t.zip ks).length = t.length := by rw [List.length_zip]; omega
            rw [← this, List.take_length]
      · obtain ⟨⟨s3, eD, f, l, hf, hl, ll, hbal⟩, z4, z5, z6, z7, z8, z9, z10, rfl⟩ := p
        rw [hx.1, List.take_length] at hf hbal
        have hdg : ∀ Hx : Hp, Hx D = some (.dK kvs) → ∀ p, DGet Hx D (ltr p) (some (.ref (g p))) := fun Hx e p => by
          have := DGet.k (k := key p) e
          rw [hv p] at this
          exact this
        have hA : ∀ Hx, DGet Hx D (ltr true) (some (.ref (g true))) → DGet Hx D (.str (Str.ofString "A")) (some (.ref (g true))) := fun Hx h => by
          rw [key_A]
          exact h
        have hB : ∀ Hx, DGet Hx D (ltr false) (some (.ref (g false))) → DGet Hx D (.str (Str.ofString "B")) (some (.ref (g false))) := fun Hx h => by
          rw [key_B]
          exact h
        refine ⟨.ref D, rfl, D, .ref (g true), rfl, hA _ (hdg _ eD true), g true, _, rfl, .inl ⟨SqL.of (hf true).1, fun x1 nx1 => ?_⟩⟩
        have t1 : Same H' (upd H' x1 (.tup ((f true).map vN))) := same_new nx1
        refine ⟨.ref D, rfl, D, .ref (g false), rfl, hB _ (hdg _ (t1 _ _ eD) false), g false, _, rfl, .inl ⟨SqL.of (t1 _ _ (hf false).1), fun x2 nx2 => ?_⟩⟩
        have t2 := same_new (o := .tup ((f false).map vN)) nx2
        refine ⟨.ref pl, rfl, pl, _, rfl, .inl ⟨SqL.of ((t1.trans t2) _ _ hl), fun x3 nx3 => ?_⟩⟩
        have t3 := same_new (o := .tup (l.map vN)) nx3
        refine ⟨(show 3 ≤ sizeLine from line (by decide)), fun v' nv' => ?_⟩
        have t4 := same_new (o := .tup [.ref x1, .ref x2, .ref x3]) nv'
        have eb : ∀ p, f p = bun cs.length p (expR rs) := fun p => by
          obtain ⟨y1, y2, y3⟩ := hf p
          refine list_ext (by rw [y2, bun_len]) fun k => ?_
          by_cases hk : k < cs.length
          · rw [y3 k hk, fn_bun hk]
          · rw [fn_ge (by omega), fn_ge (by rw [bun_len]; omega)]
        refine q v' _ _ _ _ ((((s3.trans t1).trans t2).trans t3).trans t4) upd_same ⟨x1, rfl, ?_⟩ ⟨x2, rfl, ?_⟩ ⟨x3, rfl, ?_⟩
        · rw [← eb true]
          exact ((t2.trans t3).trans t4) _ _ upd_same
        · rw [← eb false]
          exact (t3.trans t4) _ _ upd_same
        · have el : subl cs (bag (expR rs)) = l := by
            refine list_ext (by rw [subl_len, ll]) fun k => ?_
            rw [fn_subl]
            by_cases hk : k < cs.length
            · have := hbal k hk
              dsimp only at this
              rw [bag_count]
              omega
            · rw [fn_ge (by omega), fn_ge (cs := l) (by omega)]
              omega
          rw [el]
          exact t4 _ _ upd_same
end
end TG
namespace TG
open PySem PySem.Spec PyProof.Rows L2 TGZ
abbrev st_plain_game : Stmt := topS 42
abbrev N_plain_game : List Str := ["counts", "lists", "sequence"]
theorem sc_plain_game : FnScope N_plain_game ["counts", "lists", "sequence"] (C8.fnScope st_plain_game) := C8.fnScope_by (by decide +kernel)
abbrev st_play_course : Stmt := topS 43
abbrev N_play_course : List Str := ["counts", "course"]
theorem sc_play_course : FnScope N_play_course ["counts", "course"] (C8.fnScope st_play_course) := C8.fnScope_by (by decide +kernel)
abbrev st_turned_rows : Stmt := topS 47
abbrev N_turned_rows : List Str := ["counts", "lists", "blocks", "backwards", "turns", "times"]
theorem sc_turned_rows : FnScope N_turned_rows ["counts", "lists", "blocks"] (C8.fnScope st_turned_rows) := C8.fnScope_by (by decide +kernel)
abbrev st_end_bundles : Stmt := topS 48
abbrev N_end_bundles : List Str := ["counts", "lists", "blocks"]
theorem sc_end_bundles : FnScope N_end_bundles ["counts", "lists", "blocks"] (C8.fnScope st_end_bundles) := C8.fnScope_by (by decide +kernel)
abbrev st_end_of : Stmt := topS 49
abbrev N_end_of : List Str := ["counts", "lists", "sequence"]
theorem sc_end_of : FnScope N_end_of ["counts", "lists", "sequence"] (C8.fnScope st_end_of) := C8.fnScope_by (by decide +kernel)
abbrev st_end_course : Stmt := topS 50
abbrev N_end_course : List Str := ["counts", "lists", "sequence", "rows", "turns", "kinds", "times"]
theorem sc_end_course : FnScope N_end_course ["counts", "lists", "sequence"] (C8.fnScope st_end_course) := C8.fnScope_by (by decide +kernel)
abbrev st_turned : Stmt := topS 54
abbrev N_turned : List Str := ["counts", "lists", "sequence"]
theorem sc_turned : FnScope N_turned ["counts", "lists", "sequence"] (C8.fnScope st_turned) := C8.fnScope_by (by decide +kernel)
abbrev st_with_item : Stmt := topS 52
abbrev N_with_item : List Str := ["bundle", "kind", "number"]
theorem sc_with_item : FnScope N_with_item ["bundle", "kind", "number"] (C8.fnScope st_with_item) := C8.fnScope_by (by decide +kernel)
theorem cut_hi (xs : List V) (k : Nat) : cutV xs none (some (k : Int)) = xs.take k := by
  unfold cutV
  rw [HT.sIx_none, HT.sIx_nat, List.drop_zero, Nat.sub_zero]
  by_cases h : k ≤ xs.length
  · rw [Nat.min_eq_left h]
  · rw [Nat.min_eq_right (by omega), List.take_length, List.take_of_length_le (by omega)]
theorem cut_lo (xs : List V) (k : Nat) : cutV xs (some (k : Int)) none = xs.drop k := by
  unfold cutV
  rw [HT.sIx_none, HT.sIx_nat]
  by_cases h : k ≤ xs.length
  · rw [Nat.min_eq_left h, List.take_of_length_le (by rw [List.length_drop]; omega)]
  · rw [Nat.min_eq_right (by omega), Nat.sub_self, List.take_zero, List.drop_of_length_le (by omega)]
theorem cut_mid (xs : List V) (j k : Nat) : cutV xs (some (j : Int)) (some (k : Int)) = (xs.drop j).take (k - j) := by
  unfold cutV
  rw [HT.sIx_nat, HT.sIx_nat]
  by_cases h : j ≤ xs.length
  · rw [Nat.min_eq_left h]
    by_cases h2 : k ≤ xs.length
    · rw [Nat.min_eq_left h2]
    · rw [Nat.min_eq_right (by omega), List.take_of_length_le (by rw [List.length_drop]; omega), List.take_of_length_le (by rw [List.length_drop]; omega)]
  · rw [Nat.min_eq_right (a := j) (by omega), List.drop_of_length_le (by omega), List.drop_of_length_le (i := j) (by omega)]
    simp
theorem cutS_hi (t : List Bool) (k : Nat) : cutS (txt t) none (some (k : Int)) = txt (t.take k) := by
  unfold cutS
  rw [HT.sIx_none, HT.sIx_nat, List.drop_zero, Nat.sub_zero, txt_len]
  unfold txt
  congr 2
  rw [List.map_take]
  by_cases h : k ≤ t.length
  · rw [Nat.min_eq_left h]
  · rw [Nat.min_eq_right (by omega), List.take_of_length_le (by simp), List.take_of_length_le (by simp; omega)]
theorem cutS_lo (t : List Bool) (k : Nat) : cutS (txt t) (some (k : Int)) none = txt (t.drop k) := by
  unfold cutS
  rw [HT.sIx_none, HT.sIx_nat, txt_len]
  unfold txt
  congr 2
  rw [List.map_drop]
  by_cases h : k ≤ t.length
  · rw [Nat.min_eq_left h, List.take_of_length_le (by simp)]
  · rw [Nat.min_eq_right (by omega), Nat.sub_self, List.take_zero, List.drop_of_length_le (by simp; omega)]
section
variable {K : PySem.W.Frag} {H : Hp} {a b : Addr} {xs ys : List V} {Q : VK}
theorem slA {lo hi : Option Int} (ha : H a = some (.tup xs)) (q : ∀ c H', Same H H' → H' c = some (.tup (cutV xs lo hi)) → Q (.ref c) H') : rSlA K (.ref a) lo hi H Q := by
  refine ⟨a, xs, rfl, SqT.of ha, fun h => q a H (Same.refl _) ?_, fun _ p hp => q p _ (same_new hp) upd_same⟩
  have : cutV xs lo hi = xs := by
    unfold cutV
    rw [h.1, h.2, List.drop_zero, Nat.sub_zero, List.take_length]
  rw [this]
  exact ha
/-- of a thing that may be known as the object that it is -/
theorem slR {lo hi : Option Int} (ha : Rd H a (.tup xs)) (q : ∀ c H', Same H H' → Rd H' c (.tup (cutV xs lo hi)) → Q (.ref c) H') : rSlA K (.ref a) lo hi H Q := by
  refine ⟨a, xs, rfl, rdT ha, fun h => q a H (Same.refl _) ?_, fun _ p hp => q p _ (same_new hp) (.inl upd_same)⟩
  have : cutV xs lo hi = xs := by
    unfold cutV
    rw [h.1, h.2, List.drop_zero, Nat.sub_zero, List.take_length]
  rw [this]
  exact ha
theorem catA (ha : H a = some (.tup xs)) (hb : H b = some (.tup ys)) (hz : xs.length + ys.length ≤ 1000000) (q : ∀ c H', Same H H' → H' c = some (.tup (xs ++ ys)) → Q (.ref c) H') : rCatA K (.ref a) (.ref b) H Q := by
  refine ⟨a, b, xs, ys, rfl, rfl, SqT.of ha, SqT.of hb, line hz, fun e => q b H (Same.refl _) ?_, fun _ e => q a H (Same.refl _) ?_, fun _ _ p hp => q p _ (same_new hp) upd_same⟩
  · rw [e, List.nil_append]; exact hb
  · rw [e, List.append_nil]; exact ha
end
theorem set_cut {α : Type} {xs : List α} {k : Nat} {x : α} (h : k < xs.length) : xs.set k x = xs.take k ++ [x] ++ xs.drop (k + 1) := by
  rw [List.set_eq_take_append_cons_drop, if_pos h]
  simp
/-- the two bundles at the end -/
def endL (cs : List Nat) (L : Bool → List Nat) (T : List Bool) : Bool → List Nat := fun p => bun cs.length p (E cs L T)
section
variable {P : Program} {w : World} {K : PySem.W.Frag} {mg : Str → Option Value} {base : Heap}
def sp_turned_rows : Sp := fun vs H Q _ => ∃ (u l v : V) (cs : List Nat) (L : Bool → List Nat) (bs : List Blk), vs = [u, l, v] ∧ TupN H u cs ∧ LsR H l L ∧ SeqR H v bs ∧ cs.length ≤ 60 ∧ WL cs.length L ∧ WS2 bs ∧ lenB bs ≤ cs.sum ∧
  ∀ v' rs H', Same H H' → CrsR H' v' rs → WC cs.length rs → expR rs = E cs L (expB bs) → Q v' H'
theorem lenB_rev (bs : List Blk) : lenB (revB bs) = lenB bs := by
  rw [← expB_len, expB_rev, List.length_reverse, expB_len]
theorem ok_turned_rows (T : Blt K mg) (dF : Df K mg "turned_rows" st_turned_rows ["counts", "lists", "blocks"]) (c_plain_rows : C8.Cal P w K mg base 3 "plain_rows" sp_plain_rows []) (c_turned_lists : C8.Cal P w K mg base 1 "turned_lists" sp_turned_lists []) : C8.Cal P w K mg base 4 "turned_rows" sp_turned_rows [] := by
  have nd := sc_turned_rows.nd
  refine cal_of dF sc_turned_rows (fun vs H Q E h => ?_) (fun cdv A outer s H vs Q E hr h => ?_)
  · obtain ⟨u, l, v, cs, L, bs, rfl, _⟩ := h
    rfl
  · obtain ⟨u, l, v, cs, L, bs, rfl, hu, hl, ⟨a, xs, rfl, ha, hb⟩, h60, hL, hw, hsum, q⟩ := h
    refine ⟨_, pss_cons (ps_setLc (i := 3) (own := [("turns", 4), ("times", 5)]) (g := gTup K 2 (gCons (gName 4) (gCons (gName 5) gNil))) (tt := tYes) rfl nd rfl rfl (sw_true rfl rfl rfl (by decide +kernel)) (pi_reversed (by rfl) T.reversed_ (pa_cons (pv 2) pa_nil)) (blkOk_by (N := N_turned_rows) (sc := C8.fnScope st_turned_rows) (by decide +kernel))
        (fun _ _ _ _ _ => pg_tup rfl (pgs_cons (pg_name (i := 4) nd rfl (Or.inl rfl)) (pgs_cons (pg_name (i := 5) nd rfl (Or.inl rfl)) pgs_nil))) (fun _ _ _ _ _ => pts_nil)
        (fun _ _ _ _ _ => pe_tup (pa_cons (pe_revS (pv 4)) (pa_cons (pv 5) pa_nil))))
      (pss_one (ps_ret (C8.pe_c c_plain_rows hr (by decide) (by rfl) (pa_cons (pv 0) (pa_cons (C8.pe_c c_turned_lists hr (by decide) (by rfl) (pa_cons (pv 1) pa_nil)) (pa_cons (pv 3) pa_nil)))))), ?_⟩
    refine ⟨.ref a, rfl, a, xs, rfl, SqL.of ha, fun D hD => ?_⟩
    refine lc_same (walk_rev (K := K) (a := a) (xs := xs)) (fun i v H => ∃ b, (revB bs)[i]? = some b ∧ BlkR H v b) (by rw [hb.1]; have := hw.1; omega) hD (fun _ _ _ _ t ⟨b, e, r⟩ => ⟨b, e, r.tp t⟩) (fun H' s => SqL.of (s _ _ ha)) (fun i x H2 H' kk hi s y hkk => ?_) (fun H' acc s eD el eE => ?_)
    · obtain ⟨rfl, hx⟩ := y
      obtain ⟨b, eb, rb⟩ := hb.getV hx
      obtain ⟨c, rfl, hc⟩ := rb.mono s
      obtain ⟨h1, h2, h3⟩ := hw.2 b (List.mem_of_getElem? eb)
      rw [hb.1] at hi eb
      refine ⟨c, _, rfl, SqT.of hc, rfl, _, _, rfl, _, _, rfl, rfl, rfl, ?_⟩
      refine ⟨_, rfl, txt b.1, rfl, line (by rw [txt_len]; omega), _, rfl, (show 2 ≤ sizeLine from line (by decide)), fun p hp => ?_⟩
      refine hkk _ _ (same_new hp) ⟨_, revB_at hi eb, p, rfl, ?_⟩
      rw [upd_same, revS_txt]
    · have hs : SeqR H' (.ref D) (revB bs) := ⟨D, acc, rfl, eD, all2_of (by rw [el, revB_len, hb.1]) eE⟩
      refine ⟨u, rfl, l, rfl, l, L, rfl, hl.mono s, fun l' H1 s1 hl' => ?_⟩
      refine ⟨.ref D, rfl, u, l', .ref D, cs, tl L, revB bs, rfl, hu.mono (s.trans s1), hl', hs.mono s1, h60, wl_tl hL, hw.rev, by rw [lenB_rev]; exact hsum, fun v' rs H2 s2 hr hwc he => ?_⟩
      refine q v' rs H2 ((s.trans s1).trans s2) hr hwc ?_
      rw [he, expB_rev]
      rfl
def sp_end_bundles : Sp := fun vs H Q _ => ∃ (u l v : V) (cs : List Nat) (L : Bool → List Nat) (bs : List Blk), vs = [u, l, v] ∧ TupN H u cs ∧ LsR H l L ∧ SeqR H v bs ∧ cs.length ≤ 60 ∧ WL cs.length L ∧ WS2 bs ∧ lenB bs ≤ cs.sum ∧
  ∀ v' H', Same H H' → LsR H' v' (endL cs L (expB bs)) → Q v' H'
theorem ok_end_bundles (T : Blt K mg) (dF : Df K mg "end_bundles" st_end_bundles ["counts", "lists", "blocks"]) (c_bundles_of : C8.Cal P w K mg base 1 "bundles_of" sp_bundles_of []) (c_turned_rows : C8.Cal P w K mg base 4 "turned_rows" sp_turned_rows []) : C8.Cal P w K mg base 5 "end_bundles" sp_end_bundles [] := by
  have nd := sc_end_bundles.nd
  refine cal_of dF sc_end_bundles (fun vs H Q E h => ?_) (fun cdv A outer s H vs Q E hr h => ?_)
  · obtain ⟨u, l, v, cs, L, bs, rfl, _⟩ := h
    rfl
  · obtain ⟨u, l, v, cs, L, bs, rfl, hu, hl, hv, h60, hL, hw, hsum, q⟩ := h
    refine ⟨_, pss_one (ps_ret (pe_slice sl_tupA (C8.pe_c c_bundles_of hr (by decide) (by rfl) (pa_cons (pv 0) (pa_cons (C8.pe_c c_turned_rows hr (by decide) (by rfl) (pa_cons (pv 0) (pa_cons (pv 1) (pa_cons (pv 2) pa_nil)))) pa_nil))) po_none (po_some (pe_int)))), ?_⟩
    refine ⟨u, rfl, u, rfl, l, rfl, v, rfl, u, l, v, cs, L, bs, rfl, hu, hl, hv, h60, hL, hw, hsum, fun r rs H1 s1 hr hwc he => ?_⟩
    refine ⟨u, r, cs, rs, rfl, hu.mono s1, hr, h60, hwc, fun k => by rw [he]; exact plain_bag_le _ _ _ k, fun v' x y z H2 s2 hv' hx hy hz => ?_⟩
    rw [he] at hx hy
    refine ⟨2, rfl, ?_⟩
    refine slA hv' fun c H3 s3 hc => ?_
    refine q _ H3 ((s1.trans s2).trans s3) ⟨c, x, y, rfl, hc, hx.mono s3, hy.mono s3⟩
def sp_end_of : Sp := fun vs H Q _ => ∃ (u l v : V) (cs : List Nat) (L : Bool → List Nat) (bs : List Blk), vs = [u, l, v] ∧ TupN H u cs ∧ LsR H l L ∧ SeqR H v bs ∧ cs.length ≤ 60 ∧ WL cs.length L ∧ WS bs ∧ lenB bs = cs.sum ∧
  ∀ v' H', Same H H' → LsR H' v' (endL cs L (expB bs)) → Q v' H'
theorem ok_end_of (T : Blt K mg) (dF : Df K mg "end_of" st_end_of ["counts", "lists", "sequence"]) (c_require_whole : C8.Cal P w K mg base 6 "require_whole" sp_require_whole []) (c_end_bundles : C8.Cal P w K mg base 5 "end_bundles" sp_end_bundles []) : C8.Cal P w K mg base 7 "end_of" sp_end_of [] := by
  have nd := sc_end_of.nd
  refine cal_of dF sc_end_of (fun vs H Q E h => ?_) (fun cdv A outer s H vs Q E hr h => ?_)
  · obtain ⟨u, l, v, cs, L, bs, rfl, _⟩ := h
    rfl
  · obtain ⟨u, l, v, cs, L, bs, rfl, hu, hl, hv, h60, hL, hw, hsum, q⟩ := h
    refine ⟨_, pss_cons (ps_expr (C8.pe_c c_require_whole hr (by decide) (by rfl) (pa_cons (pv 0) (pa_cons (pv 1) (pa_cons (pv 2) pa_nil)))))
      (pss_one (ps_ret (C8.pe_c c_end_bundles hr (by decide) (by rfl) (pa_cons (pv 0) (pa_cons (pv 1) (pa_cons (pv 2) pa_nil)))))), ?_⟩
    refine ⟨u, rfl, l, rfl, v, rfl, u, l, v, cs, L, bs, rfl, hu, hl, hv, h60, hL, hw, hsum, fun H1 s1 => ?_⟩
    refine ⟨u, rfl, l, rfl, v, rfl, u, l, v, cs, L, bs, rfl, hu.mono s1, hl.mono s1, hv.mono s1, h60, hL, hw.two, Nat.le_of_eq hsum, fun v' H2 s2 h => q v' H2 (s1.trans s2) h⟩
def sp_end_course : Sp := fun vs H Q _ => ∃ (u l v : V) (cs : List Nat) (L : Bool → List Nat) (bs : List Blk), vs = [u, l, v] ∧ TupN H u cs ∧ LsR H l L ∧ SeqR H v bs ∧ cs.length ≤ 60 ∧ WL cs.length L ∧ WS bs ∧ lenB bs = cs.sum ∧
  ∀ v' rs H', Same H H' → CrsR H' v' rs → WC cs.length rs → expR rs = (E cs L (expB bs)).reverse → Q v' H'
theorem revR_at {rs : List Row} {i : Nat} {r : Row} (hi : i < rs.length) (h : rs[rs.length - 1 - i]? = some r) : (revR rs)[i]? = some (r.1.reverse, r.2.1.reverse, r.2.2) := by
  unfold revR
  rw [List.getElem?_map, List.getElem?_reverse hi, h]
  rfl
theorem revR_len (rs : List Row) : (revR rs).length = rs.length := by simp [revR]
theorem WC.rev {k : Nat} {rs : List Row} (h : WC k rs) : WC k (revR rs) := by
  refine ⟨by rw [revR_len]; exact h.1, fun r hr => ?_⟩
  unfold revR at hr
  obtain ⟨c, hc, rfl⟩ := List.mem_map.mp hr
  obtain ⟨h1, h2, h3, h4, h5⟩ := h.2 c (List.mem_reverse.mp hc)
  exact ⟨by simpa using h1, by simpa using h2, by simpa using h3, fun j hj => h4 j (List.mem_reverse.mp hj), h5⟩
theorem ok_end_course (T : Blt K mg) (dF : Df K mg "end_course" st_end_course ["counts", "lists", "sequence"]) (c_require_whole : C8.Cal P w K mg base 6 "require_whole" sp_require_whole []) (c_turned_rows : C8.Cal P w K mg base 4 "turned_rows" sp_turned_rows []) : C8.Cal P w K mg base 7 "end_course" sp_end_course [] := by
  have nd := sc_end_course.nd
  refine cal_of dF sc_end_course (fun vs H Q E h => ?_) (fun cdv A outer s H vs Q E hr h => ?_)
  · obtain ⟨u, l, v, cs, L, bs, rfl, _⟩ := h
    rfl
  · obtain ⟨u, l, v, cs, L, bs, rfl, hu, hl, hv, h60, hL, hw, hsum, q⟩ := h
    refine ⟨_, pss_cons (ps_expr (C8.pe_c c_require_whole hr (by decide) (by rfl) (pa_cons (pv 0) (pa_cons (pv 1) (pa_cons (pv 2) pa_nil)))))
      (pss_cons (ps_set (i := 3) nd rfl (Or.inl rfl) (C8.pe_c c_turned_rows hr (by decide) (by rfl) (pa_cons (pv 0) (pa_cons (pv 1) (pa_cons (pv 2) pa_nil)))))
      (pss_one (ps_ret (pe_lc (own := [("turns", 4), ("kinds", 5), ("times", 6)]) (g := gTup K 3 (gCons (gName 4) (gCons (gName 5) (gCons (gName 6) gNil)))) (tt := tYes) rfl nd (pi_reversed (by rfl) T.reversed_ (pa_cons (pv 3) pa_nil)) (blkOk_by (N := N_end_course) (sc := C8.fnScope st_end_course) (by decide +kernel))
        (fun _ _ _ _ _ => pg_tup rfl (pgs_cons (pg_name (i := 4) nd rfl (Or.inl rfl)) (pgs_cons (pg_name (i := 5) nd rfl (Or.inl rfl)) (pgs_cons (pg_name (i := 6) nd rfl (Or.inl rfl)) pgs_nil)))) (fun _ _ _ _ _ => pts_nil)
        (fun _ _ _ _ _ => pe_tup (pa_cons (pe_revS (pv 4)) (pa_cons (pe_revTK (K := K) rfl (pv 5)) (pa_cons (pv 6) pa_nil)))))))), ?_⟩
    refine ⟨u, rfl, l, rfl, v, rfl, u, l, v, cs, L, bs, rfl, hu, hl, hv, h60, hL, hw, hsum, fun H1 s1 => ?_⟩
    refine ⟨u, rfl, l, rfl, v, rfl, u, l, v, cs, L, bs, rfl, hu.mono s1, hl.mono s1, hv.mono s1, h60, hL, hw.two, Nat.le_of_eq hsum, fun r rs H2 s2 hr hwc he => ?_⟩
    obtain ⟨a, xs, rfl, ha, hb⟩ := hr
    refine ⟨.ref a, rfl, a, xs, rfl, SqL.of ha, fun D hD => ?_⟩
    refine lc_same (walk_rev (K := K) (a := a) (xs := xs)) (fun i v H => ∃ b, (revR rs)[i]? = some b ∧ RowR H v b) (by rw [hb.1]; have := hwc.1; omega) hD (fun _ _ _ _ t ⟨b, e, r⟩ => ⟨b, e, r.tp t⟩) (fun H' s => SqL.of (s _ _ ha)) (fun i x H3 H' kk hi s y hkk => ?_) (fun H' acc s eD el eE => ?_)
    · obtain ⟨rfl, hx⟩ := y
      obtain ⟨b, eb, rb⟩ := hb.getV hx
      obtain ⟨c, kb, rfl, hc, hkb⟩ := rb.mono s
      obtain ⟨h1, h2, h3, h4, h5⟩ := hwc.2 b (List.mem_of_getElem? eb)
      rw [hb.1] at hi eb
      refine ⟨c, _, rfl, SqT.of hc, rfl, _, _, rfl, _, _, rfl, _, _, rfl, rfl, rfl, ?_⟩
      refine ⟨_, rfl, txt b.1, rfl, line (by rw [txt_len]; omega), _, rfl, kb, _, rfl, rdT hkb, fun p1 n1 => ⟨_, rfl, (show 3 ≤ sizeLine from line (by decide)), fun p hp => ?_⟩⟩
      have t1 := same_new (o := .tup (List.map vN b.2.1).reverse) n1
      refine hkk _ _ (t1.trans (same_new hp)) ⟨_, revR_at hi eb, p, p1, rfl, ?_, ?_⟩
      · rw [upd_same, revS_txt]
      · refine .inl ?_
        rw [List.map_reverse]
        exact (same_new hp) _ _ upd_same
    · refine q _ (revR rs) H' ((s1.trans s2).trans s) ⟨D, acc, rfl, eD, all2_of (by rw [el, revR_len, hb.1]) eE⟩ hwc.rev ?_
      rw [expR_rev rs (fun r hr => (hwc.2 r hr).2.2.1.symm), he]
def sp_turned : Sp := fun vs H Q _ => ∃ (u l v : V) (cs : List Nat) (L : Bool → List Nat) (bs : List Blk), vs = [u, l, v] ∧ TupN H u cs ∧ LsR H l L ∧ SeqR H v bs ∧ cs.length ≤ 60 ∧ WL cs.length L ∧ WS bs ∧ lenB bs = cs.sum ∧
  ∀ v' x y H', Same H H' → H' v' = some (.tup [x, y]) → LsR H' x (tl L) → SeqR H' y (revB bs) → Q (.ref v') H'
theorem ok_turned (T : Blt K mg) (dF : Df K mg "turned" st_turned ["counts", "lists", "sequence"]) (c_require_whole : C8.Cal P w K mg base 6 "require_whole" sp_require_whole []) (c_turned_lists : C8.Cal P w K mg base 1 "turned_lists" sp_turned_lists []) (c_reversed_sequence : C8.Cal P w K mg base 5 "reversed_sequence" sp_reversed_sequence []) : C8.Cal P w K mg base 7 "turned" sp_turned [] := by
  have nd := sc_turned.nd
  refine cal_of dF sc_turned (fun vs H Q E h => ?_) (fun cdv A outer s H vs Q E hr h => ?_)
  · obtain ⟨u, l, v, cs, L, bs, rfl, _⟩ := h
    rfl
  · obtain ⟨u, l, v, cs, L, bs, rfl, hu, hl, hv, h60, hL, hw, hsum, q⟩ := h
    refine ⟨_, pss_cons (ps_expr (C8.pe_c c_require_whole hr (by decide) (by rfl) (pa_cons (pv 0) (pa_cons (pv 1) (pa_cons (pv 2) pa_nil)))))
      (pss_one (ps_ret (pe_tup (pa_cons (C8.pe_c c_turned_lists hr (by decide) (by rfl) (pa_cons (pv 1) pa_nil)) (pa_cons (C8.pe_c c_reversed_sequence hr (by decide) (by rfl) (pa_cons (pv 2) pa_nil)) pa_nil))))), ?_⟩
    refine ⟨u, rfl, l, rfl, v, rfl, u, l, v, cs, L, bs, rfl, hu, hl, hv, h60, hL, hw, hsum, fun H1 s1 => ?_⟩
    refine ⟨l, rfl, l, L, rfl, hl.mono s1, fun l' H2 s2 hl' => ?_⟩
    refine ⟨v, rfl, v, bs, rfl, hv.mono (s1.trans s2), hw, fun v' H3 s3 hv' => ?_⟩
    refine ⟨(show 2 ≤ sizeLine from line (by decide)), fun p hp => ?_⟩
    have s4 := same_new (o := .tup [l', v']) hp
    exact q p l' v' _ (((s1.trans s2).trans s3).trans s4) upd_same ((hl'.mono s3).mono s4) (hv'.mono s4)
def sp_plain_game : Sp := fun vs H Q _ => ∃ (u l v : V) (cs : List Nat) (L : Bool → List Nat) (bs : List Blk), vs = [u, l, v] ∧ TupN H u cs ∧ LsR H l L ∧ SeqR H v bs ∧ cs.length ≤ 60 ∧ WL cs.length L ∧ WS bs ∧ lenB bs ≤ cs.sum ∧
  ∀ v' x y z H', Same H H' → H' v' = some (.tup [x, y, z]) → TupN H' x (bun cs.length true (plain (fn cs) L (expB bs))) → TupN H' y (bun cs.length false (plain (fn cs) L (expB bs))) → TupN H' z (subl cs (bag (plain (fn cs) L (expB bs)))) → Q (.ref v') H'
theorem ok_plain_game (T : Blt K mg) (dF : Df K mg "plain_game" st_plain_game ["counts", "lists", "sequence"]) (c_require_game : C8.Cal P w K mg base 5 "require_game" sp_require_game []) (c_require_fits : C8.Cal P w K mg base 2 "require_fits" sp_require_fits []) (c_bundles_of : C8.Cal P w K mg base 1 "bundles_of" sp_bundles_of []) (c_plain_rows : C8.Cal P w K mg base 3 "plain_rows" sp_plain_rows []) : C8.Cal P w K mg base 6 "plain_game" sp_plain_game [] := by
  have nd := sc_plain_game.nd
  refine cal_of dF sc_plain_game (fun vs H Q E h => ?_) (fun cdv A outer s H vs Q E hr h => ?_)
  · obtain ⟨u, l, v, cs, L, bs, rfl, _⟩ := h
    rfl
  · obtain ⟨u, l, v, cs, L, bs, rfl, hu, hl, hv, h60, hL, hw, hsum, q⟩ := h
    refine ⟨_, pss_cons (ps_expr (C8.pe_c c_require_game hr (by decide) (by rfl) (pa_cons (pv 0) (pa_cons (pv 1) (pa_cons (pv 2) pa_nil)))))
      (pss_cons (ps_expr (C8.pe_c c_require_fits hr (by decide) (by rfl) (pa_cons (pv 0) (pa_cons (pv 2) pa_nil))))
      (pss_one (ps_ret (C8.pe_c c_bundles_of hr (by decide) (by rfl) (pa_cons (pv 0) (pa_cons (C8.pe_c c_plain_rows hr (by decide) (by rfl) (pa_cons (pv 0) (pa_cons (pv 1) (pa_cons (pv 2) pa_nil)))) pa_nil)))))), ?_⟩
    refine ⟨u, rfl, l, rfl, v, rfl, u, l, v, cs, L, bs, rfl, hu, hl, hv, h60, hL, hw, fun H1 s1 => ?_⟩
    refine ⟨u, rfl, v, rfl, u, v, cs, bs, rfl, hu.mono s1, hv.mono s1, hw, hsum, fun H2 s2 => ?_⟩
    have s12 := s1.trans s2
    refine ⟨u, rfl, u, rfl, l, rfl, v, rfl, u, l, v, cs, L, bs, rfl, hu.mono s12, hl.mono s12, hv.mono s12, h60, hL, hw.two, hsum, fun r rs H3 s3 hr hwc he => ?_⟩
    refine ⟨u, r, cs, rs, rfl, hu.mono (s12.trans s3), hr, h60, hwc, fun k => by rw [he]; exact plain_bag_le _ _ _ k, fun v' x y z H4 s4 hv' hx hy hz => ?_⟩
    rw [he] at hx hy hz
    exact q v' x y z H4 ((s12.trans s3).trans s4) hv' hx hy hz
def sp_play_course : Sp := fun vs H Q _ => ∃ (u v : V) (cs : List Nat) (rs : List Row), vs = [u, v] ∧ TupN H u cs ∧ CrsR H v rs ∧ cs.length ≤ 60 ∧ WC cs.length rs ∧ (∀ k, bag (expR rs) k ≤ fn cs k) ∧
  ∀ v' x y z H', Same H H' → H' v' = some (.tup [x, y, z]) → TupN H' x (bun cs.length true (expR rs)) → TupN H' y (bun cs.length false (expR rs)) → TupN H' z (subl cs (bag (expR rs))) → Q (.ref v') H'
theorem ok_play_course (T : Blt K mg) (dF : Df K mg "play_course" st_play_course ["counts", "course"]) (c_require_counts : C8.Cal P w K mg base 4 "require_counts" sp_require_counts []) (c_require_course : C8.Cal P w K mg base 4 "require_course" sp_require_course []) (c_bundles_of : C8.Cal P w K mg base 1 "bundles_of" sp_bundles_of []) : C8.Cal P w K mg base 5 "play_course" sp_play_course [] := by
  have nd := sc_play_course.nd
  refine cal_of dF sc_play_course (fun vs H Q E h => ?_) (fun cdv A outer s H vs Q E hr h => ?_)
  · obtain ⟨u, v, cs, rs, rfl, _⟩ := h
    rfl
  · obtain ⟨u, v, cs, rs, rfl, ⟨a, rfl, ha⟩, hv, h60, hw, hbag, q⟩ := h
    have hu : TupN H (.ref a) cs := ⟨a, rfl, ha⟩
    refine ⟨_, pss_cons (ps_expr (C8.pe_c c_require_counts hr (by decide) (by rfl) (pa_cons (pv 0) pa_nil)))
      (pss_cons (ps_expr (C8.pe_c c_require_course hr (by decide) (by rfl) (pa_cons (pv 1) (pa_cons (pe_callB (call_len_seqK (K := K) rfl) (by rfl) T.len_ bb_len (pa_cons (pv 0) pa_nil)) pa_nil))))
      (pss_one (ps_ret (C8.pe_c c_bundles_of hr (by decide) (by rfl) (pa_cons (pv 0) (pa_cons (pv 1) pa_nil)))))), ?_⟩
    refine ⟨.ref a, rfl, .ref a, cs, rfl, hu, h60, fun H1 s1 => ?_⟩
    refine ⟨v, rfl, .ref a, rfl, a, _, rfl, .inr (SqT.of (s1 _ _ ha)), v, rs, cs.length, by rw [List.length_map]; rfl, hv.mono s1, hw, fun H2 s2 => ?_⟩
    have s12 := s1.trans s2
    exact ⟨.ref a, rfl, v, rfl, .ref a, v, cs, rs, rfl, hu.mono s12, hv.mono s12, h60, hw, hbag, fun v' x y z H3 s3 hv' hx hy hz => q v' x y z H3 (s12.trans s3) hv' hx hy hz⟩
def sp_with_item : Sp := fun vs H Q _ => ∃ (v : V) (ns : List Nat) (k : Nat) (d : Int) (m : Nat), vs = [v, vN k, .int d] ∧ TupN H v ns ∧ k < ns.length ∧ ns.length ≤ 1000 ∧ (fn ns k : Int) + d = (m : Int) ∧ ∀ v' H', Same H H' → TupN H' v' (ns.set k m) → Q v' H'
theorem ok_with_item (T : Blt K mg) (dF : Df K mg "with_item" st_with_item ["bundle", "kind", "number"])  : C8.Cal P w K mg base 1 "with_item" sp_with_item [] := by
  have nd := sc_with_item.nd
  refine cal_of dF sc_with_item (fun vs H Q E h => ?_) (fun cdv A outer s H vs Q E hr h => ?_)
  · obtain ⟨v, ns, k, d, m, rfl, _⟩ := h
    rfl
  · obtain ⟨v, ns, k, d, m, rfl, ⟨a, rfl, ha⟩, hk, hl, hm, q⟩ := h
    refine ⟨_, pss_one (ps_ret (pe_op op_catA (pe_op op_catA (pe_slice sl_tupA (pv 0) po_none (po_some (pv 1))) (pe_tup (pa_cons (pe_op op_add (pe_ix ix_tup (pv 0) (pv 1) (fun _ _ => rfl)) (pv 2)) pa_nil))) (pe_slice sl_tupA (pv 0) (po_some (pe_op op_add (pv 1) (pe_int))) po_none))), ?_⟩
    refine ⟨.ref a, rfl, vN k, rfl, (k : Int), rfl, ?_⟩
    refine slA ha fun c1 H1 s1 h1 => ?_
    rw [cut_hi] at h1
    refine ⟨.ref a, rfl, vN k, rfl, a, _, (k : Int), vN (fn ns k), rfl, rfl, SqT.of (s1 _ _ ha), atI_nat (at_vN (fn_at hk)), .int d, rfl, (fn ns k : Int), d, rfl, rfl, (show 1 ≤ sizeLine from line (by decide)), fun c2 n2 => ?_⟩
    have s2 := same_new (o := .tup [V.int ((fn ns k : Int) + d)]) n2
    refine catA (s2 _ _ h1) upd_same (by simp; omega) fun c3 H3 s3 h3 => ?_
    have ha3 := ((s1.trans s2).trans s3) _ _ ha
    refine ⟨.ref a, rfl, vN k, rfl, (k : Int), 1, rfl, rfl, _, rfl, ?_⟩
    dsimp only [tNoPart]
    refine slA (lo := some ((k : Int) + 1)) (hi := none) ha3 fun c4 H4 s4 h4 => ?_
    rw [show ((k : Int) + 1) = ((k + 1 : Nat) : Int) from rfl, cut_lo] at h4
    refine catA (s4 _ _ h3) h4 (by simp; omega) fun c5 H5 s5 h5 => ?_
    refine q _ H5 ((((s1.trans s2).trans s3).trans s4).trans s5) ⟨c5, rfl, ?_⟩
    dsimp only at h5
    rw [h5, hm, set_cut hk, List.map_append, List.map_append, List.map_take, List.map_drop]
    rfl
end
end TG
namespace TG
open PySem PySem.Spec PyProof.Rows L2 TGZ
abbrev st_without_first : Stmt := topS 51
abbrev N_without_first : List Str := ["sequence", "turns", "times", "found"]
theorem sc_without_first : FnScope N_without_first ["sequence"] (C8.fnScope st_without_first) := C8.fnScope_by (by decide +kernel)
abbrev st_best_first_picks : Stmt := topS 53
abbrev N_best_first_picks : List Str := ["counts", "lists", "sequence", "player", "rest", "side", "found", "end", "kind", "later"]
theorem sc_best_first_picks : FnScope N_best_first_picks ["counts", "lists", "sequence"] (C8.fnScope st_best_first_picks) := C8.fnScope_by (by decide +kernel)
theorem cut_all (xs : List V) (j : Nat) : cutV xs (some ((j : Nat) : Int)) none = xs.drop j := cut_lo xs j
/-- the blocks without the first pick -/
def woF (t : List Bool) (n : Nat) (bs : List Blk) : List Blk := (if 1 < t.length then [(t.drop 1, 1)] else []) ++ ((if 1 < n then [(t, n - 1)] else []) ++ bs)
theorem expB_woF {p : Bool} {t : List Bool} {n : Nat} (bs : List Blk) (hn : 1 ≤ n) : expB ((p :: t, n) :: bs) = p :: expB (woF (p :: t) n bs) := by
  obtain ⟨m, rfl⟩ : ∃ m, n = m + 1 := ⟨n - 1, by omega⟩
  unfold woF
  rw [expB_cons, expB_append, expB_append, List.replicate_succ, List.flatten_cons, List.cons_append, List.cons_append, List.append_assoc]
  congr 1
  have e1 : expB (if 1 < (p :: t).length then [((p :: t).drop 1, 1)] else []) = t := by
    cases t with
    | nil => rfl
    | cons a b =>
      rw [if_pos (by simp)]
      simp [expB]
  have e2 : expB (if 1 < m + 1 then [(p :: t, m + 1 - 1)] else []) = (List.replicate m (p :: t)).flatten := by
    by_cases h : 1 < m + 1
    · rw [if_pos h]
      simp [expB]
    · have : m = 0 := by omega
      subst this
      rfl
  rw [e1, e2]
theorem woF_ok {t : List Bool} {n : Nat} {bs : List Blk} (h : WS ((t, n) :: bs)) : WS2 (woF t n bs) := by
  obtain ⟨h1, h2⟩ := h
  have hb := h2 _ List.mem_cons_self
  obtain ⟨w1, w2, w3⟩ := hb
  have w2 : t.length ≤ 20 := w2
  refine ⟨?_, fun b hb => ?_⟩
  · unfold woF
    rw [List.length_cons] at h1
    rw [List.length_append, List.length_append]
    split <;> split <;> simp <;> omega
  · unfold woF at hb
    rcases List.mem_append.mp hb with hb | hb
    · split at hb
      · rename_i q
        rw [List.mem_singleton.mp hb]
        exact ⟨by rw [List.length_drop]; omega, by rw [List.length_drop]; omega, Nat.le_refl _⟩
      · cases hb
    · rcases List.mem_append.mp hb with hb | hb
      · split at hb
        · rename_i q
          rw [List.mem_singleton.mp hb]
          exact ⟨w1, w2, by show 1 ≤ n - 1; omega⟩
        · cases hb
      · exact h2 b (List.mem_cons_of_mem _ hb)
section
variable {P : Program} {w : World} {K : PySem.W.Frag} {mg : Str → Option Value} {base : Heap}
def sp_without_first : Sp := fun vs H Q _ => ∃ (v : V) (t : List Bool) (n : Nat) (bs : List Blk), vs = [v] ∧ SeqR H v ((t, n) :: bs) ∧ WS ((t, n) :: bs) ∧ ∀ v' H', Same H H' → SeqR H' v' (woF t n bs) → Q v' H'
theorem ok_without_first (T : Blt K mg) (dF : Df K mg "without_first" st_without_first ["sequence"])  : C8.Cal P w K mg base 1 "without_first" sp_without_first [] := by
  have nd := sc_without_first.nd
  refine cal_of dF sc_without_first (fun vs H Q E h => ?_) (fun cdv A outer s H vs Q E hr h => ?_)
  · obtain ⟨v, t, n, bs, rfl, _⟩ := h
    rfl
  · obtain ⟨v, t, n, bs, rfl, ⟨a, xs, rfl, ha, hb⟩, hw, q⟩ := h
    refine ⟨_, pss_cons (ps_asg (pe_ix ix_list (pv 0) (pe_int) (fun _ _ => rfl)) (pg_tup rfl (pgs_cons (pg_name (i := 1) nd rfl (Or.inl rfl)) (pgs_cons (pg_name (i := 2) nd rfl (Or.inl rfl)) pgs_nil))))
      (pss_cons (ps_set (i := 3) nd rfl (Or.inl rfl) (pe_ifExp (pt_cmpR op_gt (pe_callB call_len_str (by rfl) T.len_ bb_len (pa_cons (pv 1) pa_nil)) (pe_int) (nomark _)) (pe_lst (pa_cons (pe_tup (pa_cons (pe_slice sl_str (pv 1) (po_some (pe_int)) po_none) (pa_cons (pe_int) pa_nil))) pa_nil)) (pe_lst (pa_nil))))
      (pss_cons (ps_if (pt_cmpR op_gt (pv 2) (pe_int) (nomark _))
        (pss_one (ps_expr (pe_bm PySem.F.plainAttrs_list PySem.F.slot_list_append PySem.F.type_list_append mt_append (pv 3) (pa_cons (pe_tup (pa_cons (pv 1) (pa_cons (pe_op op_sub (pv 2) (pe_int)) pa_nil))) pa_nil))))
        (pss_nil))
      (pss_one (ps_ret (pe_op op_cat (pv 3) (pe_callTy call_list_of (by rfl) T.list_ bt_list (pa_cons (pe_slice sl_list (pv 0) (po_some (pe_int)) po_none) pa_nil))))))), ?_⟩
    have hlen : xs.length ≤ 200 := by rw [hb.1]; exact hw.1
    obtain ⟨w1, w20, w3⟩ := hw.2 _ List.mem_cons_self
    have w1 : 1 ≤ t.length := w1
    have w20 : t.length ≤ 20 := w20
    have w3 : 1 ≤ n := w3
    have hline : (txt t).length ≤ sizeLine := line (by rw [txt_len]; omega)
    obtain ⟨x0, ex0, c, rfl, hc⟩ := hb.get (i := 0) rfl
    have hc : H c = some (.tup [.str (txt t), vN n]) := hc
    have hdrop : All2 (BlkR H) (xs.drop 1) bs := hb.drop 1
    refine ⟨.ref a, rfl, a, _, 0, _, rfl, rfl, SqL.of ha, atI_nat (j := 0) ex0, c, _, rfl, SqT.of hc, rfl, _, _, rfl, _, _, rfl, rfl, ?_⟩
    by_cases h1 : 1 < t.length
    · refine ⟨.str (txt t), rfl, txt t, rfl, hline, _, 1, rfl, rfl, true, yes (by rw [txt_len]; omega), ?_⟩
      refine ⟨.str (txt t), rfl, 1, rfl, txt t, rfl, hline, (show 2 ≤ sizeLine from line (by decide)), fun p0 n0 => ⟨(show 1 ≤ sizeLine from line (by decide)), fun p1 n1 => ?_⟩⟩
      have s0 := same_new (o := .tup [V.str (cutS (txt t) (some 1) none), .int 1]) n0
      have s1 := s0.trans (same_new (o := .lst [.ref p0]) n1)
      have e0 : (upd (upd H p0 (.tup [V.str (cutS (txt t) (some 1) none), .int 1])) p1 (.lst [.ref p0])) p0 = some (.tup [V.str (txt (t.drop 1)), vN 1]) := by
        have z : cutS (txt t) (some 1) none = txt (t.drop 1) := cutS_lo t 1
        rw [(same_new (o := .lst [.ref p0]) n1) _ _ upd_same, z]
        rfl
      have hA1 : All2 (BlkR (upd (upd H p0 (.tup [V.str (cutS (txt t) (some 1) none), .int 1])) p1 (.lst [.ref p0]))) [.ref p0] [(t.drop 1, 1)] := All2.snoc All2.nil ⟨p0, rfl, e0⟩
      have n1H : H p1 = none := by
        cases e : H p1 with
        | none => rfl
        | some o => rw [s0 _ _ e] at n1; cases n1
      generalize hG : upd (upd H p0 (.tup [V.str (cutS (txt t) (some 1) none), .int 1])) p1 (.lst [.ref p0]) = H1 at *
      have e1 : H1 p1 = some (.lst [.ref p0]) := by rw [← hG]; exact upd_same
      have hd1 : (if 1 < t.length then [(t.drop 1, 1)] else []) = [(t.drop 1, 1)] := if_pos h1
      by_cases h2 : 1 < n
      · refine ⟨vN n, rfl, (n : Int), 1, rfl, rfl, true, yes (by omega), ?_⟩
        refine ⟨.ref p1, rfl, .inl ⟨rfl, _, SqL.of e1⟩, .str (txt t), rfl, vN n, rfl, (n : Int), 1, rfl, rfl, (show 2 ≤ sizeLine from line (by decide)), fun p2 n2 => ?_⟩
        have s2 := same_new (o := .tup [.str (txt t), .int ((n : Int) - 1)]) n2
        refine ⟨p1, _, _, rfl, rfl, s2 _ _ e1, lineL (by simp), ?_⟩
        have sA : Same H (upd (upd H1 p2 (.tup [.str (txt t), .int ((n : Int) - 1)])) p1 (.lst ([.ref p0] ++ [.ref p2]))) := (s1.trans s2).app n1H
        have t2 : Tp (upd H1 p2 (.tup [.str (txt t), .int ((n : Int) - 1)])) (upd (upd H1 p2 (.tup [.str (txt t), .int ((n : Int) - 1)])) p1 (.lst ([.ref p0] ++ [.ref p2]))) := Tp.lst (s2 _ _ e1)
        have e2 : (upd H1 p2 (.tup [.str (txt t), .int ((n : Int) - 1)])) p2 = some (.tup [.str (txt t), vN (n - 1)]) := by
          rw [upd_same]
          unfold vN
          have : ((n - 1 : Nat) : Int) = (n : Int) - 1 := by omega
          rw [this]
        have hA : All2 (BlkR (upd (upd H1 p2 (.tup [.str (txt t), .int ((n : Int) - 1)])) p1 (.lst ([.ref p0] ++ [.ref p2])))) ([.ref p0] ++ [.ref p2]) ([(t.drop 1, 1)] ++ [(t, n - 1)]) := All2.snoc (hA1.mono fun _ _ z => (z.mono s2).tp t2) ⟨p2, rfl, t2.at e2⟩
        have eA : (upd (upd H1 p2 (.tup [.str (txt t), .int ((n : Int) - 1)])) p1 (.lst ([.ref p0] ++ [.ref p2]))) p1 = some (.lst ([.ref p0] ++ [.ref p2])) := upd_same
        refine ⟨.ref p1, rfl, .ref a, rfl, 1, rfl, a, _, rfl, SqL.of (sA _ _ ha), fun p8 n8 => ?_⟩
        have s8 := same_new (o := .lst (cutV xs (some 1) none)) n8
        have e8 : cutV xs (some 1) none = xs.drop 1 := cut_lo xs 1
        refine ⟨p8, _, rfl, .inl (SqL.of upd_same), fun p9 n9 => ?_⟩
        have s9 := same_new (o := .lst (cutV xs (some 1) none)) n9
        refine ⟨p1, p9, _, _, rfl, rfl, (s8.trans s9) _ _ eA, upd_same, ?_, fun p10 n10 => ?_⟩
        · rw [e8, List.length_drop]
          exact line (by simp; omega)
        have s10 := same_new (o := .lst (([.ref p0] ++ [.ref p2]) ++ cutV xs (some 1) none)) n10
        refine q _ _ (((sA.trans s8).trans s9).trans s10) ⟨p10, _, rfl, upd_same, ?_⟩
        have hX : woF t n bs = ([(t.drop 1, 1)] ++ [(t, n - 1)]) ++ bs := by
          unfold woF
          simp [h1, h2]
        have hdrop8 : All2 (BlkR H) (cutV xs (some 1) none) bs := by
          rw [e8]
          exact hdrop
        rw [hX]
        exact (hA.mono fun _ _ z => ((z.mono s8).mono s9).mono s10).append (hdrop8.mono fun _ _ z => (((z.mono sA).mono s8).mono s9).mono s10)
      · refine ⟨vN n, rfl, (n : Int), 1, rfl, rfl, false, no (by omega), ?_⟩
        have sA := s1
        have hA := hA1
        have eA := e1
        refine ⟨.ref p1, rfl, .ref a, rfl, 1, rfl, a, _, rfl, SqL.of (sA _ _ ha), fun p8 n8 => ?_⟩
        have s8 := same_new (o := .lst (cutV xs (some 1) none)) n8
        have e8 : cutV xs (some 1) none = xs.drop 1 := cut_lo xs 1
        refine ⟨p8, _, rfl, .inl (SqL.of upd_same), fun p9 n9 => ?_⟩
        have s9 := same_new (o := .lst (cutV xs (some 1) none)) n9
        refine ⟨p1, p9, _, _, rfl, rfl, (s8.trans s9) _ _ eA, upd_same, ?_, fun p10 n10 => ?_⟩
        · rw [e8, List.length_drop]
          exact line (by simp; omega)
        have s10 := same_new (o := .lst ([.ref p0] ++ cutV xs (some 1) none)) n10
        refine q _ _ (((sA.trans s8).trans s9).trans s10) ⟨p10, _, rfl, upd_same, ?_⟩
        have hX : woF t n bs = [(t.drop 1, 1)] ++ bs := by
          unfold woF
          simp [h1, h2]
        have hdrop8 : All2 (BlkR H) (cutV xs (some 1) none) bs := by
          rw [e8]
          exact hdrop
        rw [hX]
        exact (hA.mono fun _ _ z => ((z.mono s8).mono s9).mono s10).append (hdrop8.mono fun _ _ z => (((z.mono sA).mono s8).mono s9).mono s10)
    · refine ⟨.str (txt t), rfl, txt t, rfl, hline, _, 1, rfl, rfl, false, no (by rw [txt_len]; omega), ?_⟩
      refine ⟨(show 0 ≤ sizeLine from line (by decide)), fun p1 n1H => ?_⟩
      have s1 := same_new (o := .lst []) n1H
      have hA1 : All2 (BlkR (upd H p1 (.lst []))) [] [] := All2.nil
      generalize hG : upd H p1 (.lst []) = H1 at *
      have e1 : H1 p1 = some (.lst []) := by rw [← hG]; exact upd_same
      by_cases h2 : 1 < n
      · refine ⟨vN n, rfl, (n : Int), 1, rfl, rfl, true, yes (by omega), ?_⟩
        refine ⟨.ref p1, rfl, .inl ⟨rfl, _, SqL.of e1⟩, .str (txt t), rfl, vN n, rfl, (n : Int), 1, rfl, rfl, (show 2 ≤ sizeLine from line (by decide)), fun p2 n2 => ?_⟩
        have s2 := same_new (o := .tup [.str (txt t), .int ((n : Int) - 1)]) n2
        refine ⟨p1, _, _, rfl, rfl, s2 _ _ e1, lineL (by simp), ?_⟩
        have sA : Same H (upd (upd H1 p2 (.tup [.str (txt t), .int ((n : Int) - 1)])) p1 (.lst (([] : List V) ++ [.ref p2]))) := (s1.trans s2).app n1H
        have t2 : Tp (upd H1 p2 (.tup [.str (txt t), .int ((n : Int) - 1)])) (upd (upd H1 p2 (.tup [.str (txt t), .int ((n : Int) - 1)])) p1 (.lst (([] : List V) ++ [.ref p2]))) := Tp.lst (s2 _ _ e1)
        have e2 : (upd H1 p2 (.tup [.str (txt t), .int ((n : Int) - 1)])) p2 = some (.tup [.str (txt t), vN (n - 1)]) := by
          rw [upd_same]
          unfold vN
          have : ((n - 1 : Nat) : Int) = (n : Int) - 1 := by omega
          rw [this]
        have hA : All2 (BlkR (upd (upd H1 p2 (.tup [.str (txt t), .int ((n : Int) - 1)])) p1 (.lst (([] : List V) ++ [.ref p2])))) (([] : List V) ++ [.ref p2]) (([] : List Blk) ++ [(t, n - 1)]) := All2.snoc (hA1.mono fun _ _ z => (z.mono s2).tp t2) ⟨p2, rfl, t2.at e2⟩
        have eA : (upd (upd H1 p2 (.tup [.str (txt t), .int ((n : Int) - 1)])) p1 (.lst (([] : List V) ++ [.ref p2]))) p1 = some (.lst (([] : List V) ++ [.ref p2])) := upd_same
        refine ⟨.ref p1, rfl, .ref a, rfl, 1, rfl, a, _, rfl, SqL.of (sA _ _ ha), fun p8 n8 => ?_⟩
        have s8 := same_new (o := .lst (cutV xs (some 1) none)) n8
        have e8 : cutV xs (some 1) none = xs.drop 1 := cut_lo xs 1
        refine ⟨p8, _, rfl, .inl (SqL.of upd_same), fun p9 n9 => ?_⟩
        have s9 := same_new (o := .lst (cutV xs (some 1) none)) n9
        refine ⟨p1, p9, _, _, rfl, rfl, (s8.trans s9) _ _ eA, upd_same, ?_, fun p10 n10 => ?_⟩
        · rw [e8, List.length_drop]
          exact line (by simp; omega)
        have s10 := same_new (o := .lst ((([] : List V) ++ [.ref p2]) ++ cutV xs (some 1) none)) n10
        refine q _ _ (((sA.trans s8).trans s9).trans s10) ⟨p10, _, rfl, upd_same, ?_⟩
        have hX : woF t n bs = (([] : List Blk) ++ [(t, n - 1)]) ++ bs := by
          unfold woF
          simp [h1, h2]
        have hdrop8 : All2 (BlkR H) (cutV xs (some 1) none) bs := by
          rw [e8]
          exact hdrop
        rw [hX]
        exact (hA.mono fun _ _ z => ((z.mono s8).mono s9).mono s10).append (hdrop8.mono fun _ _ z => (((z.mono sA).mono s8).mono s9).mono s10)
      · refine ⟨vN n, rfl, (n : Int), 1, rfl, rfl, false, no (by omega), ?_⟩
        have sA := s1
        have hA := hA1
        have eA := e1
        refine ⟨.ref p1, rfl, .ref a, rfl, 1, rfl, a, _, rfl, SqL.of (sA _ _ ha), fun p8 n8 => ?_⟩
        have s8 := same_new (o := .lst (cutV xs (some 1) none)) n8
        have e8 : cutV xs (some 1) none = xs.drop 1 := cut_lo xs 1
        refine ⟨p8, _, rfl, .inl (SqL.of upd_same), fun p9 n9 => ?_⟩
        have s9 := same_new (o := .lst (cutV xs (some 1) none)) n9
        refine ⟨p1, p9, _, _, rfl, rfl, (s8.trans s9) _ _ eA, upd_same, ?_, fun p10 n10 => ?_⟩
        · rw [e8, List.length_drop]
          exact line (by simp; omega)
        have s10 := same_new (o := .lst (([] : List V) ++ cutV xs (some 1) none)) n10
        refine q _ _ (((sA.trans s8).trans s9).trans s10) ⟨p10, _, rfl, upd_same, ?_⟩
        have hX : woF t n bs = ([] : List Blk) ++ bs := by
          unfold woF
          simp [h1, h2]
        have hdrop8 : All2 (BlkR H) (cutV xs (some 1) none) bs := by
          rw [e8]
          exact hdrop
        rw [hX]
        exact (hA.mono fun _ _ z => ((z.mono s8).mono s9).mono s10).append (hdrop8.mono fun _ _ z => (((z.mono sA).mono s8).mono s9).mono s10)
theorem lenB_pos {b : Blk} {bs : List Blk} (h : WB b) : 0 < lenB (b :: bs) := by
  obtain ⟨h1, h2, h3⟩ := h
  unfold lenB
  rw [List.map_cons, List.sum_cons]
  have := Nat.mul_pos h1 h3
  omega
theorem lsr_at {H : Hp} {v : V} {L : Bool → List Nat} (h : LsR H v L) (p : Bool) : ∃ a x y z, v = .ref a ∧ H a = some (.tup [x, y]) ∧ [x, y][pix p]? = some z ∧ TupN H z (L p) := by
  obtain ⟨a, x, y, e, h1, h2, h3⟩ := h
  cases p
  · exact ⟨a, x, y, y, e, h1, rfl, h3⟩
  · exact ⟨a, x, y, x, e, h1, rfl, h2⟩
theorem filter_snoc {l : List Nat} {i k : Nat} (h : l[i]? = some k) (pr : Nat → Bool) : ((l.take (i + 1)).filter pr) = (l.take i).filter pr ++ if pr k = true then [k] else [] := by
  rw [take_snoc h, List.filter_append]
  congr 1
  split
  · rw [List.filter_cons_of_pos (by assumption)]
    rfl
  · rw [List.filter_cons_of_neg (by assumption)]
    rfl
def sp_best_first_picks : Sp := fun vs H Q _ => ∃ (u l v : V) (cs : List Nat) (L : Bool → List Nat) (bs : List Blk), vs = [u, l, v] ∧ TupN H u cs ∧ LsR H l L ∧ SeqR H v bs ∧ cs.length ≤ 60 ∧ WL cs.length L ∧ WS bs ∧ lenB bs = cs.sum ∧
  ∀ a H', Same H H' → H' a = some (.lst ((firsts cs.length cs L (expB bs)).map vN)) → Q (.ref a) H'
theorem ok_best_first_picks (T : Blt K mg) (dF : Df K mg "best_first_picks" st_best_first_picks ["counts", "lists", "sequence"]) (c_require_whole : C8.Cal P w K mg base 6 "require_whole" sp_require_whole []) (c_own_list : C8.Cal P w K mg base 1 "own_list" sp_own_list []) (c_picks_of : C8.Cal P w K mg base 1 "picks_of" sp_picks_of []) (c_without_first : C8.Cal P w K mg base 1 "without_first" sp_without_first []) (c_end_bundles : C8.Cal P w K mg base 5 "end_bundles" sp_end_bundles []) (c_with_item : C8.Cal P w K mg base 1 "with_item" sp_with_item []) : C8.Cal P w K mg base 7 "best_first_picks" sp_best_first_picks [] := by
  have nd := sc_best_first_picks.nd
  refine cal_of dF sc_best_first_picks (fun vs H Q E h => ?_) (fun cdv A outer s H vs Q E hr h => ?_)
  · obtain ⟨u, l, v, cs, L, bs, rfl, _⟩ := h
    rfl
  · obtain ⟨u, l, v, cs, L, bs, rfl, hu, hl, hv, h60, hL, hw, hsum, q⟩ := h
    refine ⟨_, pss_cons (ps_expr (C8.pe_c c_require_whole hr (by decide) (by rfl) (pa_cons (pv 0) (pa_cons (pv 1) (pa_cons (pv 2) pa_nil)))))
      (pss_cons (ps_if (pt_cmpR op_eq (C8.pe_c c_picks_of hr (by decide) (by rfl) (pa_cons (pv 2) pa_nil)) (pe_int) (nomark _))
        (pss_one (ps_ret (pe_lst (pa_nil))))
        (pss_nil))
      (pss_cons (ps_par (i := 3) (j := 4) rfl nd rfl rfl (by decide) rfl rfl (pa_cons (pe_ix ix_str (pe_ix ix_tup (pe_ix ix_list (pv 2) (pe_int) (fun _ _ => rfl)) (pe_int) (fun _ _ => rfl)) (pe_int) (fun _ _ => rfl)) (pa_cons (C8.pe_c c_without_first hr (by decide) (by rfl) (pa_cons (pv 2) pa_nil)) pa_nil)) (by first | rfl | decide +kernel))
      (pss_cons (ps_par (i := 5) (j := 6) rfl nd rfl rfl (by decide) rfl rfl (pa_cons (pe_bm PySem.F.plainAttrs_tuple PySem.F.slot_tuple_index PySem.F.type_tuple_index mt_tup_index (C8.pe_gc (by rfl) T.players) (pa_cons (pv 3) pa_nil)) (pa_cons (pe_lst (pa_nil)) pa_nil)) (by first | rfl | decide +kernel))
      (pss_cons (ps_set (i := 7) nd rfl (Or.inl rfl) (pe_ix ix_tup (C8.pe_c c_end_bundles hr (by decide) (by rfl) (pa_cons (pv 0) (pa_cons (pv 1) (pa_cons (pv 2) pa_nil)))) (pv 5) (fun _ _ => rfl)))
      (pss_cons (ps_for PassesOwn.never rfl (pi_tup (C8.pe_c c_own_list hr (by decide) (by rfl) (pa_cons (pv 1) (pa_cons (pv 3) pa_nil)))) (pg_name (i := 8) nd rfl (Or.inl rfl))
        (pss_one (ps_if (pt_cmpR op_gt (pe_ix ix_tup (pv 0) (pv 8) (fun _ _ => rfl)) (pe_int) (nomark _))
          (pss_cons (ps_set (i := 9) nd rfl (Or.inl rfl) (pe_ix ix_tup (C8.pe_c c_end_bundles hr (by decide) (by rfl) (pa_cons (C8.pe_c c_with_item hr (by decide) (by rfl) (pa_cons (pv 0) (pa_cons (pv 8) (pa_cons (pe_un un_neg (pe_int)) pa_nil)))) (pa_cons (pv 1) (pa_cons (pv 4) pa_nil)))) (pv 5) (fun _ _ => rfl)))
          (pss_one (ps_if (pt_cmpR (op_eqD hr.units) (C8.pe_c c_with_item hr (by decide) (by rfl) (pa_cons (pv 9) (pa_cons (pv 8) (pa_cons (pe_int) pa_nil)))) (pv 7) (nomark _))
            (pss_one (ps_expr (pe_bm PySem.F.plainAttrs_list PySem.F.slot_list_append PySem.F.type_list_append mt_append (pv 6) (pa_cons (pv 8) pa_nil))))
            (pss_nil))))
          (pss_nil))))
      (pss_one (ps_ret (pv 6)))))))), ?_⟩
    refine ⟨u, rfl, l, rfl, v, rfl, u, l, v, cs, L, bs, rfl, hu, hl, hv, h60, hL, hw, hsum, fun H1 s1 => ?_⟩
    refine ⟨v, rfl, v, bs, rfl, hv.mono s1, hw, fun H2 s2 => ?_⟩
    have s12 := s1.trans s2
    cases bs with
    | nil =>
      refine ⟨rfl, true, rfl, ?_⟩
      refine ⟨(show 0 ≤ sizeLine from line (by decide)), fun p hp => ?_⟩
      exact q p _ (s12.trans (same_new hp)) upd_same
    | cons b bs =>
      obtain ⟨t, n⟩ := b
      have hwb := hw.2 _ List.mem_cons_self
      have hpos := lenB_pos (bs := bs) hwb
      obtain ⟨w1, w20, w3⟩ := hwb
      have w20 : t.length ≤ 20 := w20
      have w3 : 1 ≤ n := w3
      cases t with
      | nil => exact absurd (show 1 ≤ 0 from w1) (by decide)
      | cons p t =>
      refine ⟨rfl, false, no (by unfold vN; intro z; have := V.int.inj z; omega), ?_⟩
      have hv2 := hv.mono s12
      obtain ⟨av, xs, rfl, hav, hxs⟩ := hv2
      obtain ⟨x0, ex0, c, rfl, hc⟩ := hxs.get (i := 0) rfl
      have hc : H2 c = some (.tup [.str (txt (p :: t)), vN n]) := hc
      refine ⟨.ref av, rfl, av, _, 0, _, rfl, rfl, SqL.of hav, atI_nat (j := 0) ex0, c, _, 0, _, rfl, rfl, SqT.of hc, atI_nat (j := 0) rfl, txt (p :: t), 0, cd p, rfl, rfl, line (by rw [txt_len]; omega), atI_nat (j := 0) rfl, ?_⟩
      refine ⟨.ref av, rfl, .ref av, p :: t, n, bs, rfl, hv.mono s12, hw, fun rest H3 s3 hrest => ⟨_, _, rfl, ?_⟩⟩
      have s13 := s12.trans s3
      obtain ⟨p1, p2⟩ := pl_at p
      refine ⟨T.ty _, ltr p, rfl, T.pa, [txt [true], txt [false]], txt [p], pix p, rfl, rfl, T.sq _, p1, p2, (show 0 ≤ sizeLine from line (by decide)), fun pf nf => ⟨_, _, rfl, ?_⟩⟩
      have s14 := s13.trans (same_new (o := .lst []) nf)
      have npf : H pf = none := by
        cases e : H pf with
        | none => rfl
        | some o => rw [s13 _ _ e] at nf; cases nf
      have hfound : upd H3 pf (.lst []) pf = some (.lst []) := upd_same
      have hrest4 := hrest.mono (same_new (o := .lst []) nf)
      generalize upd H3 pf (.lst []) = H4 at *
      refine ⟨u, rfl, l, rfl, .ref av, rfl, u, l, .ref av, cs, L, _, rfl, hu.mono s14, hl.mono s14, hv.mono s14, h60, hL, hw.two, Nat.le_of_eq hsum, fun e H5 s5 he => ?_⟩
      have s15 := s14.trans s5
      obtain ⟨ae, x, y, ze, rfl, hae, hze, hend⟩ := lsr_at he p
      refine ⟨.int (pix p), rfl, ae, _, (pix p : Int), ze, rfl, rfl, SqT.of hae, atI_nat hze, ?_⟩
      refine ⟨l, rfl, ltr p, rfl, l, L, p, rfl, hl.mono s15, fun o ho => ?_⟩
      obtain ⟨ob, rfl, hob⟩ := ho
      refine ⟨ob, rfl, ⟨_, SqT.of hob⟩, ?_⟩
      have hT : expB ((p :: t, n) :: bs) = p :: expB (woF (p :: t) n bs) := expB_woF bs w3
      have hrl : lenB (woF (p :: t) n bs) + 1 = cs.sum := by
        rw [← hsum, ← expB_len, ← expB_len, hT]
        rfl
      rw [hT] at q
      have hend' : TupN H5 ze (bun cs.length p (TG.E cs L (p :: expB (woF (p :: t) n bs)))) := by
        rw [← hT]
        exact hend
      have hll : (L p).length = cs.length := by rw [(hL p).length_eq, List.length_range]
      refine for_it (walk_tup (K := K) (a := ob) (xs := (L p).map vN)) (fun i σ H' => (Same H H' ∧ Tp H5 H' ∧ SeqR H' rest (woF (p :: t) n bs)) ∧ (∃ z8 z9, σ = [some u, some l, some (.ref av), some (ltr p), some rest, some (.int (pix p)), some (.ref pf), some ze, z8, z9]) ∧
        H' pf = some (.lst ((((L p).take i).filter fun k => decide (0 < fn cs k) && decide (incr (bun cs.length p (TG.E (decr cs k) L (expB (woF (p :: t) n bs)))) k = bun cs.length p (TG.E cs L (p :: expB (woF (p :: t) n bs))))).map vN))) ⟨⟨s15, Tp.refl _, hrest4.mono s5⟩, ⟨_, _, rfl⟩, s5 _ _ hfound⟩ (fun i σ H' _ p => SqT.of (p.1.2.1.at hob)) (fun i v σ H6 H' hi pp yy => ?_) (fun σ H' pp => ?_)
      · obtain ⟨⟨s6, t6, hr6⟩, ⟨z8, z9, rfl⟩, hf6⟩ := pp
        obtain ⟨rfl, hxk⟩ := yy
        obtain ⟨k, hk, rfl⟩ := get_vN hxk
        have hkK : k < cs.length := (wl_has hL p k).mp (List.mem_of_getElem? hk)
        rw [List.length_map] at hi
        have hu6 := hu.mono s6
        obtain ⟨au, rfl, hau⟩ := hu6
        by_cases h0 : 0 < fn cs k
        · refine ⟨.ref au, rfl, vN k, rfl, au, _, (k : Int), vN (fn cs k), rfl, rfl, SqT.of hau, atI_nat (at_vN (fn_at hkK)), (fn cs k : Int), 0, rfl, rfl, true, yes (by omega), ?_⟩
          refine ⟨.ref au, rfl, vN k, rfl, 1, rfl, .ref au, cs, k, -1, fn cs k - 1, rfl, ⟨au, rfl, hau⟩, hkK, by omega, by omega, fun cv H7 s7 hcv => ?_⟩
          have hds := decr_sum h0
          have hdl := decr_len cs k
          refine ⟨l, rfl, rest, rfl, cv, l, rest, decr cs k, L, woF (p :: t) n bs, rfl, hcv, hl.mono (s6.trans s7), hr6.mono s7, by omega, by rw [hdl]; exact hL, woF_ok hw, by omega, fun lv H8 s8 hlv => ?_⟩
          obtain ⟨al, x', y', zl, rfl, hal, hzl, hlat⟩ := lsr_at hlv p
          have hlat : TupN H8 zl (bun (decr cs k).length p (TG.E (decr cs k) L (expB (woF (p :: t) n bs)))) := hlat
          rw [hdl] at hlat
          refine ⟨.int (pix p), rfl, al, _, (pix p : Int), zl, rfl, rfl, SqT.of hal, atI_nat hzl, ?_⟩
          refine ⟨zl, rfl, vN k, rfl, zl, _, k, 1, _, rfl, hlat, by rw [bun_len]; exact hkK, by rw [bun_len]; omega, rfl, fun iv H9 s9 hiv => ?_⟩
          have hiv : TupN H9 iv (incr (bun cs.length p (TG.E (decr cs k) L (expB (woF (p :: t) n bs)))) k) := hiv
          have s79 := (s7.trans s8).trans s9
          have hend9 : TupN H9 ze (bun cs.length p (TG.E cs L (p :: expB (woF (p :: t) n bs)))) := (hend'.tp t6).mono s79
          refine ⟨ze, rfl, dT _, dT _, hiv.dp, hend9.dp, shT _, shT _, ?_⟩
          rw [eqT]
          have hf9 := s79 _ _ hf6
          have st6 : Tp H5 H9 := t6.trans s79.tp
          have sr9 := hr6.mono s79
          by_cases he : incr (bun cs.length p (TG.E (decr cs k) L (expB (woF (p :: t) n bs)))) k = bun cs.length p (TG.E cs L (p :: expB (woF (p :: t) n bs)))
          · refine ⟨true, yes he, ?_⟩
            refine ⟨.ref pf, rfl, .inl ⟨rfl, _, SqL.of hf9⟩, vN k, rfl, pf, _, vN k, rfl, rfl, hf9, lineL ?_, ⟨?_, ?_, ?_⟩, ⟨_, _, rfl⟩, ?_⟩
            · rw [List.length_map]
              have h1 := List.length_filter_le (fun k => decide (0 < fn cs k) && decide (incr (bun cs.length p (TG.E (decr cs k) L (expB (woF (p :: t) n bs)))) k = bun cs.length p (TG.E cs L (p :: expB (woF (p :: t) n bs))))) ((L p).take i)
              rw [List.length_take] at h1
              omega
            · exact (s6.trans s79).app npf
            · exact st6.trans (Tp.lst hf9)
            · obtain ⟨ar, vr, rfl, har, hvr⟩ := sr9
              have hne : ar ≠ pf := by
                intro z
                obtain ⟨ar', vr', er', har', hvr'⟩ := hrest
                cases er'
                rw [z] at har'
                rw [nf] at har'
                cases har'
              refine ⟨ar, vr, rfl, by rw [upd_ne hne]; exact har, hvr.mono fun _ _ zz => zz.tp (Tp.lst hf9)⟩
            · rw [upd_same, filter_snoc hk, if_pos (by rw [decide_eq_true h0, decide_eq_true he]; rfl), List.map_append]
              rfl
          · refine ⟨false, no he, ⟨s6.trans s79, st6, sr9⟩, ⟨_, _, rfl⟩, ?_⟩
            rw [hf9, filter_snoc hk, if_neg (by rw [decide_eq_false he, Bool.and_false]; exact Bool.false_ne_true), List.append_nil]
        · refine ⟨.ref au, rfl, vN k, rfl, au, _, (k : Int), vN (fn cs k), rfl, rfl, SqT.of hau, atI_nat (at_vN (fn_at hkK)), (fn cs k : Int), 0, rfl, rfl, false, no (by omega), ?_⟩
          refine ⟨⟨s6, t6, hr6⟩, ⟨_, _, rfl⟩, ?_⟩
          rw [hf6, filter_snoc hk, if_neg (by rw [decide_eq_false h0, Bool.false_and]; exact Bool.false_ne_true), List.append_nil]
      · obtain ⟨⟨s6, t6, hr6⟩, ⟨z8, z9, rfl⟩, hf6⟩ := pp
        rw [List.length_map, List.take_length] at hf6
        exact ⟨.ref pf, rfl, q pf H' s6 hf6⟩
end
end TG
namespace TG
open PySem PySem.Spec PyProof.Rows L2 TGZ
abbrev st_rest_of : Stmt := topS 32
abbrev N_rest_of : List Str := ["sequence", "picks", "found", "turns", "times", "whole"]
theorem sc_rest_of : FnScope N_rest_of ["sequence", "picks"] (C8.fnScope st_rest_of) := C8.fnScope_by (by decide +kernel)
theorem drop_rep {α : Type} {w n : Nat} (h : w ≤ n) (t : List α) (d : Nat) (rest : List α) : ((List.replicate n t).flatten ++ rest).drop (w * t.length + d) = ((List.replicate (n - w) t).flatten ++ rest).drop d := by
  rw [rep_split h t, List.append_assoc, ← List.drop_drop]
  congr 1
  have : (List.replicate w t).flatten.length = w * t.length := rep_len w rfl
  rw [← this, List.drop_left]
/-- the blocks that one block leaves when r picks are passed, and the picks still to pass -/
def restAdd (t : List Bool) (n r : Nat) : List Blk :=
  if min n (r / t.length) < n then (if 0 < r - min n (r / t.length) * t.length then (t.drop (r - min n (r / t.length) * t.length), 1) :: (if min n (r / t.length) + 1 < n then [(t, n - (min n (r / t.length) + 1))] else []) else [(t, n - min n (r / t.length))]) else []
def restLeft (t : List Bool) (n r : Nat) : Nat := if min n (r / t.length) < n then 0 else r - min n (r / t.length) * t.length
theorem expB_one (t : List Bool) (n : Nat) : expB [(t, n)] = (List.replicate n t).flatten := by simp [expB]
theorem rest_min {t : List Bool} {n r : Nat} (h1 : 1 ≤ t.length) : min n (r / t.length) * t.length ≤ r := by
  have h2 := Nat.div_mul_le_self r t.length
  have h3 : min n (r / t.length) * t.length ≤ (r / t.length) * t.length := Nat.mul_le_mul_right _ (Nat.min_le_right _ _)
  omega
theorem rest_lt {t : List Bool} {n r : Nat} (h1 : 1 ≤ t.length) (h : min n (r / t.length) < n) : r - min n (r / t.length) * t.length < t.length := by
  have e : min n (r / t.length) = r / t.length := by omega
  rw [e]
  have := Nat.div_add_mod r t.length
  have h2 := Nat.mod_lt r (show 0 < t.length by omega)
  rw [Nat.mul_comm] at this
  omega
theorem rest_step {t : List Bool} {n r : Nat} (h1 : 1 ≤ t.length) (rest : List Bool) (hr : r ≤ n * t.length + rest.length) : expB (restAdd t n r) ++ rest.drop (restLeft t n r) = ((List.replicate n t).flatten ++ rest).drop r ∧ restLeft t n r ≤ rest.length := by
  have hm := rest_min (n := n) (r := r) h1
  have er : r = min n (r / t.length) * t.length + (r - min n (r / t.length) * t.length) := by omega
  have hd := drop_rep (Nat.min_le_left n (r / t.length)) t (r - min n (r / t.length) * t.length) rest
  rw [← er] at hd
  rw [hd]
  have hlt := rest_lt (n := n) (r := r) h1
  unfold restAdd restLeft
  generalize hw : min n (r / t.length) = w at *
  generalize hq : r - w * t.length = d at *
  by_cases c1 : w < n
  · rw [if_pos c1, if_pos c1]
    refine ⟨?_, Nat.zero_le _⟩
    have e1 : n - w = (n - (w + 1)) + 1 := by omega
    by_cases c2 : 0 < d
    · rw [if_pos c2, e1, List.replicate_succ, List.flatten_cons, List.append_assoc, List.drop_append_of_le_length (by have := hlt c1; omega)]
      have e2 : expB (if w + 1 < n then [(t, n - (w + 1))] else []) = (List.replicate (n - (w + 1)) t).flatten := by
        by_cases c3 : w + 1 < n
        · rw [if_pos c3, expB_one]
        · rw [if_neg c3, show n - (w + 1) = 0 by omega]
          rfl
      rw [expB_cons, e2]
      simp
    · rw [if_neg c2, expB_one, show d = 0 by omega]
      simp
  · rw [if_neg c1, if_neg c1]
    have e : n - w = 0 := by omega
    rw [e]
    refine ⟨by simp [expB], ?_⟩
    have hwn : w = n := by omega
    subst hwn
    omega
theorem rest_ok {t : List Bool} {n r : Nat} (h1 : 1 ≤ t.length) (h20 : t.length ≤ 20) : ∀ b ∈ restAdd t n r, WB b := by
  intro b hb
  have hlt := rest_lt (n := n) (r := r) h1
  unfold restAdd at hb
  split at hb
  · rename_i c1
    split at hb
    · rename_i c2
      rcases List.mem_cons.mp hb with rfl | hb
      · have := hlt c1
        exact ⟨by rw [List.length_drop]; omega, by rw [List.length_drop]; omega, Nat.le_refl _⟩
      · split at hb
        · rw [List.mem_singleton.mp hb]
          exact ⟨h1, h20, by show 1 ≤ n - _; omega⟩
        · cases hb
    · rw [List.mem_singleton.mp hb]
      exact ⟨h1, h20, by show 1 ≤ n - _; omega⟩
  · cases hb
theorem rest_count {t : List Bool} {n r : Nat} : (restAdd t n r).length ≤ (if r = 0 then 1 else if restLeft t n r = 0 then 2 else 0) := by
  unfold restAdd restLeft
  by_cases c1 : min n (r / t.length) < n
  · rw [if_pos c1, if_pos c1]
    by_cases h0 : r = 0
    · subst h0
      rw [if_pos rfl]
      simp
    · rw [if_neg h0, if_pos rfl]
      split
      · split <;> simp
      · simp
  · rw [if_neg c1, if_neg c1]
    simp
/-- a new block behind a new list's items -/
theorem put_blk {H H' : Hp} {p2 pf : Addr} {t : List Bool} {n : Nat} {vs : List V} {ds : List Blk} {x : HO} (s : Same H H') (npf : H pf = none) (n2 : H' p2 = none) (i1 : H' pf = some (.lst vs)) (i2 : All2 (BlkR H') vs ds) (ex : x = .tup [.str (txt t), vN n]) :
    (upd H' p2 x) pf = some (.lst vs) ∧ Same H (upd (upd H' p2 x) pf (.lst (vs ++ [.ref p2]))) ∧ Tp H' (upd (upd H' p2 x) pf (.lst (vs ++ [.ref p2]))) ∧ (upd (upd H' p2 x) pf (.lst (vs ++ [.ref p2]))) pf = some (.lst (vs ++ [.ref p2])) ∧
      All2 (BlkR (upd (upd H' p2 x) pf (.lst (vs ++ [.ref p2])))) (vs ++ [.ref p2]) (ds ++ [(t, n)]) := by
  have s2 : Same H' (upd H' p2 x) := same_new n2
  have e1 := s2 _ _ i1
  have t1 : Tp (upd H' p2 x) (upd (upd H' p2 x) pf (.lst (vs ++ [.ref p2]))) := Tp.lst e1
  refine ⟨e1, (s.trans s2).app npf, s2.tp.trans t1, upd_same, (i2.mono fun _ _ z => z.tp (s2.tp.trans t1)).snoc ⟨p2, rfl, t1.at ?_⟩⟩
  rw [upd_same, ex]
section
variable {P : Program} {w : World} {K : PySem.W.Frag} {mg : Str → Option Value} {base : Heap}
def sp_rest_of : Sp := fun vs H Q _ => ∃ (v : V) (bs : List Blk) (m : Nat), vs = [v, vN m] ∧ SeqR H v bs ∧ WS bs ∧ bs.length ≤ 199 ∧ m ≤ lenB bs ∧ ∀ v' bs' H', Same H H' → SeqR H' v' bs' → WS bs' → expB bs' = (expB bs).drop m → Q v' H'
theorem ok_rest_of (T : Blt K mg) (dF : Df K mg "rest_of" st_rest_of ["sequence", "picks"]) (c_require_sequence : C8.Cal P w K mg base 4 "require_sequence" sp_require_sequence []) (c_is_between : C8.Cal P w K mg base 2 "is_between" sp_is_between []) (c_picks_of : C8.Cal P w K mg base 1 "picks_of" sp_picks_of []) : C8.Cal P w K mg base 5 "rest_of" sp_rest_of [] := by
  have nd := sc_rest_of.nd
  refine cal_of dF sc_rest_of (fun vs H Q E h => ?_) (fun cdv A outer s H vs Q E hr h => ?_)
  · obtain ⟨v, bs, m, rfl, _⟩ := h
    rfl
  · obtain ⟨v, bs, m, rfl, ⟨a, xs, rfl, ha, hb⟩, hw, h199, hm, q⟩ := h
    refine ⟨_, pss_cons (ps_expr (C8.pe_c c_require_sequence hr (by decide) (by rfl) (pa_cons (pv 0) pa_nil)))
      (pss_cons (ps_if (pt_not (pt_val (C8.pe_c c_is_between hr (by decide) (by rfl) (pa_cons (pv 1) (pa_cons (pe_int) (pa_cons (C8.pe_c c_picks_of hr (by decide) (by rfl) (pa_cons (pv 0) pa_nil)) pa_nil))))))
        (pss_never)
        (pss_nil))
      (pss_cons (ps_if (pt_cmpR op_eq (pe_callB (call_len_seqK (K := K) rfl) (by rfl) T.len_ bb_len (pa_cons (pv 0) pa_nil)) (C8.pe_gc (by rfl) T.MAX_BLOCKS) (nomark _))
        (pss_never)
        (pss_nil))
      (pss_cons (ps_set (i := 2) nd rfl (Or.inl rfl) (pe_lst (pa_nil)))
      (pss_cons (ps_for PassesOwn.never rfl (pi_list (pv 0)) (pg_tup rfl (pgs_cons (pg_name (i := 3) nd rfl (Or.inl rfl)) (pgs_cons (pg_name (i := 4) nd rfl (Or.inl rfl)) pgs_nil)))
        (pss_cons (ps_set (i := 5) nd rfl (Or.inl rfl) (pe_callB (call_min2 rfl) (by rfl) T.min_ bb_min (pa_cons (pv 4) (pa_cons (pe_op op_fdiv (pv 1) (pe_callB call_len_str (by rfl) T.len_ bb_len (pa_cons (pv 3) pa_nil))) pa_nil))))
        (pss_cons (ps_aug (i := 1) nd rfl (Or.inl rfl) (pe_op op_mul (pv 5) (pe_callB call_len_str (by rfl) T.len_ bb_len (pa_cons (pv 3) pa_nil))) ip_sub)
        (pss_cons (ps_if ((pw_and (pt_cmpR op_lt (pv 5) (pv 4) (nomark _)) (pw_and1 (pt_cmpR op_gt (pv 1) (pe_int) (nomark _)))).pt)
          (pss_cons (ps_expr (pe_bm PySem.F.plainAttrs_list PySem.F.slot_list_append PySem.F.type_list_append mt_append (pv 2) (pa_cons (pe_tup (pa_cons (pe_slice sl_str (pv 3) (po_some (pv 1)) po_none) (pa_cons (pe_int) pa_nil))) pa_nil)))
          (pss_one (ps_par (i := 1) (j := 5) rfl nd rfl rfl (by decide) rfl rfl (pa_cons (pe_int) (pa_cons (pe_op op_add (pv 5) (pe_int)) pa_nil)) (by first | rfl | decide +kernel))))
          (pss_nil))
        (pss_one (ps_if (pt_cmpR op_lt (pv 5) (pv 4) (nomark _))
          (pss_one (ps_expr (pe_bm PySem.F.plainAttrs_list PySem.F.slot_list_append PySem.F.type_list_append mt_append (pv 2) (pa_cons (pe_tup (pa_cons (pv 3) (pa_cons (pe_op op_sub (pv 4) (pv 5)) pa_nil))) pa_nil))))
          (pss_nil)))))))
      (pss_one (ps_ret (pv 2))))))), ?_⟩
    have hv : SeqR H (.ref a) bs := ⟨a, xs, rfl, ha, hb⟩
    refine ⟨.ref a, rfl, .ref a, bs, rfl, hv, hw, fun H1 s1 => ?_⟩
    refine ⟨vN m, rfl, .ref a, rfl, .ref a, bs, rfl, hv.mono s1, hw, fun H2 s2 => ?_⟩
    have s12 := s1.trans s2
    refine ⟨(m : Int), 0, (lenB bs : Int), rfl, true, ?_, ?_⟩
    · rw [decide_eq_true (show (0 : Int) ≤ (m : Int) by omega), decide_eq_true (show (m : Int) ≤ (lenB bs : Int) by omega)]
      rfl
    refine ⟨.ref a, rfl, a, _, rfl, .inl (SqL.of (s12 _ _ ha)), rfl, false, no (by rw [hb.1]; intro z; have := V.int.inj z; omega), ?_⟩
    refine ⟨(show 0 ≤ sizeLine from line (by decide)), fun pf nf => ?_⟩
    have npf : H pf = none := by
      cases e : H pf with
      | none => rfl
      | some o => rw [s12 _ _ e] at nf; cases nf
    have s3 := s12.trans (same_new (o := .lst []) nf)
    refine ⟨.ref a, rfl, a, rfl, ⟨_, SqL.of (s3 _ _ ha)⟩, ?_⟩
    refine for_it (walk_list (K := K) (a := a) (xs := xs)) (fun i σ H' => Same H H' ∧ ∃ (r : Nat) (z3 z4 z5 : Option V) (ds : List Blk) (vs : List V), σ = [some (.ref a), some (vN r), some (.ref pf), z3, z4, z5] ∧ H' pf = some (.lst vs) ∧ All2 (BlkR H') vs ds ∧ (∀ b ∈ ds, WB b) ∧
      expB ds ++ (expB (bs.drop i)).drop r = (expB bs).drop m ∧ r ≤ (expB (bs.drop i)).length ∧ ds.length ≤ (if r = 0 then i + 1 else 0)) ⟨s3, m, _, _, _, [], [], rfl, upd_same, All2.nil, fun b h => by simp at h, by simp [expB], by rw [List.drop_zero, expB_len]; exact hm, Nat.zero_le _⟩ (fun i σ H' _ p => SqL.of (p.1 _ _ ha)) (fun i x σ H3 H' hi p y => ?_) (fun σ H' p => ?_)
    · obtain ⟨rfl, hxi⟩ := y
      obtain ⟨s, r, z3, z4, z5, ds, vs, rfl, i1, i2, i3, i4, i5, i6⟩ := p
      obtain ⟨⟨t, n⟩, eb, rb⟩ := hb.getV hxi
      obtain ⟨ab, rfl, hab⟩ := rb.mono s
      have hab : H' ab = some (.tup [.str (txt t), vN n]) := hab
      obtain ⟨b1, b20, bn⟩ := hw.2 _ (List.mem_of_getElem? eb)
      have b1 : 1 ≤ t.length := b1
      have b20 : t.length ≤ 20 := b20
      have bn : 1 ≤ n := bn
      have hib : i < bs.length := (List.getElem?_eq_some_iff.mp eb).1
      have hdrop : bs.drop i = (t, n) :: bs.drop (i + 1) := by
        rw [List.drop_eq_getElem_cons hib, (List.getElem?_eq_some_iff.mp eb).2]
      rw [hdrop, expB_cons] at i4 i5
      have hfl : (List.replicate n t).flatten.length = n * t.length := rep_len n rfl
      obtain ⟨st1, st2⟩ := rest_step (n := n) (r := r) b1 (expB (bs.drop (i + 1))) (by rw [List.length_append, hfl] at i5; exact i5)
      have hmn := rest_min (n := n) (r := r) b1
      have hlt := rest_lt (n := n) (r := r) b1
      have hok := rest_ok (n := n) (r := r) b1 b20
      have hcnt := rest_count (t := t) (n := n) (r := r)
      have hline : (txt t).length ≤ sizeLine := line (by rw [txt_len]; omega)
      have hds : ds.length ≤ 200 := by split at i6 <;> omega
      have hvs : vs.length ≤ 200 := by rw [i2.1]; exact hds
      -- what is to be shown at the end of the turn
      have fin : ∀ (H6 : Hp) (z3 z4 z5 : Option V) (vs' : List V) (r' : Nat), Same H H6 → H6 pf = some (.lst (vs ++ vs')) → All2 (BlkR H6) (vs ++ vs') (ds ++ restAdd t n r) → r' = restLeft t n r →
          Same H H6 ∧ ∃ (r : Nat) (z3' z4' z5' : Option V) (ds : List Blk) (vs : List V), [some (.ref a), some (vN r'), some (.ref pf), z3, z4, z5] = [some (.ref a), some (vN r), some (.ref pf), z3', z4', z5'] ∧ H6 pf = some (.lst vs) ∧ All2 (BlkR H6) vs ds ∧ (∀ b ∈ ds, WB b) ∧
            expB ds ++ (expB (bs.drop (i + 1))).drop r = (expB bs).drop m ∧ r ≤ (expB (bs.drop (i + 1))).length ∧ ds.length ≤ (if r = 0 then i + 1 + 1 else 0) := by
        intro H6 z3 z4 z5 vs' r' h1 h2 h3 h4
        refine ⟨h1, r', _, _, _, ds ++ restAdd t n r, vs ++ vs', rfl, h2, h3, fun b hb => ?_, ?_, ?_, ?_⟩
        · rcases List.mem_append.mp hb with z | z
          · exact i3 b z
          · exact hok b z
        · rw [expB_append, List.append_assoc, h4, st1, ← i4]
        · rw [h4]; exact st2
        · rw [List.length_append, h4]
          by_cases h0 : r = 0
          · subst h0
            rw [if_pos rfl] at i6 hcnt
            have : restLeft t n 0 = 0 := by
              unfold restLeft
              simp
            rw [this, if_pos rfl]
            omega
          · rw [if_neg h0] at i6 hcnt
            by_cases h5 : restLeft t n r = 0
            · rw [if_pos h5] at hcnt ⊢
              omega
            · rw [if_neg h5] at hcnt ⊢
              omega
      have ewi : (if ((r : Int) / ((txt t).length : Int)) < (n : Int) then ((r : Int) / ((txt t).length : Int)) else (n : Int)) = ((min n (r / t.length) : Nat) : Int) := by
        rw [txt_len, ← Int.natCast_ediv]
        split <;> omega
      refine ⟨ab, _, rfl, SqT.of hab, rfl, _, _, rfl, _, _, rfl, rfl, ?_⟩
      refine ⟨vN n, rfl, vN r, rfl, .str (txt t), rfl, txt t, rfl, hline, (r : Int), ((txt t).length : Int), rfl, rfl, ⟨by rw [txt_len]; omega, by rw [txt_len]; omega⟩, (n : Int), _, rfl, ?_⟩
      dsimp only
      rw [ewi]
      generalize hwd : min n (r / t.length) = w at *
      refine ⟨vN r, rfl, vN w, rfl, .str (txt t), rfl, txt t, rfl, hline, (w : Int), ((txt t).length : Int), rfl, rfl, .inr ⟨by rw [txt_len]; omega, by rw [txt_len]; omega⟩, (r : Int), _, rfl, rfl, ?_⟩
      have erd : V.int ((r : Int) - (w : Int) * ((txt t).length : Int)) = vN (r - w * t.length) := by
        unfold vN
        congr 1
        rw [txt_len]
        have : ((w * t.length : Nat) : Int) = (w : Int) * (t.length : Int) := Int.natCast_mul _ _
        omega
      generalize hqd : r - w * t.length = d at *
      have hcast : (r : Int) - (w : Int) * ((txt t).length : Int) = (d : Int) := V.int.inj erd
      have hcz : cutS (txt t) (some ((r : Int) - (w : Int) * ((txt t).length : Int))) none = txt (t.drop d) := by rw [hcast, cutS_lo]
      by_cases c1 : w < n
      · by_cases c2 : 0 < d
        · refine ⟨vN w, rfl, vN n, rfl, (w : Int), (n : Int), rfl, rfl, true, yes (by omega), _, rfl, _, 0, rfl, rfl, true, yes (show (0 : Int) < (r : Int) - (w : Int) * ((txt t).length : Int) by omega), ?_⟩
          refine ⟨.ref pf, rfl, .inl ⟨rfl, _, SqL.of i1⟩, .str (txt t), rfl, _, rfl, _, rfl, txt t, rfl, hline, (show 2 ≤ sizeLine from line (by decide)), fun p2 n2 => ?_⟩
          obtain ⟨b0, b1', b2, b3, b4⟩ := put_blk (t := t.drop d) (n := 1) (x := .tup [V.str (cutS (txt t) (some ((r : Int) - (w : Int) * ((txt t).length : Int))) none), .int 1]) s npf n2 i1 i2 (by rw [hcz]; rfl)
          refine ⟨pf, vs, _, rfl, rfl, b0, lineL (by omega), ?_⟩
          refine ⟨vN w, rfl, (w : Int), 1, rfl, rfl, _, _, rfl, ?_⟩
          by_cases c3 : w + 1 < n
          · refine ⟨_, rfl, vN n, rfl, _, (n : Int), rfl, rfl, true, yes (show (w : Int) + 1 < (n : Int) by omega), ?_⟩
            refine ⟨.ref pf, rfl, .inl ⟨rfl, _, SqL.of b3⟩, .str (txt t), rfl, vN n, rfl, _, rfl, (n : Int), _, rfl, rfl, (show 2 ≤ sizeLine from line (by decide)), fun p3 n3 => ?_⟩
            obtain ⟨d0, d1, d2, d3, d4⟩ := put_blk (t := t) (n := n - (w + 1)) (x := .tup [.str (txt t), .int ((n : Int) - ((w : Int) + 1))]) b1' npf n3 b3 b4 (by rw [vN]; congr 4; omega)
            refine ⟨pf, _, _, rfl, rfl, d0, lineL (by simp; omega), ?_⟩
            have hra : restAdd t n r = [(t.drop d, 1), (t, n - (w + 1))] := by
              unfold restAdd
              rw [hwd, hqd, if_pos c1, if_pos c2, if_pos c3]
            have hrl : restLeft t n r = 0 := by
              unfold restLeft
              rw [hwd, if_pos c1]
            refine fin _ _ _ _ ([.ref p2] ++ [.ref p3]) 0 d1 ?_ ?_ hrl.symm
            · rw [← List.append_assoc]
              exact d3
            · rw [hra]
              show All2 _ _ (ds ++ ([(t.drop d, 1)] ++ [(t, n - (w + 1))]))
              rw [← List.append_assoc, ← List.append_assoc]
              exact d4
          · refine ⟨_, rfl, vN n, rfl, _, (n : Int), rfl, rfl, false, no (show ¬ (w : Int) + 1 < (n : Int) by omega), ?_⟩
            have hra : restAdd t n r = [(t.drop d, 1)] := by
              unfold restAdd
              rw [hwd, hqd, if_pos c1, if_pos c2, if_neg c3]
            have hrl : restLeft t n r = 0 := by
              unfold restLeft
              rw [hwd, if_pos c1]
            exact fin _ _ _ _ [.ref p2] 0 b1' b3 (by rw [hra]; exact b4) hrl.symm
        · refine ⟨vN w, rfl, vN n, rfl, (w : Int), (n : Int), rfl, rfl, true, yes (by omega), _, rfl, _, 0, rfl, rfl, false, no (show ¬ (0 : Int) < (r : Int) - (w : Int) * ((txt t).length : Int) by omega), ?_⟩
          refine ⟨vN w, rfl, vN n, rfl, (w : Int), (n : Int), rfl, rfl, true, yes (by omega), ?_⟩
          refine ⟨.ref pf, rfl, .inl ⟨rfl, _, SqL.of i1⟩, .str (txt t), rfl, vN n, rfl, vN w, rfl, (n : Int), (w : Int), rfl, rfl, (show 2 ≤ sizeLine from line (by decide)), fun p3 n3 => ?_⟩
          obtain ⟨d0, d1, d2, d3, d4⟩ := put_blk (t := t) (n := n - w) (x := .tup [.str (txt t), .int ((n : Int) - (w : Int))]) s npf n3 i1 i2 (by rw [vN]; congr 4; omega)
          refine ⟨pf, _, _, rfl, rfl, d0, lineL (by omega), ?_⟩
          have hra : restAdd t n r = [(t, n - w)] := by
            unfold restAdd
            rw [hwd, hqd, if_pos c1, if_neg c2]
          have hrl : restLeft t n r = 0 := by
            unfold restLeft
            rw [hwd, if_pos c1]
          have hd0 : d = 0 := by omega
          have res := fin _ (some (.str (txt t))) (some (vN n)) (some (vN w)) [.ref p3] d d1 d3 (by rw [hra]; exact d4) (by rw [hrl]; exact hd0)
          rw [← erd] at res
          exact res
      · refine ⟨vN w, rfl, vN n, rfl, (w : Int), (n : Int), rfl, rfl, false, no (by omega), ?_⟩
        refine ⟨vN w, rfl, vN n, rfl, (w : Int), (n : Int), rfl, rfl, false, no (by omega), ?_⟩
        have hra : restAdd t n r = [] := by
          unfold restAdd
          rw [hwd, if_neg c1]
        have hrl : restLeft t n r = d := by
          unfold restLeft
          rw [hwd, hqd, if_neg c1]
        have res := fin H' (some (.str (txt t))) (some (vN n)) (some (vN w)) [] d s (by rw [List.append_nil]; exact i1) (by rw [hra, List.append_nil, List.append_nil]; exact i2) hrl.symm
        rw [← erd] at res
        exact res
    · obtain ⟨s, r, z3, z4, z5, ds, vs, rfl, i1, i2, i3, i4, i5, i6⟩ := p
      refine ⟨.ref pf, rfl, ?_⟩
      rw [hb.1, List.drop_length] at i4 i5
      have er : r = 0 := by
        have : (expB ([] : List Blk)).length = 0 := rfl
        omega
      subst er
      have e0 : expB ([] : List Blk) = [] := rfl
      rw [e0, List.drop_nil, List.append_nil] at i4
      rw [if_pos rfl] at i6
      exact q _ ds H' s ⟨pf, vs, rfl, i1, i2⟩ ⟨by rw [hb.1] at i6; omega, i3⟩ i4
end
end TG
namespace TG
open PySem PySem.Spec PyProof.Rows L2 TGZ
abbrev st_first_unlike : Stmt := topS 33
abbrev N_first_unlike : List Str := ["one", "other", "place", "at", "starts", "first", "second", "spans", "shared", "step", "side", "span", "block", "start"]
theorem sc_first_unlike : FnScope N_first_unlike ["one", "other"] (C8.fnScope st_first_unlike) := C8.fnScope_by (by decide +kernel)
abbrev st_first_difference : Stmt := topS 34
abbrev N_first_difference : List Str := ["one", "other"]
theorem sc_first_difference : FnScope N_first_difference ["one", "other"] (C8.fnScope st_first_difference) := C8.fnScope_by (by decide +kernel)
theorem rep_at {α : Type} (t : List α) : ∀ (n k : Nat), k < n * t.length → (List.replicate n t).flatten[k]? = t[k % t.length]?
  | 0, k, h => by simp at h
  | n + 1, k, h => by
    rw [List.replicate_succ, List.flatten_cons]
    by_cases hk : k < t.length
    · rw [List.getElem?_append_left hk, Nat.mod_eq_of_lt hk]
    · rw [List.getElem?_append_right (by omega), rep_at t n (k - t.length) (by rw [Nat.add_mul, Nat.one_mul] at h; omega)]
      rw [Nat.mod_eq_sub_mod (a := k) (by omega)]
def GoodAt (as : List Blk) (i s : Nat) : Prop := (i = as.length ∧ s = 0) ∨ ∃ b, as[i]? = some b ∧ s < b.1.length * b.2
def nxA (a sp m : Nat) : Nat := if sp = m then a + 1 else a
def nxS (s sp m : Nat) : Nat := if sp = m then 0 else s + m
theorem drop_at {as : List Blk} {i : Nat} {t : List Bool} {n : Nat} (h : as[i]? = some (t, n)) : expB (as.drop i) = (List.replicate n t).flatten ++ expB (as.drop (i + 1)) := by
  have hi : i < as.length := (List.getElem?_eq_some_iff.mp h).1
  have e : as.drop i = (t, n) :: as.drop (i + 1) := by rw [List.drop_eq_getElem_cons hi, (List.getElem?_eq_some_iff.mp h).2]
  rw [e, expB_cons]
theorem adv {as : List Blk} (hw : ∀ b ∈ as, WB b) {i s : Nat} {t : List Bool} {n m : Nat} (h : as[i]? = some (t, n)) (hs : s < t.length * n) (hm : m ≤ t.length * n - s) :
    (expB (as.drop (nxA i (t.length * n - s) m))).drop (nxS s (t.length * n - s) m) = ((expB (as.drop i)).drop s).drop m ∧ GoodAt as (nxA i (t.length * n - s) m) (nxS s (t.length * n - s) m) ∧ nxA i (t.length * n - s) m ≤ as.length := by
  have hi : i < as.length := (List.getElem?_eq_some_iff.mp h).1
  have hl : (List.replicate n t).flatten.length = t.length * n := by rw [rep_len n rfl, Nat.mul_comm]
  unfold nxA nxS
  by_cases e : t.length * n - s = m
  · rw [if_pos e, if_pos e, List.drop_zero]
    refine ⟨?_, ?_, by omega⟩
    · rw [drop_at h, List.drop_drop, show s + m = (List.replicate n t).flatten.length by omega, List.drop_left]
    · by_cases h1 : i + 1 = as.length
      · exact .inl ⟨h1, rfl⟩
      · have h2 : i + 1 < as.length := by omega
        refine .inr ⟨as[i + 1], List.getElem?_eq_getElem h2, ?_⟩
        obtain ⟨w1, w2, w3⟩ := hw as[i + 1] (List.getElem_mem h2)
        exact Nat.mul_pos w1 w3
  · rw [if_neg e, if_neg e]
    refine ⟨by rw [List.drop_drop], .inr ⟨_, h, ?_⟩, by omega⟩
    show s + m < t.length * n
    omega
theorem good_end {bs : List Blk} (hw : ∀ b ∈ bs, WB b) {j t : Nat} (g : GoodAt bs j t) (e : (expB (bs.drop j)).drop t = []) : j = bs.length := by
  rcases g with g | ⟨⟨t2, n2⟩, hb, ht⟩
  · exact g.1
  · exfalso
    rw [drop_at hb] at e
    have := congrArg List.length e
    rw [List.length_drop, List.length_append, rep_len n2 rfl, Nat.mul_comm] at this
    have ht : t < t2.length * n2 := ht
    have e0 : ([] : List Bool).length = 0 := rfl
    omega
/-- the letter at a place within a block -/
theorem letter_at {as : List Blk} {i s k : Nat} {t : List Bool} {n : Nat} (h : as[i]? = some (t, n)) (hk : s + k < t.length * n) : ((expB (as.drop i)).drop s)[k]? = t[(s + k) % t.length]? := by
  rw [drop_at h, List.getElem?_drop, List.getElem?_append_left (by rw [rep_len n rfl, Nat.mul_comm]; exact hk), rep_at t n (s + k) (by rw [Nat.mul_comm]; exact hk)]
theorem chr_at {t : List Bool} {k : Nat} {b : Bool} (h : t[k]? = some b) : (txt t).cps.toList[k]? = some (cd b) := by
  show (t.map cd).toArray.toList[k]? = _
  rw [List.toList_toArray, List.getElem?_map, h]
  rfl
section
variable {P : Program} {w : World} {K : PySem.W.Frag} {mg : Str → Option Value} {base : Heap}
def sp_first_unlike : Sp := fun vs H Q _ => ∃ (u v : V) (as bs : List Blk), vs = [u, v] ∧ SeqR H u as ∧ SeqR H v bs ∧ WS as ∧ WS bs ∧ expB as = expB bs ∧ ∀ H', Same H H' → Q .non H'
theorem ok_first_unlike (T : Blt K mg) (dF : Df K mg "first_unlike" st_first_unlike ["one", "other"])  : C8.Cal P w K mg base 1 "first_unlike" sp_first_unlike [] := by
  have nd := sc_first_unlike.nd
  refine cal_of dF sc_first_unlike (fun vs H Q E h => ?_) (fun cdv A outer s H vs Q E hr h => ?_)
  · obtain ⟨u, v, as, bs, rfl, _⟩ := h
    rfl
  · obtain ⟨u, v, as, bs, rfl, ⟨au, xs, rfl, hau, hx⟩, ⟨av, ys, rfl, hav, hy⟩, wa, wb, heq, q⟩ := h
    refine ⟨_, pss_cons (ps_par3 (i := 2) (j := 3) (l := 4) rfl nd rfl rfl rfl (by decide) (by decide) (by decide) rfl rfl rfl (pa_cons (pe_int) (pa_cons (pe_lst (pa_cons (pe_int) (pa_cons (pe_int) pa_nil))) (pa_cons (pe_lst (pa_cons (pe_int) (pa_cons (pe_int) pa_nil))) pa_nil))) (by first | rfl | decide +kernel))
      (pss_cons (ps_while PassesOwn.never ((pw_and (pt_cmpR op_lt (pe_ix ix_list (pv 3) (pe_int) (fun _ _ => rfl)) (pe_callB (call_len_seqK (K := K) rfl) (by rfl) T.len_ bb_len (pa_cons (pv 0) pa_nil)) (nomark _)) (pw_and1 (pt_cmpR op_lt (pe_ix ix_list (pv 3) (pe_int) (fun _ _ => rfl)) (pe_callB (call_len_seqK (K := K) rfl) (by rfl) T.len_ bb_len (pa_cons (pv 1) pa_nil)) (nomark _)))).pt)
        (pss_cons (ps_par (i := 5) (j := 6) rfl nd rfl rfl (by decide) rfl rfl (pa_cons (pe_ix ix_list (pv 0) (pe_ix ix_list (pv 3) (pe_int) (fun _ _ => rfl)) (fun _ _ => rfl)) (pa_cons (pe_ix ix_list (pv 1) (pe_ix ix_list (pv 3) (pe_int) (fun _ _ => rfl)) (fun _ _ => rfl)) pa_nil)) (by first | rfl | decide +kernel))
        (pss_cons (ps_setLc (i := 7) (own := [("block", 12), ("start", 13)]) (g := gTup K 2 (gCons (gName 12) (gCons (gName 13) gNil))) (tt := tYes) rfl nd rfl rfl (sw_true rfl rfl rfl (by decide +kernel)) (pi_zs (by rfl) T.zip_ (pa_cons (pe_tup (pa_cons (pv 5) (pa_cons (pv 6) pa_nil))) (pa_cons (pv 4) pa_nil))) (blkOk_by (N := N_first_unlike) (sc := C8.fnScope st_first_unlike) (by decide +kernel))
          (fun _ _ _ _ _ => pg_tup rfl (pgs_cons (pg_name (i := 12) nd rfl (Or.inl rfl)) (pgs_cons (pg_name (i := 13) nd rfl (Or.inl rfl)) pgs_nil))) (fun _ _ _ _ _ => pts_nil)
          (fun _ _ _ _ _ => pe_op op_sub (pe_op op_mul (pe_callB call_len_str (by rfl) T.len_ bb_len (pa_cons (pe_ix (ix_tupK (K := K) rfl) (pv 12) (pe_int) (fun _ _ => rfl)) pa_nil)) (pe_ix (ix_tupK (K := K) rfl) (pv 12) (pe_int) (fun _ _ => rfl))) (pv 13)))
        (pss_cons (ps_set (i := 8) nd rfl (Or.inl rfl) (pe_callB (cr_min rfl) (by rfl) T.min_ bb_min (pa_cons (pv 7) pa_nil)))
        (pss_cons (ps_for PassesOwn.never rfl (pi_range1 (by rfl) T.range_ (pa_cons (pe_callB (call_min2 rfl) (by rfl) T.min_ bb_min (pa_cons (pv 8) (pa_cons (pe_op op_add (pe_callB call_len_str (by rfl) T.len_ bb_len (pa_cons (pe_ix ix_tup (pv 5) (pe_int) (fun _ _ => rfl)) pa_nil)) (pe_callB call_len_str (by rfl) T.len_ bb_len (pa_cons (pe_ix ix_tup (pv 6) (pe_int) (fun _ _ => rfl)) pa_nil))) pa_nil))) pa_nil)) (pg_name (i := 9) nd rfl (Or.inl rfl))
          (pss_one (ps_if (pt_cmpR op_ne (pe_ix ix_str (pe_ix ix_tup (pv 5) (pe_int) (fun _ _ => rfl)) (pe_op op_mod (pe_op op_add (pe_ix ix_list (pv 4) (pe_int) (fun _ _ => rfl)) (pv 9)) (pe_callB call_len_str (by rfl) T.len_ bb_len (pa_cons (pe_ix ix_tup (pv 5) (pe_int) (fun _ _ => rfl)) pa_nil))) (fun _ _ => rfl)) (pe_ix ix_str (pe_ix ix_tup (pv 6) (pe_int) (fun _ _ => rfl)) (pe_op op_mod (pe_op op_add (pe_ix ix_list (pv 4) (pe_int) (fun _ _ => rfl)) (pv 9)) (pe_callB call_len_str (by rfl) T.len_ bb_len (pa_cons (pe_ix ix_tup (pv 6) (pe_int) (fun _ _ => rfl)) pa_nil))) (fun _ _ => rfl)) (nomark _))
            (pss_one (ps_ret (pe_op op_add (pv 2) (pv 9))))
            (pss_nil))))
        (pss_cons (ps_aug (i := 2) nd rfl (Or.inl rfl) (pv 8) ip_add)
        (pss_one (ps_for PassesOwn.never rfl (pi_en (by rfl) T.enumerate_ (pa_cons (pv 7) pa_nil)) (pg_tup rfl (pgs_cons (pg_name (i := 10) nd rfl (Or.inl rfl)) (pgs_cons (pg_name (i := 11) nd rfl (Or.inl rfl)) pgs_nil)))
          (pss_cons (ps_augS (pv 4) (pv 10) get_list (pv 8) ip_add set_list)
          (pss_one (ps_if (pt_cmpR op_eq (pv 11) (pv 8) (nomark _))
            (pss_one (ps_asg (pe_tup (pa_cons (pe_op op_add (pe_ix ix_list (pv 3) (pv 10) (fun _ _ => rfl)) (pe_int)) (pa_cons (pe_int) pa_nil))) (pg_tup rfl (pgs_cons (pg_sub (pv 3) (pv 10) set_list) (pgs_cons (pg_sub (pv 4) (pv 10) set_list) pgs_nil)))))
            (pss_nil))))))))))))
      (pss_one (ps_ret (pe_ifExp ((pw_and (pt_cmpR op_eq (pe_ix ix_list (pv 3) (pe_int) (fun _ _ => rfl)) (pe_callB (call_len_seqK (K := K) rfl) (by rfl) T.len_ bb_len (pa_cons (pv 0) pa_nil)) (nomark _)) (pw_and1 (pt_cmpR op_eq (pe_ix ix_list (pv 3) (pe_int) (fun _ _ => rfl)) (pe_callB (call_len_seqK (K := K) rfl) (by rfl) T.len_ bb_len (pa_cons (pv 1) pa_nil)) (nomark _)))).pt) (pe_non) (pv 2))))), ?_⟩
    have hxl : xs.length = as.length := hx.1
    have hyl : ys.length = bs.length := hy.1
    have z1 : as.length ≤ 200 := wa.1
    have z2 : bs.length ≤ 200 := wb.1
    refine ⟨(show 2 ≤ sizeLine from line (by decide)), fun pa na => ⟨(show 2 ≤ sizeLine from line (by decide)), fun ps ns => ?_⟩⟩
    have s1 : Same H (upd H pa (.lst [.int 0, .int 0])) := same_new na
    have ns' : H ps = none := by
      cases e : H ps with
      | none => rfl
      | some o => rw [s1 _ _ e] at ns; cases ns
    have nap : pa ≠ ps := fun z => by rw [← z, upd_same] at ns; cases ns
    refine ⟨_, _, _, rfl, ?_⟩
    refine ⟨fun μ σ H' => ∃ (i j s t : Nat) (z : Int) (z5 z6 z7 z8 z9 z10 z11 z12 z13 : Option V), σ = [some (.ref au), some (.ref av), some (.int z), some (.ref pa), some (.ref ps), z5, z6, z7, z8, z9, z10, z11, z12, z13] ∧ Same H H' ∧ H' pa = some (.lst [vN i, vN j]) ∧ H' ps = some (.lst [vN s, vN t]) ∧
      i ≤ as.length ∧ j ≤ bs.length ∧ μ = (as.length - i) + (bs.length - j) ∧ (expB (as.drop i)).drop s = (expB (bs.drop j)).drop t ∧ GoodAt as i s ∧ GoodAt bs j t, ⟨_, 0, 0, 0, 0, 1, none, none, none, none, none, none, none, none, none, rfl, s1.trans (same_new ns), ?_, upd_same, Nat.zero_le _, Nat.zero_le _, rfl, heq, ?_, ?_⟩, fun μ σ H1 p => ?_⟩
    · rw [upd_ne nap, upd_same]
      rfl
    · cases as with
      | nil => exact .inl ⟨rfl, rfl⟩
      | cons b r => exact .inr ⟨b, rfl, Nat.mul_pos (wa.2 b List.mem_cons_self).1 (wa.2 b List.mem_cons_self).2.2⟩
    · cases bs with
      | nil => exact .inl ⟨rfl, rfl⟩
      | cons b r => exact .inr ⟨b, rfl, Nat.mul_pos (wb.2 b List.mem_cons_self).1 (wb.2 b List.mem_cons_self).2.2⟩
    · obtain ⟨i, j, s, t, z, z5, z6, z7, z8, z9, z10, z11, z12, z13, rfl, sm, hpa, hps, hi, hj, rfl, hw, g1, g2⟩ := p
      have hau1 := sm _ _ hau
      have hav1 := sm _ _ hav
      by_cases c1 : i < as.length
      · by_cases c2 : j < bs.length
        · refine ⟨.ref pa, rfl, pa, _, 0, vN i, rfl, rfl, SqL.of hpa, atI_nat (j := 0) rfl, .ref au, rfl, au, _, rfl, .inl (SqL.of hau1), (i : Int), (xs.length : Int), rfl, rfl, true, yes (by omega), .ref pa, rfl, pa, _, 1, vN j, rfl, rfl, SqL.of hpa, atI_nat (j := 1) rfl, .ref av, rfl, av, _, rfl, .inl (SqL.of hav1), (j : Int), (ys.length : Int), rfl, rfl, true, yes (by omega), ?_⟩
          obtain ⟨⟨t1, n1⟩, e1, hs1⟩ : ∃ b, as[i]? = some b ∧ s < b.1.length * b.2 := by
            rcases g1 with g | g
            · omega
            · exact g
          obtain ⟨⟨t2, n2⟩, e2, hs2⟩ : ∃ b, bs[j]? = some b ∧ t < b.1.length * b.2 := by
            rcases g2 with g | g
            · omega
            · exact g
          have hs1 : s < t1.length * n1 := hs1
          have hs2 : t < t2.length * n2 := hs2
          obtain ⟨x1, ex1, b1, rfl, hb1⟩ := hx.get e1
          obtain ⟨x2, ex2, b2, rfl, hb2⟩ := hy.get e2
          have hb1 : H1 b1 = some (.tup [.str (txt t1), vN n1]) := sm _ _ hb1
          have hb2 : H1 b2 = some (.tup [.str (txt t2), vN n2]) := sm _ _ hb2
          obtain ⟨w11, w12, w13⟩ := wa.2 _ (List.mem_of_getElem? e1)
          obtain ⟨w21, w22, w23⟩ := wb.2 _ (List.mem_of_getElem? e2)
          have w11 : 1 ≤ t1.length := w11
          have w12 : t1.length ≤ 20 := w12
          have w21 : 1 ≤ t2.length := w21
          have w22 : t2.length ≤ 20 := w22
          have l1 : (txt t1).length ≤ sizeLine := line (by rw [txt_len]; omega)
          have l2 : (txt t2).length ≤ sizeLine := line (by rw [txt_len]; omega)
          refine ⟨fun σ' H' => ∃ μ', μ' < (as.length - i) + (bs.length - j) ∧ ∃ (i j s t : Nat) (z : Int) (z5 z6 z7 z8 z9 z10 z11 z12 z13 : Option V), σ' = [some (.ref au), some (.ref av), some (.int z), some (.ref pa), some (.ref ps), z5, z6, z7, z8, z9, z10, z11, z12, z13] ∧ Same H H' ∧ H' pa = some (.lst [vN i, vN j]) ∧ H' ps = some (.lst [vN s, vN t]) ∧
            i ≤ as.length ∧ j ≤ bs.length ∧ μ' = (as.length - i) + (bs.length - j) ∧ (expB (as.drop i)).drop s = (expB (bs.drop j)).drop t ∧ GoodAt as i s ∧ GoodAt bs j t, fun _ _ h => h, ?_⟩
          refine ⟨.ref au, rfl, .ref pa, rfl, pa, _, 0, vN i, rfl, rfl, SqL.of hpa, atI_nat (j := 0) rfl, au, _, (i : Int), .ref b1, rfl, rfl, SqL.of hau1, atI_nat ex1, .ref av, rfl, .ref pa, rfl, pa, _, 1, vN j, rfl, rfl, SqL.of hpa, atI_nat (j := 1) rfl, av, _, (j : Int), .ref b2, rfl, rfl, SqL.of hav1, atI_nat ex2, _, _, rfl, ?_⟩
          refine ⟨.ref b1, rfl, .ref b2, rfl, (show 2 ≤ sizeLine from line (by decide)), fun pz nz => ?_⟩
          have sz : Same H1 (upd H1 pz (.tup [.ref b1, .ref b2])) := same_new nz
          have hpz : (upd H1 pz (.tup [.ref b1, .ref b2])) pz = some (.tup [.ref b1, .ref b2]) := upd_same
          generalize upd H1 pz (.tup [.ref b1, .ref b2]) = H2 at *
          refine ⟨.ref ps, rfl, _, _, _, _, _, _, _, rfl, .tup pz [.ref b1, .ref b2], .lst ps [vN s, vN t], SqT.of hpz, SqL.of (sz _ _ hps), fun D hD => ?_⟩
          refine lc_same walk_zs (fun k v _ => (k = 0 → v = vN (t1.length * n1 - s)) ∧ (k = 1 → v = vN (t2.length * n2 - t))) (by simp) hD (fun _ _ _ _ _ e => e) (fun H' s => ⟨SqT.of (s _ _ hpz), SqL.of (s _ _ (sz _ _ hps))⟩) (fun k x H3 H' kk hk s3 y hkk => ?_) (fun H3 acc s3 eD el eE => ?_)
          · obtain ⟨T', rfl, nT, rfl⟩ := y
            have s4 := (sz.trans s3).trans (same_new (o := .tup [[V.ref b1, V.ref b2].getD k .non, [vN s, vN t].getD k .non]) nT)
            have hk2 : k = 0 ∨ k = 1 := by
              have : k < 2 := hk
              omega
            rcases hk2 with rfl | rfl
            · refine ⟨T', _, rfl, SqT.of upd_same, rfl, _, _, rfl, _, _, rfl, rfl, rfl, ?_⟩
              refine ⟨_, rfl, b1, _, 0, _, rfl, rfl, SqT.of (s4 _ _ hb1), atI_nat (j := 0) rfl, txt t1, rfl, l1, _, rfl, b1, _, 1, _, rfl, rfl, SqT.of (s4 _ _ hb1), atI_nat (j := 1) rfl, _, (n1 : Int), rfl, rfl, .inl ⟨by rw [txt_len]; omega, by rw [txt_len]; omega⟩, _, rfl, _, (s : Int), rfl, rfl, hkk _ _ (same_new nT) ⟨fun _ => ?_, fun z => (nomatch z)⟩⟩
              show V.int (((txt t1).length : Int) * (n1 : Int) - (s : Int)) = V.int ((t1.length * n1 - s : Nat) : Int)
              congr 1
              rw [txt_len]
              have : ((t1.length * n1 : Nat) : Int) = (t1.length : Int) * (n1 : Int) := Int.natCast_mul _ _
              omega
            · refine ⟨T', _, rfl, SqT.of upd_same, rfl, _, _, rfl, _, _, rfl, rfl, rfl, ?_⟩
              refine ⟨_, rfl, b2, _, 0, _, rfl, rfl, SqT.of (s4 _ _ hb2), atI_nat (j := 0) rfl, txt t2, rfl, l2, _, rfl, b2, _, 1, _, rfl, rfl, SqT.of (s4 _ _ hb2), atI_nat (j := 1) rfl, _, (n2 : Int), rfl, rfl, .inl ⟨by rw [txt_len]; omega, by rw [txt_len]; omega⟩, _, rfl, _, (t : Int), rfl, rfl, hkk _ _ (same_new nT) ⟨fun z => (nomatch z), fun _ => ?_⟩⟩
              show V.int (((txt t2).length : Int) * (n2 : Int) - (t : Int)) = V.int ((t2.length * n2 - t : Nat) : Int)
              congr 1
              rw [txt_len]
              have : ((t2.length * n2 : Nat) : Int) = (t2.length : Int) * (n2 : Int) := Int.natCast_mul _ _
              omega
          · have eacc : acc = [vN (t1.length * n1 - s), vN (t2.length * n2 - t)] := by
              match acc, el, eE with
              | [a0, a1], _, eE => rw [(eE 0 a0 rfl).1 rfl, (eE 1 a1 rfl).2 rfl]
            subst eacc
            have hp1 : 1 ≤ t1.length * n1 - s := by omega
            have hp2 : 1 ≤ t2.length * n2 - t := by omega
            generalize hq1 : t1.length * n1 - s = sp0 at *
            generalize hq2 : t2.length * n2 - t = sp1 at *
            refine ⟨.ref D, rfl, D, [(sp0 : Int), (sp1 : Int)], rfl, SqL.of eD, by simp, fun mi hmem hle => ?_⟩
            obtain ⟨m, rfl, hm1, hm2, hm3⟩ : ∃ m : Nat, mi = (m : Int) ∧ m ≤ sp0 ∧ m ≤ sp1 ∧ (m = sp0 ∨ m = sp1) := by
              have h1 := hle (sp0 : Int) (by simp)
              have h2 := hle (sp1 : Int) (by simp)
              have h3 : mi = (sp0 : Int) ∨ mi = (sp1 : Int) := by simpa using hmem
              refine ⟨mi.toNat, ?_, ?_, ?_, ?_⟩ <;> omega
            have s13 : Same H1 H3 := sz.trans s3
            have hb1' := s13 _ _ hb1
            have hb2' := s13 _ _ hb2
            have hpa' := s13 _ _ hpa
            have hps' := s13 _ _ hps
            have hD1 : D ≠ pa := fun z => by rw [z, sz _ _ hpa] at hD; cases hD
            have hD2 : D ≠ ps := fun z => by rw [z, sz _ _ hps] at hD; cases hD
            have sm3 := sm.trans s13
            refine ⟨_, rfl, .ref b1, rfl, b1, _, 0, _, rfl, rfl, SqT.of hb1', atI_nat (j := 0) rfl, txt t1, rfl, l1, .ref b2, rfl, b2, _, 0, _, rfl, rfl, SqT.of hb2', atI_nat (j := 0) rfl, txt t2, rfl, l2, ((txt t1).length : Int), ((txt t2).length : Int), rfl, rfl, (m : Int), _, rfl, _, rfl, ?_, ?_, ?_⟩
            · rw [txt_len, txt_len]
              split <;> omega
            · rw [txt_len, txt_len]
              split <;> omega
            refine for_it (walk_range (lo := 0)) (fun e σ H' => H' = H3 ∧ ∃ z9, σ = [some (.ref au), some (.ref av), some (.int z), some (.ref pa), some (.ref ps), some (.ref b1), some (.ref b2), some (.ref D), some (.int (m : Int)), z9, z10, z11, z12, z13]) ⟨rfl, _, rfl⟩ (fun e σ H' _ p => trivial) (fun e x σ H4 H' he p y => ?_) (fun σ H' p => ?_)
            · obtain ⟨rfl, z9', rfl⟩ := p
              obtain ⟨rfl, rfl⟩ := y
              have hem : e < m := by
                rw [txt_len, txt_len] at he
                split at he <;> omega
              have q1 := letter_at (k := e) e1 (show s + e < t1.length * n1 by omega)
              have q2 := letter_at (k := e) e2 (show t + e < t2.length * n2 by omega)
              rw [hw] at q1
              have q3 := q1.symm.trans q2
              have q4 : (s + e) % t1.length < t1.length := Nat.mod_lt _ (by omega)
              obtain ⟨bb, hbb⟩ : ∃ bb, t1[(s + e) % t1.length]? = some bb := ⟨_, List.getElem?_eq_getElem q4⟩
              have hbb2 := q3.symm.trans hbb
              have ex1 : ((s : Int) + (0 + (e : Int))) % ((txt t1).length : Int) = (((s + e) % t1.length : Nat) : Int) := by
                rw [txt_len, Int.zero_add, ← Int.natCast_add]
                first | exact (Int.natCast_emod _ _).symm | exact (Int.ofNat_emod _ _).symm | rfl
              have ex2 : ((t : Int) + (0 + (e : Int))) % ((txt t2).length : Int) = (((t + e) % t2.length : Nat) : Int) := by
                rw [txt_len, Int.zero_add, ← Int.natCast_add]
                first | exact (Int.natCast_emod _ _).symm | exact (Int.ofNat_emod _ _).symm | rfl
              refine ⟨.ref b1, rfl, b1, _, 0, _, rfl, rfl, SqT.of hb1', atI_nat (j := 0) rfl, .ref ps, rfl, ps, _, 0, vN s, rfl, rfl, SqL.of hps', atI_nat (j := 0) rfl, _, rfl, (s : Int), (0 + (e : Int)), rfl, rfl, .ref b1, rfl, b1, _, 0, _, rfl, rfl, SqT.of hb1', atI_nat (j := 0) rfl, txt t1, rfl, l1, _, ((txt t1).length : Int), rfl, rfl, (show (0 : Int) < ((txt t1).length : Int) by rw [txt_len]; omega), txt t1, _, cd bb, rfl, rfl, l1, ?_, ?_⟩
              · rw [ex1]
                exact atI_nat (chr_at hbb)
              refine ⟨.ref b2, rfl, b2, _, 0, _, rfl, rfl, SqT.of hb2', atI_nat (j := 0) rfl, .ref ps, rfl, ps, _, 1, vN t, rfl, rfl, SqL.of hps', atI_nat (j := 1) rfl, _, rfl, (t : Int), (0 + (e : Int)), rfl, rfl, .ref b2, rfl, b2, _, 0, _, rfl, rfl, SqT.of hb2', atI_nat (j := 0) rfl, txt t2, rfl, l2, _, ((txt t2).length : Int), rfl, rfl, (show (0 : Int) < ((txt t2).length : Int) by rw [txt_len]; omega), txt t2, _, cd bb, rfl, rfl, l2, ?_, ?_⟩
              · rw [ex2]
                exact atI_nat (chr_at hbb2)
              refine ⟨rfl, false, nyes rfl, rfl, _, rfl⟩
            · obtain ⟨rfl, z9', rfl⟩ := p
              refine ⟨_, rfl, _, rfl, z, (m : Int), rfl, rfl, ?_⟩
              refine ⟨.ref D, rfl, _, _, _, _, rfl, .lst D [vN sp0, vN sp1], SqL.of eD, ?_⟩
              refine for_it walk_en (fun e σ H' => (Same H H' ∧ H' D = some (.lst [vN sp0, vN sp1]) ∧ H' pa = some (.lst [vN (if 0 < e then nxA i sp0 m else i), vN (if 1 < e then nxA j sp1 m else j)]) ∧ H' ps = some (.lst [vN (if 0 < e then nxS s sp0 m else s), vN (if 1 < e then nxS t sp1 m else t)])) ∧
                ∃ z9 z10 z11 z12 z13, σ = [some (.ref au), some (.ref av), some (.int (z + (m : Int))), some (.ref pa), some (.ref ps), some (.ref b1), some (.ref b2), some (.ref D), some (.int (m : Int)), z9, z10, z11, z12, z13]) ⟨⟨sm3, eD, hpa', hps'⟩, _, _, _, _, _, rfl⟩ (fun e σ H' _ p => SqL.of p.1.2.1) (fun e x σ H4 H' he p y => ?_) (fun σ H' p => ?_)
              · obtain ⟨⟨k1, k2, k3, k4⟩, z9, z10, z11, z12, z13, rfl⟩ := p
                obtain ⟨T', rfl, nT, rfl⟩ := y
                have sT := same_new (o := .tup [.int (e : Nat), [vN sp0, vN sp1].getD e .non]) nT
                have k1' := k1.trans sT
                have k2' := sT _ _ k2
                have k3' := sT _ _ k3
                have k4' := sT _ _ k4
                have he2 : e = 0 ∨ e = 1 := by
                  have : e < 2 := he
                  omega
                rcases he2 with rfl | rfl
                · refine ⟨T', _, rfl, SqT.of upd_same, rfl, _, _, rfl, _, _, rfl, rfl, ?_⟩
                  generalize upd H4 T' (.tup [.int ((0 : Nat) : Int), [vN sp0, vN sp1].getD 0 .non]) = H5 at *
                  refine ⟨.ref ps, rfl, _, rfl, ps, _, ((0 : Nat) : Int), vN s, rfl, rfl, SqL.of k4', atI_nat (j := 0) rfl, _, rfl, (s : Int), (m : Int), rfl, rfl, ps, _, ((0 : Nat) : Int), 0, rfl, rfl, k4', rfl, ?_⟩
                  have k1'' := k1'.app (o' := .lst [.int ((s : Int) + (m : Int)), vN (if 1 < 0 then nxS t sp1 m else t)]) ns'
                  have k2'' : (upd H5 ps (.lst [.int ((s : Int) + (m : Int)), vN (if 1 < 0 then nxS t sp1 m else t)])) D = some (.lst [vN sp0, vN sp1]) := by rw [upd_ne hD2]; exact k2'
                  have k3'' : (upd H5 ps (.lst [.int ((s : Int) + (m : Int)), vN (if 1 < 0 then nxS t sp1 m else t)])) pa = some (.lst [vN (if 0 < 0 then nxA i sp0 m else i), vN (if 1 < 0 then nxA j sp1 m else j)]) := by rw [upd_ne nap]; exact k3'
                  have k4'' : (upd H5 ps (.lst [.int ((s : Int) + (m : Int)), vN (if 1 < 0 then nxS t sp1 m else t)])) ps = some (.lst [.int ((s : Int) + (m : Int)), vN (if 1 < 0 then nxS t sp1 m else t)]) := upd_same
                  have k4c : (.int ((s : Int) + (m : Int)) : V) = vN (s + m) := by
                    unfold vN
                    congr 1
                  by_cases hc : sp0 = m
                  · refine ⟨_, rfl, _, rfl, rfl, true, ?_, ?_⟩
                    · rw [hc]
                      exact yes rfl
                    refine ⟨.ref pa, rfl, _, rfl, pa, _, ((0 : Nat) : Int), vN i, rfl, rfl, SqL.of k3'', atI_nat (j := 0) rfl, (i : Int), 1, rfl, rfl, (show 2 ≤ sizeLine from line (by decide)), fun p5 n5 => ?_⟩
                    have s5 := same_new (o := .tup [.int ((i : Int) + 1), .int 0]) n5
                    refine ⟨p5, _, rfl, SqT.of upd_same, rfl, _, _, rfl, .ref pa, rfl, _, rfl, pa, _, ((0 : Nat) : Int), 0, rfl, rfl, s5 _ _ k3'', rfl, ?_⟩
                    have s6 := (k1''.trans s5).app (o' := .lst [.int ((i : Int) + 1), vN (if 1 < 0 then nxA j sp1 m else j)]) na
                    refine ⟨_, _, rfl, .ref ps, rfl, _, rfl, ps, _, ((0 : Nat) : Int), 0, rfl, rfl, (by rw [upd_ne (Ne.symm nap)]; exact s5 _ _ k4''), rfl, ?_⟩
                    refine ⟨rfl, ⟨s6.app ns', ?_, ?_, ?_⟩, _, _, _, _, _, rfl⟩
                    · rw [upd_ne hD2, upd_ne hD1]
                      exact s5 _ _ k2''
                    · rw [upd_ne nap, upd_same]
                      unfold nxA
                      simp [hc]
                      rfl
                    · rw [upd_same]
                      unfold nxS
                      simp [hc]
                      rfl
                  · refine ⟨_, rfl, _, rfl, rfl, false, no (by intro z; exact hc (by have := V.int.inj z; omega)), ?_⟩
                    refine ⟨⟨k1'', k2'', ?_, ?_⟩, _, _, _, _, _, rfl⟩
                    · refine k3''.trans ?_
                      unfold nxA
                      simp [hc]
                    · refine k4''.trans ?_
                      rw [k4c]
                      unfold nxS
                      simp [hc]
                · refine ⟨T', _, rfl, SqT.of upd_same, rfl, _, _, rfl, _, _, rfl, rfl, ?_⟩
                  generalize upd H4 T' (.tup [.int ((1 : Nat) : Int), [vN sp0, vN sp1].getD 1 .non]) = H5 at *
                  refine ⟨.ref ps, rfl, _, rfl, ps, _, ((1 : Nat) : Int), vN t, rfl, rfl, SqL.of k4', atI_nat (j := 1) rfl, _, rfl, (t : Int), (m : Int), rfl, rfl, ps, _, ((1 : Nat) : Int), 1, rfl, rfl, k4', rfl, ?_⟩
                  have k1'' := k1'.app (o' := .lst [vN (if 0 < 1 then nxS s sp0 m else s), .int ((t : Int) + (m : Int))]) ns'
                  have k2'' : (upd H5 ps (.lst [vN (if 0 < 1 then nxS s sp0 m else s), .int ((t : Int) + (m : Int))])) D = some (.lst [vN sp0, vN sp1]) := by rw [upd_ne hD2]; exact k2'
                  have k3'' : (upd H5 ps (.lst [vN (if 0 < 1 then nxS s sp0 m else s), .int ((t : Int) + (m : Int))])) pa = some (.lst [vN (if 0 < 1 then nxA i sp0 m else i), vN (if 1 < 1 then nxA j sp1 m else j)]) := by rw [upd_ne nap]; exact k3'
                  have k4'' : (upd H5 ps (.lst [vN (if 0 < 1 then nxS s sp0 m else s), .int ((t : Int) + (m : Int))])) ps = some (.lst [vN (if 0 < 1 then nxS s sp0 m else s), .int ((t : Int) + (m : Int))]) := upd_same
                  have k4c : (.int ((t : Int) + (m : Int)) : V) = vN (t + m) := by
                    unfold vN
                    congr 1
                  by_cases hc : sp1 = m
                  · refine ⟨_, rfl, _, rfl, rfl, true, ?_, ?_⟩
                    · rw [hc]
                      exact yes rfl
                    refine ⟨.ref pa, rfl, _, rfl, pa, _, ((1 : Nat) : Int), vN j, rfl, rfl, SqL.of k3'', atI_nat (j := 1) rfl, (j : Int), 1, rfl, rfl, (show 2 ≤ sizeLine from line (by decide)), fun p5 n5 => ?_⟩
                    have s5 := same_new (o := .tup [.int ((j : Int) + 1), .int 0]) n5
                    refine ⟨p5, _, rfl, SqT.of upd_same, rfl, _, _, rfl, .ref pa, rfl, _, rfl, pa, _, ((1 : Nat) : Int), 1, rfl, rfl, s5 _ _ k3'', rfl, ?_⟩
                    have s6 := (k1''.trans s5).app (o' := .lst [vN (if 0 < 1 then nxA i sp0 m else i), .int ((j : Int) + 1)]) na
                    refine ⟨_, _, rfl, .ref ps, rfl, _, rfl, ps, _, ((1 : Nat) : Int), 1, rfl, rfl, (by rw [upd_ne (Ne.symm nap)]; exact s5 _ _ k4''), rfl, ?_⟩
                    refine ⟨rfl, ⟨s6.app ns', ?_, ?_, ?_⟩, _, _, _, _, _, rfl⟩
                    · rw [upd_ne hD2, upd_ne hD1]
                      exact s5 _ _ k2''
                    · rw [upd_ne nap, upd_same]
                      unfold nxA
                      simp [hc]
                      rfl
                    · rw [upd_same]
                      unfold nxS
                      simp [hc]
                      rfl
                  · refine ⟨_, rfl, _, rfl, rfl, false, no (by intro z; exact hc (by have := V.int.inj z; omega)), ?_⟩
                    refine ⟨⟨k1'', k2'', ?_, ?_⟩, _, _, _, _, _, rfl⟩
                    · refine k3''.trans ?_
                      unfold nxA
                      simp [hc]
                    · refine k4''.trans ?_
                      rw [k4c]
                      unfold nxS
                      simp [hc]
              · obtain ⟨⟨k1, k2, k3, k4⟩, z9, z10, z11, z12, z13, rfl⟩ := p
                obtain ⟨v11, v12, v13⟩ := adv wa.2 e1 hs1 (show m ≤ t1.length * n1 - s by omega)
                obtain ⟨v21, v22, v23⟩ := adv wb.2 e2 hs2 (show m ≤ t2.length * n2 - t by omega)
                rw [hq1] at v11 v12 v13
                rw [hq2] at v21 v22 v23
                refine ⟨(as.length - nxA i sp0 m) + (bs.length - nxA j sp1 m), ?_, nxA i sp0 m, nxA j sp1 m, nxS s sp0 m, nxS t sp1 m, z + (m : Int), _, _, _, _, _, _, _, _, _, rfl, k1, k3, k4, v13, v23, rfl, ?_, v12, v22⟩
                · unfold nxA at v13 v23 ⊢
                  split <;> split <;> omega
                · rw [v11, v21, hw]
        · have ej : j = bs.length := by omega
          refine ⟨.ref pa, rfl, pa, _, 0, vN i, rfl, rfl, SqL.of hpa, atI_nat (j := 0) rfl, .ref au, rfl, au, _, rfl, .inl (SqL.of hau1), (i : Int), (xs.length : Int), rfl, rfl, true, yes (by omega), .ref pa, rfl, pa, _, 1, vN j, rfl, rfl, SqL.of hpa, atI_nat (j := 1) rfl, .ref av, rfl, av, _, rfl, .inl (SqL.of hav1), (j : Int), (ys.length : Int), rfl, rfl, false, no (by omega), ?_⟩
          exfalso
          have ht0 : t = 0 := by
            rcases g2 with g | ⟨b, hb, _⟩
            · exact g.2
            · rw [ej, List.getElem?_eq_none (Nat.le_refl _)] at hb; cases hb
          rw [ej, ht0, List.drop_length, List.drop_zero] at hw
          have := good_end wa.2 g1 hw
          omega
      · have ei : i = as.length := by omega
        have hs0 : s = 0 := by
          rcases g1 with g | ⟨b, hb, _⟩
          · exact g.2
          · rw [ei, List.getElem?_eq_none (Nat.le_refl _)] at hb; cases hb
        rw [ei, hs0, List.drop_length, List.drop_zero] at hw
        have ej := good_end wb.2 g2 hw.symm
        refine ⟨.ref pa, rfl, pa, _, 0, vN i, rfl, rfl, SqL.of hpa, atI_nat (j := 0) rfl, .ref au, rfl, au, _, rfl, .inl (SqL.of hau1), (i : Int), (xs.length : Int), rfl, rfl, false, no (by omega), ?_⟩
        refine ⟨.ref pa, rfl, pa, _, 0, vN i, rfl, rfl, SqL.of hpa, atI_nat (j := 0) rfl, .ref au, rfl, au, _, rfl, .inl (SqL.of hau1), rfl, true, ?_, .ref pa, rfl, pa, _, 1, vN j, rfl, rfl, SqL.of hpa, atI_nat (j := 1) rfl, .ref av, rfl, av, _, rfl, .inl (SqL.of hav1), rfl, true, ?_, q _ sm⟩
        · rw [ei, ← hxl]
          exact yes rfl
        · rw [ej, ← hyl]
          exact yes rfl
def sp_first_difference : Sp := fun vs H Q _ => ∃ (u v : V) (as bs : List Blk), vs = [u, v] ∧ SeqR H u as ∧ SeqR H v bs ∧ WS as ∧ WS bs ∧ expB as = expB bs ∧ ∀ H', Same H H' → Q .non H'
theorem ok_first_difference (T : Blt K mg) (dF : Df K mg "first_difference" st_first_difference ["one", "other"]) (c_require_sequence : C8.Cal P w K mg base 4 "require_sequence" sp_require_sequence []) (c_first_unlike : C8.Cal P w K mg base 1 "first_unlike" sp_first_unlike []) : C8.Cal P w K mg base 5 "first_difference" sp_first_difference [] := by
  have nd := sc_first_difference.nd
  refine cal_of dF sc_first_difference (fun vs H Q E h => ?_) (fun cdv A outer s H vs Q E hr h => ?_)
  · obtain ⟨u, v, as, bs, rfl, _⟩ := h
    rfl
  · obtain ⟨u, v, as, bs, rfl, hu, hv, wa, wb, heq, q⟩ := h
    refine ⟨_, pss_cons (ps_expr (C8.pe_c c_require_sequence hr (by decide) (by rfl) (pa_cons (pv 0) pa_nil)))
      (pss_cons (ps_expr (C8.pe_c c_require_sequence hr (by decide) (by rfl) (pa_cons (pv 1) pa_nil)))
      (pss_one (ps_ret (C8.pe_c c_first_unlike hr (by decide) (by rfl) (pa_cons (pv 0) (pa_cons (pv 1) pa_nil)))))), ?_⟩
    refine ⟨u, rfl, u, as, rfl, hu, wa, fun H1 s1 => ?_⟩
    refine ⟨v, rfl, v, bs, rfl, hv.mono s1, wb, fun H2 s2 => ?_⟩
    have s12 := s1.trans s2
    exact ⟨u, rfl, v, rfl, u, v, as, bs, rfl, hu.mono s12, hv.mono s12, wa, wb, heq, fun H3 s3 => q H3 (s12.trans s3)⟩
end
end TG
namespace TG
open PySem PySem.Spec PyProof.Rows L2 TGZ
abbrev st__law_cell_at : Stmt := topS 56
abbrev N__law_cell_at : List Str := ["_law_script", "_law_k"]
theorem sc__law_cell_at : FnScope N__law_cell_at ["_law_script", "_law_k"] (C8.fnScope st__law_cell_at) := C8.fnScope_by (by decide +kernel)
abbrev st__law_source : Stmt := topS 57
abbrev N__law_source : List Str := ["_law_cell"]
theorem sc__law_source : FnScope N__law_source ["_law_cell"] (C8.fnScope st__law_source) := C8.fnScope_by (by decide +kernel)
abbrev st__law_take : Stmt := topS 58
abbrev N__law_take : List Str := ["_law_source_here", "_law_bound", "_law_digit", "_law_mixed"]
theorem sc__law_take : FnScope N__law_take ["_law_source_here", "_law_bound"] (C8.fnScope st__law_take) := C8.fnScope_by (by decide +kernel)
abbrev st__law_pick : Stmt := topS 59
abbrev N__law_pick : List Str := ["_law_source_here", "_law_items"]
theorem sc__law_pick : FnScope N__law_pick ["_law_source_here", "_law_items"] (C8.fnScope st__law_pick) := C8.fnScope_by (by decide +kernel)
abbrev st__law_shuffled : Stmt := topS 60
abbrev N__law_shuffled : List Str := ["_law_source_here", "_law_items", "_law_pool", "_law_result"]
theorem sc__law_shuffled : FnScope N__law_shuffled ["_law_source_here", "_law_items"] (C8.fnScope st__law_shuffled) := C8.fnScope_by (by decide +kernel)
abbrev st__law_ranking : Stmt := topS 61
abbrev N__law_ranking : List Str := ["_law_source_here", "_law_many"]
theorem sc__law_ranking : FnScope N__law_ranking ["_law_source_here", "_law_many"] (C8.fnScope st__law_ranking) := C8.fnScope_by (by decide +kernel)
abbrev st__law_supply : Stmt := topS 62
abbrev N__law_supply : List Str := ["_law_source_here", "_law_most", "_law_wide", "_law_size", "_law_k"]
theorem sc__law_supply : FnScope N__law_supply ["_law_source_here", "_law_most", "_law_wide"] (C8.fnScope st__law_supply) := C8.fnScope_by (by decide +kernel)
/-! ### the source of draws at a -/
def SrcAt (a : Addr) (H : Hp) : Prop := ∃ x y z : Int, H a = some (.lst [.int x, .int y, .int z])
/-- all but the source stands, the source is one -/
def Dr (a : Addr) (H H' : Hp) : Prop := (∀ p o, p ≠ a → H p = some o → H' p = some o) ∧ SrcAt a H'
section
variable {a : Addr} {H H' H2 : Hp} {v : V}
theorem SrcAt.same (h : SrcAt a H) (s : Same H H') : SrcAt a H' := by
  obtain ⟨x, y, z, e⟩ := h
  exact ⟨x, y, z, s _ _ e⟩
theorem SrcAt.ne (h : SrcAt a H) {p : Addr} (e : H p = none) : p ≠ a := fun z => by
  obtain ⟨x, y, w, q⟩ := h
  rw [z, q] at e
  cases e
theorem Dr.of (h : SrcAt a H) (s : Same H H') : Dr a H H' := ⟨fun p o _ e => s p o e, h.same s⟩
theorem Dr.refl (h : SrcAt a H) : Dr a H H := .of h (Same.refl _)
theorem Dr.trans (d : Dr a H H') (e : Dr a H' H2) : Dr a H H2 := ⟨fun p o n q => e.1 p o n (d.1 p o n q), e.2⟩
theorem Dr.same (d : Dr a H H') (s : Same H' H2) : Dr a H H2 := d.trans (.of d.2 s)
theorem Dr.app (d : Dr a H H') (h : SrcAt a H) {p : Addr} {o : HO} (e : H p = none) : Dr a H (upd H' p o) := by
  have hne := h.ne e
  refine ⟨fun b x n q => ?_, ?_⟩
  · have : b ≠ p := fun z => by rw [z, e] at q; cases q
    rw [upd_ne this]
    exact d.1 b x n q
  · obtain ⟨x, y, z, q⟩ := d.2
    exact ⟨x, y, z, by rw [upd_ne (Ne.symm hne)]; exact q⟩
theorem Dr.tp (d : Dr a H H') (h : SrcAt a H) : Tp H H' := fun p o t e => by
  refine d.1 p o (fun z => ?_) e
  obtain ⟨x, y, w, q⟩ := h
  rw [z, q] at e
  cases e
  cases t
theorem Dr.fr (d : Dr a H H') {p : Addr} (hn : p ≠ a) (e : H' p = none) : H p = none := by
  cases q : H p with
  | none => rfl
  | some o =>
    rw [d.1 p o hn q] at e
    cases e
theorem Dr.fr' (d : Dr a H H') {p : Addr} (e : H' p = none) : H p = none := d.fr (d.2.ne e) e
theorem SeqR.dr {bs : List Blk} (h : SeqR H v bs) (s : SrcAt a H) (d : Dr a H H') : SeqR H' v bs := by
  obtain ⟨q, vs, e, h1, h2⟩ := h
  refine ⟨q, vs, e, d.1 q _ (fun z => ?_) h1, h2.mono fun _ _ z => z.tp (d.tp s)⟩
  obtain ⟨x, y, w, k⟩ := s
  rw [z, k] at h1
  cases h1
  obtain ⟨b, hb, r⟩ := h2.getV (i := 0) rfl
  obtain ⟨c, e1, _⟩ := r
  cases e1
theorem CrsR.dr {rs : List Row} (h : CrsR H v rs) (s : SrcAt a H) (d : Dr a H H') : CrsR H' v rs := by
  obtain ⟨q, vs, e, h1, h2⟩ := h
  refine ⟨q, vs, e, d.1 q _ (fun z => ?_) h1, h2.mono fun _ _ z => z.tp (d.tp s)⟩
  obtain ⟨x, y, w, k⟩ := s
  rw [z, k] at h1
  cases h1
  obtain ⟨b, hb, r⟩ := h2.getV (i := 0) rfl
  obtain ⟨c, _, e1, _⟩ := r
  cases e1
end
/-- a comprehension whose element draws -/
theorem lc_dr {J : It} {n : Nat} {G : Hp → Prop} {Y : Nat → Hp → V → Hp → Prop} (w : Walk J n G Y) {g : TG} {te : TE} {vs : List Nat} {σ : L2.St} {H1 : Hp} {D : Addr} {Qd : Hp → Prop} (a : Addr) (E : Nat → V → Prop) (hs0 : SrcAt a H1) (hn : n ≤ 1000000) (hD : H1 D = none)
    (hG : ∀ H', Dr a H1 H' → G H')
    (hs : ∀ i x H H' (k : V → Hp → Prop), i < n → Dr a H1 H → Y i H x H' → (∀ y H4, Dr a H H4 → E i y → k y H4) → g x (wipe σ vs) H' fun σ2 H2 => wipe σ2 vs = wipe σ vs ∧ te σ2 H2 k)
    (hd : ∀ H' acc, Dr a H1 H' → H' D = some (.lst acc) → acc.length = n → (∀ j v, acc[j]? = some v → E j v) → Qd H') :
    ∃ W : Nat → Nat → Hp → Prop, (∃ m, W 0 m (upd H1 D (.lst []))) ∧ ∀ i m H, W i m H →
      (J.stop i H ∧ Qd H) ∨ (J.go i H ∧ ∃ Nx : Hp → Prop, (∀ H', Nx H' → ∃ m', m' < m ∧ W (i + 1) m' H') ∧ ∀ x H', J.yld i H x H' → g x (wipe σ vs) H' fun σ2 H2 => wipe σ2 vs = wipe σ vs ∧ tYes σ2 H2 fun b H3 =>
        if b = true then te σ2 H3 fun y H4 => ∃ acc, H4 D = some (.lst acc) ∧ acc.length < sizeLine ∧ Nx (upd H4 D (.lst (acc ++ [y]))) else Nx H3) := by
  have hDa := hs0.ne hD
  refine lc_it w (fun i H => Dr a H1 H ∧ ∃ acc, H D = some (.lst acc) ∧ acc.length = i ∧ ∀ j v, acc[j]? = some v → E j v) ⟨(Dr.of hs0 (same_new hD)), [], upd_same, rfl, fun j v e => by simp at e⟩ (fun i H _ p => hG H p.1) (fun i x H H' hi p y => ?_) (fun H p => ?_)
  · obtain ⟨s, acc, e1, e2, e3⟩ := p
    refine hs i x H H' _ hi s y fun z H4 s4 ez => ?_
    refine ⟨acc, s4.1 _ _ hDa e1, lineL (by omega), (s.trans s4).app hs0 hD, acc ++ [z], upd_same, by simp [e2], fun j v ej => ?_⟩
    by_cases hj : j < acc.length
    · rw [List.getElem?_append_left hj] at ej
      exact e3 j v ej
    · rw [List.getElem?_append_right (by omega)] at ej
      have hj2 : j - acc.length = 0 := by
        obtain ⟨q, _⟩ := List.getElem?_eq_some_iff.mp ej
        simp at q
        omega
      rw [hj2] at ej
      have ev : v = z := by simpa using ej.symm
      have ei : j = i := by omega
      subst ev ei
      exact ez
  · obtain ⟨s, acc, e1, e2, e3⟩ := p
    exact hd H acc s e1 e2 e3
theorem erase_map (f : Nat → V) : ∀ (l : List Nat) (r : Nat), (l.map f).eraseIdx r = (l.eraseIdx r).map f
  | [], r => by simp
  | x :: l, 0 => by simp
  | x :: l, r + 1 => by rw [List.map_cons, List.eraseIdx_cons_succ, List.eraseIdx_cons_succ, List.map_cons, erase_map f l r]
theorem erase_perm : ∀ (l : List Nat) (r : Nat) (h : r < l.length), (l[r] :: l.eraseIdx r).Perm l
  | [], r, h => absurd h (Nat.not_lt_zero _)
  | x :: l, 0, h => by simp
  | x :: l, r + 1, h => by
    rw [List.eraseIdx_cons_succ, List.getElem_cons_succ]
    exact (List.Perm.swap _ _ _).trans ((erase_perm l r (by simpa using h)).cons x)
theorem dl_empty : SeqAt.shaped (.list []) = true := by decide
theorem dL_nil (ns : List Nat) : PyData.eqv (dL ns) (.list []) = decide (ns = []) := eqL ns []
section
variable {P : Program} {w : World} {K : PySem.W.Frag} {mg : Str → Option Value} {base : Heap}
def sp__law_cell_at (K : PySem.W.Frag) : Sp := fun vs H Q _ => ∃ (p : Addr) (zs : List Int), vs = [.ref p, .int 0] ∧ SqL K H p (zs.map V.int) ∧ ∀ z : Int, Q (.int z) H
theorem ok__law_cell_at (T : Blt K mg) (dF : Df K mg "_law_cell_at" st__law_cell_at ["_law_script", "_law_k"]) : C8.Cal P w K mg base 1 "_law_cell_at" (sp__law_cell_at K) [] := by
  have nd := sc__law_cell_at.nd
  refine cal_of dF sc__law_cell_at (fun vs H Q E h => ?_) (fun cdv A outer s H vs Q E hr h => ?_)
  · obtain ⟨p, zs, rfl, _⟩ := h
    rfl
  · obtain ⟨p, zs, rfl, hp, q⟩ := h
    refine ⟨_, pss_cons (ps_if (pt_cmpR op_lt (pv 1) (pe_callB (call_len_seqK (K := K) rfl) (by rfl) T.len_ bb_len (pa_cons (pv 0) pa_nil)) (nomark _))
        (pss_one (ps_ret (pe_ix ix_list (pv 0) (pv 1) (fun _ _ => rfl))))
        (pss_nil))
      (pss_one (ps_ret (pe_int))), ?_⟩
    cases zs with
    | nil => exact ⟨.int 0, rfl, .ref p, rfl, p, _, rfl, .inl hp, 0, _, rfl, rfl, false, no (by decide), q 0⟩
    | cons z zs =>
      refine ⟨.int 0, rfl, .ref p, rfl, p, _, rfl, .inl hp, 0, _, rfl, rfl, true, yes (by simp), ?_⟩
      exact ⟨.ref p, rfl, .int 0, rfl, p, _, 0, .int z, rfl, rfl, hp, atI_nat (j := 0) rfl, q z⟩
def sp__law_source : Sp := fun vs H Q _ => ∃ c : Int, vs = [.int c] ∧ ∀ p H', Same H H' → H p = none → SrcAt p H' → Q (.ref p) H'
theorem ok__law_source (T : Blt K mg) (dF : Df K mg "_law_source" st__law_source ["_law_cell"])  : C8.Cal P w K mg base 1 "_law_source" sp__law_source [] := by
  have nd := sc__law_source.nd
  refine cal_of dF sc__law_source (fun vs H Q E h => ?_) (fun cdv A outer s H vs Q E hr h => ?_)
  · obtain ⟨c, rfl, _⟩ := h
    rfl
  · obtain ⟨c, rfl, q⟩ := h
    refine ⟨_, pss_one (ps_ret (pe_lst (pa_cons (pe_op op_mul (pv 0) (pe_callTy call_int1 (by rfl) T.int_ bt_int (pa_cons (pe_cmpR op_ge (pv 0) (pe_op op_pow (pe_int) (pe_int)) (nomark _)) pa_nil))) (pa_cons (pe_op op_mod (pv 0) (pe_int)) (pa_cons (pe_int) pa_nil))))), ?_⟩
    refine ⟨.int c, rfl, .int c, rfl, 10, 18, rfl, rfl, ⟨by decide, by decide, by decide⟩, c, _, rfl, rfl, ?_⟩
    refine .inr ⟨_, rfl, c, _, rfl, rfl, .inr ⟨by split <;> decide, by split <;> decide⟩, ?_⟩
    refine ⟨.int c, rfl, c, 2147483543, rfl, rfl, (show (0 : Int) < 2147483543 by decide), (show 3 ≤ sizeLine from line (by decide)), fun p hp => ?_⟩
    exact q p _ (same_new hp) hp ⟨_, _, _, upd_same⟩
def sp__law_take : Sp := fun vs H Q _ => ∃ (a : Addr) (b : Nat), vs = [.ref a, vN b] ∧ SrcAt a H ∧ 0 < b ∧ b < 2 ^ 200 ∧ ∀ (r : Nat) H', r < b → Dr a H H' → Q (vN r) H'
theorem ok__law_take (T : Blt K mg) (dF : Df K mg "_law_take" st__law_take ["_law_source_here", "_law_bound"])  : C8.Cal P w K mg base 1 "_law_take" sp__law_take [] := by
  have nd := sc__law_take.nd
  refine cal_of dF sc__law_take (fun vs H Q E h => ?_) (fun cdv A outer s H vs Q E hr h => ?_)
  · obtain ⟨a, b, rfl, _⟩ := h
    rfl
  · obtain ⟨a, b, rfl, hs, h0, hb, q⟩ := h
    refine ⟨_, pss_cons (ps_if (pt_cmpR op_gt (pe_ix ix_list (pv 0) (pe_int) (fun _ _ => rfl)) (pe_int) (nomark _))
        (pss_cons (ps_set (i := 2) nd rfl (Or.inl rfl) (pe_op op_mod (pe_ix ix_list (pv 0) (pe_int) (fun _ _ => rfl)) (pv 1)))
        (pss_cons (ps_asg (pe_op op_fdivW (pe_ix ix_list (pv 0) (pe_int) (fun _ _ => rfl)) (pv 1)) (pg_sub (pv 0) (pe_int) set_list))
        (pss_one (ps_ret (pv 2)))))
        (pss_nil))
      (pss_cons (ps_asg (pe_op op_add (pe_ix ix_list (pv 0) (pe_int) (fun _ _ => rfl)) (pe_int)) (pg_sub (pv 0) (pe_int) set_list))
      (pss_cons (ps_set (i := 3) nd rfl (Or.inl rfl) (pe_op op_mod (pe_op op_mul (pe_op op_add (pe_op op_add (pe_ix ix_list (pv 0) (pe_int) (fun _ _ => rfl)) (pe_op op_mul (pe_int) (pe_ix ix_list (pv 0) (pe_int) (fun _ _ => rfl)))) (pe_int)) (pe_int)) (pe_int)))
      (pss_cons (ps_set (i := 3) nd rfl (Or.inl rfl) (pe_op op_mod (pe_op op_mul (pv 3) (pe_op op_add (pe_op op_fdiv (pv 3) (pe_int)) (pe_int))) (pe_int)))
      (pss_one (ps_ret (pe_op op_mod (pe_op op_fdiv (pe_op op_mod (pe_op op_mul (pv 3) (pe_op op_add (pe_op op_fdiv (pv 3) (pe_int)) (pe_int))) (pe_int)) (pe_int)) (pv 1))))))), ?_⟩
    have hs' := hs
    obtain ⟨x, y, z, e⟩ := hs
    have hlog : ((b : Int).natAbs).log2 < 9000 := by
      have : (b : Int).natAbs = b := by omega
      rw [this]
      have h2 : b.log2 < 200 := (Nat.log2_lt (by omega)).mpr hb
      omega
    have upd_src : ∀ (Hx : Hp) (x y z : Int), Dr a H Hx → Dr a H (upd Hx a (.lst [.int x, .int y, .int z])) := fun Hx x y z d => ⟨fun p o n e => by
      rw [upd_ne n]
      exact d.1 p o n e, x, y, z, upd_same⟩
    by_cases hx : 0 < x
    · refine ⟨.ref a, rfl, a, _, 0, .int x, rfl, rfl, SqL.of e, atI_nat (j := 0) rfl, x, 0, rfl, rfl, true, yes hx, ?_⟩
      refine ⟨.ref a, rfl, a, _, 0, .int x, rfl, rfl, SqL.of e, atI_nat (j := 0) rfl, vN b, rfl, x, (b : Int), rfl, rfl, (show (0 : Int) < (b : Int) by omega), ?_⟩
      refine ⟨.ref a, rfl, a, _, 0, .int x, rfl, rfl, SqL.of e, atI_nat (j := 0) rfl, vN b, rfl, x, (b : Int), rfl, rfl, ⟨(show (0 : Int) < (b : Int) by omega), hlog⟩, .ref a, rfl, a, _, 0, 0, rfl, rfl, e, rfl, ?_⟩
      refine ⟨_, rfl, ?_⟩
      have hr0 := Int.emod_nonneg x (show (b : Int) ≠ 0 by omega)
      have hr1 := Int.emod_lt_of_pos x (show (0 : Int) < (b : Int) by omega)
      have er : V.int (x % (b : Int)) = vN (x % (b : Int)).toNat := by
        unfold vN
        congr 1
        omega
      have := q (x % (b : Int)).toNat _ (by omega) (upd_src H (x / (b : Int)) y z (Dr.refl hs'))
      rw [← er] at this
      exact this
    · refine ⟨.ref a, rfl, a, _, 0, .int x, rfl, rfl, SqL.of e, atI_nat (j := 0) rfl, x, 0, rfl, rfl, false, no hx, ?_⟩
      refine ⟨.ref a, rfl, a, _, 2, .int z, rfl, rfl, SqL.of e, atI_nat (j := 2) rfl, z, 1, rfl, rfl, .ref a, rfl, a, _, 2, 2, rfl, rfl, e, rfl, ?_⟩
      have d2 := upd_src H x y (z + 1) (Dr.refl hs')
      have e2 : upd H a (.lst [.int x, .int y, .int (z + 1)]) a = some (.lst [.int x, .int y, .int (z + 1)]) := upd_same
      have red : upd H a (.lst ([.int x, .int y, .int z].set 2 (.int (z + 1)))) = upd H a (.lst [.int x, .int y, .int (z + 1)]) := rfl
      refine ⟨.ref a, rfl, a, _, 1, .int y, rfl, rfl, SqL.of e2, atI_nat (j := 1) rfl, .ref a, rfl, a, _, 2, .int (z + 1), rfl, rfl, SqL.of e2, atI_nat (j := 2) rfl, 32452843, z + 1, rfl, rfl, .inl ⟨by decide, by decide⟩, y, _, rfl, rfl, _, 1, rfl, rfl, _, 48271, rfl, rfl, .inr ⟨by decide, by decide⟩, _, 2147483647, rfl, rfl, (show (0 : Int) < 2147483647 by decide), ?_⟩
      have m1 := Int.emod_nonneg ((y + 32452843 * (z + 1) + 1) * 48271) (show (2147483647 : Int) ≠ 0 by decide)
      have m2 := Int.emod_lt_of_pos ((y + 32452843 * (z + 1) + 1) * 48271) (show (0 : Int) < 2147483647 by decide)
      generalize hM : (y + 32452843 * (z + 1) + 1) * 48271 % 2147483647 = M at *
      refine ⟨.int M, by rw [← hM]; rfl, .int M, by rw [← hM]; rfl, M, 1021, rfl, rfl, ⟨by decide, by decide⟩, _, 69621, rfl, rfl, M, _, rfl, rfl, .inl ⟨by omega, by omega⟩, _, 2147483629, rfl, rfl, (show (0 : Int) < 2147483629 by decide), ?_⟩
      have m3 := Int.emod_nonneg (M * (M / 1021 + 69621)) (show (2147483629 : Int) ≠ 0 by decide)
      have m4 := Int.emod_lt_of_pos (M * (M / 1021 + 69621)) (show (0 : Int) < 2147483629 by decide)
      generalize hN : M * (M / 1021 + 69621) % 2147483629 = N at *
      refine ⟨.int N, by rw [← hN]; rfl, .int N, by rw [← hN]; rfl, N, 2053, rfl, rfl, ⟨by decide, by decide⟩, _, 40692, rfl, rfl, N, _, rfl, rfl, .inl ⟨by omega, by omega⟩, _, 2147483399, rfl, rfl, (show (0 : Int) < 2147483399 by decide), _, 3, rfl, rfl, ⟨by decide, by decide⟩, vN b, ?_, _, (b : Int), rfl, rfl, (show (0 : Int) < (b : Int) by omega), ?_⟩
      · rfl
      have hr0 := Int.emod_nonneg (N * (N / 2053 + 40692) % 2147483399 / 3) (show (b : Int) ≠ 0 by omega)
      have hr1 := Int.emod_lt_of_pos (N * (N / 2053 + 40692) % 2147483399 / 3) (show (0 : Int) < (b : Int) by omega)
      have er : V.int (N * (N / 2053 + 40692) % 2147483399 / 3 % (b : Int)) = vN (N * (N / 2053 + 40692) % 2147483399 / 3 % (b : Int)).toNat := by
        unfold vN
        congr 1
        omega
      have := q (N * (N / 2053 + 40692) % 2147483399 / 3 % (b : Int)).toNat _ (by omega) d2
      rw [← er] at this
      exact this
def sp__law_pick : Sp := fun vs H Q _ => ∃ (a p : Addr) (xs : List V), vs = [.ref a, .ref p] ∧ SrcAt a H ∧ p ≠ a ∧ H p = some (.lst xs) ∧ 0 < xs.length ∧ xs.length ≤ 1000 ∧ ∀ (i : Nat) v H', xs[i]? = some v → Dr a H H' → Q v H'
theorem ok__law_pick (T : Blt K mg) (dF : Df K mg "_law_pick" st__law_pick ["_law_source_here", "_law_items"]) (c__law_take : C8.Cal P w K mg base 1 "_law_take" sp__law_take []) : C8.Cal P w K mg base 2 "_law_pick" sp__law_pick [] := by
  have nd := sc__law_pick.nd
  refine cal_of dF sc__law_pick (fun vs H Q E h => ?_) (fun cdv A outer s H vs Q E hr h => ?_)
  · obtain ⟨a, p, xs, rfl, _⟩ := h
    rfl
  · obtain ⟨a, p, xs, rfl, hs, hne, hp, h0, h1, q⟩ := h
    refine ⟨_, pss_one (ps_ret (pe_ix ix_list (pv 1) (C8.pe_c c__law_take hr (by decide) (by rfl) (pa_cons (pv 0) (pa_cons (pe_callB (call_len_seqK (K := K) rfl) (by rfl) T.len_ bb_len (pa_cons (pv 1) pa_nil)) pa_nil))) (fun _ _ => rfl))), ?_⟩
    refine ⟨.ref p, rfl, .ref a, rfl, .ref p, rfl, p, _, rfl, .inl (SqL.of hp), a, xs.length, rfl, hs, h0, Nat.lt_of_le_of_lt h1 (by decide), fun r H' hr d => ?_⟩
    exact ⟨p, xs, (r : Int), xs[r], rfl, rfl, SqL.of (d.1 p _ hne hp), atI_nat (List.getElem?_eq_getElem hr), q r _ H' (List.getElem?_eq_getElem hr) d⟩
def sp__law_shuffled : Sp := fun vs H Q _ => ∃ (a p : Addr) (ns : List Nat), vs = [.ref a, .ref p] ∧ SrcAt a H ∧ H p = some (.lst (ns.map vN)) ∧ ns.length ≤ 1000 ∧ ∀ r (ms : List Nat) H', Dr a H H' → H r = none → H' r = some (.lst (ms.map vN)) → ms.Perm ns → Q (.ref r) H'
theorem ok__law_shuffled (T : Blt K mg) (dF : Df K mg "_law_shuffled" st__law_shuffled ["_law_source_here", "_law_items"]) (c__law_take : C8.Cal P w K mg base 1 "_law_take" sp__law_take []) : C8.Cal P w K mg base 2 "_law_shuffled" sp__law_shuffled [] := by
  have nd := sc__law_shuffled.nd
  refine cal_of dF sc__law_shuffled (fun vs H Q E h => ?_) (fun cdv A outer s H vs Q E hr h => ?_)
  · obtain ⟨a, p, ns, rfl, _⟩ := h
    rfl
  · obtain ⟨a, p, ns, rfl, hs, hp, hl, q⟩ := h
    refine ⟨_, pss_cons (ps_par (i := 2) (j := 3) rfl nd rfl rfl (by decide) rfl rfl (pa_cons (pe_callTy call_list_of (by rfl) T.list_ bt_list (pa_cons (pv 1) pa_nil)) (pa_cons (pe_lst (pa_nil)) pa_nil)) (by first | rfl | decide +kernel))
      (pss_cons (ps_while PassesOwn.never (pt_cmpR (op_neD hr.units) (pv 2) (pe_lst (pa_nil)) (nomark _))
        (pss_one (ps_expr (pe_bm PySem.F.plainAttrs_list PySem.F.slot_list_append PySem.F.type_list_append mt_append (pv 3) (pa_cons (pe_bm PySem.F.plainAttrs_list PySem.F.slot_list_pop PySem.F.type_list_pop mt_popAt (pv 2) (pa_cons (C8.pe_c c__law_take hr (by decide) (by rfl) (pa_cons (pv 0) (pa_cons (pe_callB (call_len_seqK (K := K) rfl) (by rfl) T.len_ bb_len (pa_cons (pv 2) pa_nil)) pa_nil))) pa_nil)) pa_nil)))))
      (pss_one (ps_ret (pv 3)))), ?_⟩
    refine ⟨.ref p, rfl, p, _, rfl, .inl (SqL.of hp), fun p1 n1 => ⟨Nat.zero_le _, fun p2 n2 => ⟨_, _, rfl, ?_⟩⟩⟩
    have s1 : Same H (upd H p1 (.lst (ns.map vN))) := same_new n1
    have n2' : H p2 = none := by
      cases e : H p2 with
      | none => rfl
      | some o => rw [s1 _ _ e] at n2; cases n2
    have ne12 : p1 ≠ p2 := fun z => by rw [← z, upd_same] at n2; cases n2
    have na1 := hs.ne n1
    have na2 := hs.ne n2'
    refine ⟨fun μ σ H' => Dr a H H' ∧ (∃ ps rs : List Nat, H' p1 = some (.lst (ps.map vN)) ∧ H' p2 = some (.lst (rs.map vN)) ∧ (ps ++ rs).Perm ns ∧ μ = ps.length) ∧ σ = [some (.ref a), some (.ref p), some (.ref p1), some (.ref p2)], ⟨_, Dr.of hs (s1.trans (same_new n2)), ⟨ns, [], ?_, upd_same, by rw [List.append_nil], rfl⟩, rfl⟩, fun μ σ H1 pp => ?_⟩
    · rw [upd_ne ne12, upd_same]
    · obtain ⟨d, ⟨ps, rs, e1, e2, hperm, rfl⟩, rfl⟩ := pp
      refine ⟨.ref p1, rfl, (show 0 ≤ sizeLine from line (by decide)), fun p3 n3 => ?_⟩
      have s3 : Same H1 (upd H1 p3 (.lst [])) := same_new n3
      refine ⟨dL ps, .list [], dp_lst (s3 _ _ e1), .lst (SqL.of upd_same) .nil, shL _, dl_empty, ?_⟩
      have d3 := d.same s3
      have e1' := s3 _ _ e1
      have e2' := s3 _ _ e2
      generalize upd H1 p3 (.lst []) = H2 at *
      rw [dL_nil]
      cases ps with
      | nil =>
        refine ⟨false, rfl, .ref p2, rfl, ?_⟩
        exact q p2 rs H2 d3 n2' e2' hperm
      | cons k ks =>
        refine ⟨true, rfl, ?_⟩
        have hlen : (k :: ks).length ≤ ns.length := by
          rw [← hperm.length_eq, List.length_append]
          omega
        have hlen2 : (k :: ks).length + rs.length = ns.length := by rw [← hperm.length_eq, List.length_append]
        refine ⟨fun σ' H' => ∃ μ', μ' < (k :: ks).length ∧ (Dr a H H' ∧ (∃ ps rs : List Nat, H' p1 = some (.lst (ps.map vN)) ∧ H' p2 = some (.lst (rs.map vN)) ∧ (ps ++ rs).Perm ns ∧ μ' = ps.length) ∧ σ' = [some (.ref a), some (.ref p), some (.ref p1), some (.ref p2)]), fun _ _ h => h, ?_⟩
        refine ⟨.ref p2, rfl, .inl ⟨rfl, _, SqL.of e2'⟩, .ref p1, rfl, .inl ⟨rfl, _, SqL.of e1'⟩, .ref a, rfl, .ref p1, rfl, p1, _, rfl, .inl (SqL.of e1'), a, (k :: ks).length, by rw [List.length_map]; rfl, d3.2, by simp, Nat.lt_of_le_of_lt (Nat.le_trans hlen hl) (by decide), fun r H3 hr d4 => ?_⟩
        have d5 := d3.trans d4
        have f1 := d4.1 _ _ na1 e1'
        have f2 := d4.1 _ _ na2 e2'
        have hg : ((k :: ks).map vN)[r]? = some (vN (k :: ks)[r]) := at_vN (List.getElem?_eq_getElem hr)
        refine ⟨p1, _, (r : Int), r, _, rfl, rfl, f1, by omega, by omega, ?_, hg, ?_⟩
        · rw [seqIndex_of (by omega) (by rw [List.length_map]; omega)]
          simp
        have ed : ((k :: ks).map vN).eraseIdx r = ((k :: ks).eraseIdx r).map vN := erase_map vN _ _
        rw [ed]
        have g2 : upd H3 p1 (.lst (((k :: ks).eraseIdx r).map vN)) p2 = some (.lst (rs.map vN)) := by rw [upd_ne (Ne.symm ne12)]; exact f2
        refine ⟨p2, _, _, rfl, rfl, g2, ?_, ?_⟩
        · rw [List.length_map]
          exact lineL (by omega)
        · have hel : ((k :: ks).eraseIdx r).length = (k :: ks).length - 1 := List.length_eraseIdx_of_lt hr
          refine ⟨_, ?_, (d5.app hs n1).app hs n2', ⟨(k :: ks).eraseIdx r, rs ++ [(k :: ks)[r]], ?_, ?_, ?_, rfl⟩, rfl⟩
          · rw [hel, List.length_cons]
            omega
          · rw [upd_ne ne12, upd_same]
          · rw [upd_same, List.map_append]
            rfl
          · refine List.Perm.trans ?_ hperm
            have h1 : ((k :: ks).eraseIdx r ++ (rs ++ [(k :: ks)[r]])).Perm ((k :: ks)[r] :: ((k :: ks).eraseIdx r ++ rs)) := by
              rw [← List.append_assoc]
              exact List.perm_append_singleton _ _
            refine h1.trans ?_
            rw [← List.cons_append]
            exact (erase_perm _ r hr).append_right rs
def sp__law_ranking : Sp := fun vs H Q _ => ∃ (a : Addr) (k : Nat), vs = [.ref a, vN k] ∧ SrcAt a H ∧ k ≤ 1000 ∧ ∀ v (ms : List Nat) H', Dr a H H' → TupN H' v ms → ms.Perm (List.range k) → Q v H'
theorem ok__law_ranking (T : Blt K mg) (dF : Df K mg "_law_ranking" st__law_ranking ["_law_source_here", "_law_many"]) (c__law_shuffled : C8.Cal P w K mg base 2 "_law_shuffled" sp__law_shuffled []) : C8.Cal P w K mg base 3 "_law_ranking" sp__law_ranking [] := by
  have nd := sc__law_ranking.nd
  refine cal_of dF sc__law_ranking (fun vs H Q E h => ?_) (fun cdv A outer s H vs Q E hr h => ?_)
  · obtain ⟨a, k, rfl, _⟩ := h
    rfl
  · obtain ⟨a, k, rfl, hs, hk, q⟩ := h
    refine ⟨_, pss_one (ps_ret (pe_callTy (call_tuple_ofK (K := K) rfl) (by rfl) T.tuple_ bt_tuple (pa_cons (C8.pe_c c__law_shuffled hr (by decide) (by rfl) (pa_cons (pv 0) (pa_cons (pe_listRg rfl (by rfl) T.list_ (prg_1 (by rfl) T.range_ (pv 1))) pa_nil))) pa_nil))), ?_⟩
    refine ⟨.ref a, rfl, vN k, rfl, (k : Int), rfl, RgOk.of_le (by omega) (by omega) (by omega) (by omega), fun r hr2 => ?_⟩
    have e1 : rgV 0 (k : Int) = (List.range k).map vN := by
      unfold rgV
      have : ((k : Int) - 0).toNat = k := by omega
      rw [this]
      refine List.map_congr_left fun i _ => ?_
      unfold vN
      congr 1
      omega
    rw [e1]
    have s1 := same_new (o := .lst ((List.range k).map vN)) hr2
    refine ⟨a, r, List.range k, rfl, hs.same s1, upd_same, by rw [List.length_range]; exact hk, fun r2 ms H2 d n e pm => ?_⟩
    refine ⟨r2, _, rfl, .inl ⟨SqL.of e, fun l hl => ?_⟩⟩
    exact q _ ms _ (((Dr.of hs s1).trans d).same (same_new hl)) ⟨l, rfl, upd_same⟩ pm
def sp__law_supply : Sp := fun vs H Q _ => ∃ (a : Addr) (m w : Nat), vs = [.ref a, vN m, vN w] ∧ SrcAt a H ∧ m ≤ 1000 ∧ 0 < w ∧ w < 2 ^ 200 ∧ ∀ v (cs : List Nat) H', Dr a H H' → TupN H' v cs → cs.length ≤ m → (∀ c ∈ cs, c ≤ w) → Q v H'
theorem ok__law_supply (T : Blt K mg) (dF : Df K mg "_law_supply" st__law_supply ["_law_source_here", "_law_most", "_law_wide"]) (c__law_take : C8.Cal P w K mg base 1 "_law_take" sp__law_take []) (c__law_pick : C8.Cal P w K mg base 2 "_law_pick" sp__law_pick []) : C8.Cal P w K mg base 3 "_law_supply" sp__law_supply [] := by
  have nd := sc__law_supply.nd
  refine cal_of dF sc__law_supply (fun vs H Q E h => ?_) (fun cdv A outer s H vs Q E hr h => ?_)
  · obtain ⟨a, m, w, rfl, _⟩ := h
    rfl
  · obtain ⟨a, m, w, rfl, hs, hm, h0, hw, q⟩ := h
    refine ⟨_, pss_cons (ps_set (i := 3) nd rfl (Or.inl rfl) (C8.pe_c c__law_take hr (by decide) (by rfl) (pa_cons (pv 0) (pa_cons (pe_op op_add (pv 1) (pe_int)) pa_nil))))
      (pss_one (ps_ret (pe_callTy (call_tuple_ofK (K := K) rfl) (by rfl) T.tuple_ bt_tuple (pa_cons (pe_lc (own := [("_law_k", 4)]) (g := gName 4) (tt := tYes) rfl nd (pi_range1 (by rfl) T.range_ (pa_cons (pv 3) pa_nil)) (blkOk_by (N := N__law_supply) (sc := C8.fnScope st__law_supply) (by decide +kernel))
        (fun _ _ _ _ _ => pg_name (i := 4) nd rfl (Or.inl rfl)) (fun _ _ _ _ _ => pts_nil)
        (fun _ _ _ _ _ => C8.pe_c c__law_pick hr (by decide) (by rfl) (pa_cons (pv 0) (pa_cons (pe_lst (pa_cons (pe_int) (pa_cons (pe_int) (pa_cons (pe_int) (pa_cons (C8.pe_c c__law_take hr (by decide) (by rfl) (pa_cons (pv 0) (pa_cons (pv 2) pa_nil))) pa_nil))))) pa_nil)))) pa_nil)))), ?_⟩
    refine ⟨.ref a, rfl, vN m, rfl, (m : Int), 1, rfl, rfl, a, m + 1, rfl, hs, by omega, Nat.lt_of_le_of_lt (Nat.succ_le_succ hm) (by decide), fun k H1 hk d1 => ?_⟩
    refine ⟨vN k, rfl, (k : Int), rfl, by omega, by omega, fun D hD => ?_⟩
    refine lc_dr (walk_range (lo := 0)) a (fun _ v => ∃ c : Nat, v = vN c ∧ c ≤ w) d1.2 (by omega) hD (fun _ _ => trivial) (fun i x H2 H' kk hi d2 y hkk => ?_) (fun H' acc d2 eD el eE => ?_)
    · obtain ⟨rfl, rfl⟩ := y
      refine ⟨rfl, ?_⟩
      refine ⟨.ref a, rfl, .ref a, rfl, vN w, rfl, a, w, rfl, d2.2, h0, hw, fun r H3 hr d3 => ?_⟩
      refine ⟨(show 4 ≤ sizeLine from line (by decide)), fun p hp => ?_⟩
      have s4 := same_new (o := .lst [.int 0, .int 1, .int 1, vN r]) hp
      refine ⟨a, p, [.int 0, .int 1, .int 1, vN r], rfl, d3.2.same s4, d3.2.ne hp, upd_same, by simp, by simp, fun i v H4 hv d4 => ?_⟩
      refine hkk _ _ ((d3.same s4).trans d4) ?_
      match i, hv with
      | 0, h => exact ⟨0, (Option.some.inj h).symm, by omega⟩
      | 1, h => exact ⟨1, (Option.some.inj h).symm, by omega⟩
      | 2, h => exact ⟨1, (Option.some.inj h).symm, by omega⟩
      | 3, h => exact ⟨r, (Option.some.inj h).symm, by omega⟩
      | n + 4, h => simp at h
    · obtain ⟨cs, rfl, hcs⟩ : ∃ cs : List Nat, acc = cs.map vN ∧ ∀ c ∈ cs, c ≤ w := by
        clear el eD
        induction acc with
        | nil => exact ⟨[], rfl, fun c h => by simp at h⟩
        | cons v vs ih =>
          obtain ⟨cs, e, hc⟩ := ih fun j v h => eE (j + 1) v (by simpa using h)
          obtain ⟨c, ec, hc2⟩ := eE 0 v rfl
          refine ⟨c :: cs, by rw [e, ec]; rfl, fun x hx => ?_⟩
          rcases List.mem_cons.mp hx with rfl | hx
          · exact hc2
          · exact hc x hx
      refine ⟨D, _, rfl, .inl ⟨SqL.of eD, fun l hl => ?_⟩⟩
      rw [List.length_map] at el
      exact q _ cs _ ((d1.trans d2).same (same_new hl)) ⟨l, rfl, upd_same⟩ (by omega) hcs
end
end TG
namespace TG
open PySem PySem.Spec PyProof.Rows L2 TGZ
abbrev st__law_blocks : Stmt := topS 63
abbrev N__law_blocks : List Str := ["_law_source_here", "_law_room", "_law_wide", "_law_result", "_law_k", "_law_size", "_law_letters", "_law_times_here", "_law_j"]
theorem sc__law_blocks : FnScope N__law_blocks ["_law_source_here", "_law_room", "_law_wide"] (C8.fnScope st__law_blocks) := C8.fnScope_by (by decide +kernel)
abbrev st__law_lists : Stmt := topS 64
abbrev N__law_lists : List Str := ["_law_source_here", "_law_many", "_law_one", "_law_way", "_law_at"]
theorem sc__law_lists : FnScope N__law_lists ["_law_source_here", "_law_many"] (C8.fnScope st__law_lists) := C8.fnScope_by (by decide +kernel)
theorem cat_txt (b : Bool) (t : List Bool) : txt [b] ++ txt t = txt (b :: t) := by
  unfold txt
  show Str.mk (_ ++ _) = _
  simp
theorem join_txt : ∀ t : List Bool, Str.join ⟨#[]⟩ (t.map fun b => txt [b]) = txt t
  | [] => rfl
  | [b] => rfl
  | b :: c :: t => by
    show txt [b] ++ ⟨#[]⟩ ++ Str.join ⟨#[]⟩ ((c :: t).map fun b => txt [b]) = txt (b :: c :: t)
    rw [join_txt (c :: t)]
    have e : txt [b] ++ (⟨#[]⟩ : Str) = txt [b] := Str.append_empty _
    rw [e, cat_txt]
theorem empty_str : Str.ofString "" = ⟨#[]⟩ := by decide +kernel
theorem join_ltr (t : List Bool) : Txt.join (Str.ofString "") (t.map fun b => txt [b]) = txt t := by
  rw [TL.join_eq, empty_str, join_txt]
theorem ltrs_of : ∀ {acc : List V}, (∀ (j : Nat) v, acc[j]? = some v → v = ltr true ∨ v = ltr false) → ∃ t : List Bool, acc = (t.map fun b => txt [b]).map V.str
  | [], _ => ⟨[], rfl⟩
  | v :: vs, h => by
    obtain ⟨t, e⟩ := ltrs_of fun j v h2 => h (j + 1) v (by simpa using h2)
    rcases h 0 v rfl with e1 | e1
    · exact ⟨true :: t, by rw [e1, e]; rfl⟩
    · exact ⟨false :: t, by rw [e1, e]; rfl⟩
theorem sizes_txt (t : List Bool) : (((t.map fun b => txt [b]).map (·.length)).sum + (t.map fun b => txt [b]).length * (Str.ofString "").length) = t.length := by
  have e0 : (Str.ofString "").length = 0 := by decide +kernel
  rw [e0, Nat.mul_zero, Nat.add_zero, List.map_map]
  induction t with
  | nil => rfl
  | cons b t ih =>
    rw [List.map_cons, List.sum_cons, ih, List.length_cons]
    show (txt [b]).length + t.length = t.length + 1
    rw [txt_len]
    simp
    omega
/-- the two letters from a list of both -/
theorem pick_AB {i : Nat} {v : V} (h : [V.str (Str.ofString "A"), V.str (Str.ofString "B")][i]? = some v) : v = ltr true ∨ v = ltr false := by
  match i, h with
  | 0, h => exact .inl (by rw [← Option.some.inj h, key_A]; rfl)
  | 1, h => exact .inr (by rw [← Option.some.inj h, key_B]; rfl)
  | n + 2, h => simp at h
section
variable {P : Program} {w : World} {K : PySem.W.Frag} {mg : Str → Option Value} {base : Heap}
/-- a new block behind a new list's items, after draws -/
theorem put_drw {a : Addr} {H H' : Hp} {p2 pf : Addr} {t : List Bool} {n : Nat} {vs : List V} {ds : List Blk} {x : HO} (s0 : SrcAt a H) (s : Dr a H H') (npf : H pf = none) (n2 : H' p2 = none) (i1 : H' pf = some (.lst vs)) (i2 : All2 (BlkR H') vs ds) (ex : x = .tup [.str (txt t), vN n]) :
    (upd H' p2 x) pf = some (.lst vs) ∧ Dr a H (upd (upd H' p2 x) pf (.lst (vs ++ [.ref p2]))) ∧ Tp H' (upd (upd H' p2 x) pf (.lst (vs ++ [.ref p2]))) ∧ (upd (upd H' p2 x) pf (.lst (vs ++ [.ref p2]))) pf = some (.lst (vs ++ [.ref p2])) ∧
      All2 (BlkR (upd (upd H' p2 x) pf (.lst (vs ++ [.ref p2])))) (vs ++ [.ref p2]) (ds ++ [(t, n)]) := by
  have s2 : Same H' (upd H' p2 x) := same_new n2
  have e1 := s2 _ _ i1
  have t1 : Tp (upd H' p2 x) (upd (upd H' p2 x) pf (.lst (vs ++ [.ref p2]))) := Tp.lst e1
  refine ⟨e1, (s.same s2).app s0 npf, s2.tp.trans t1, upd_same, (i2.mono fun _ _ z => z.tp (s2.tp.trans t1)).snoc ⟨p2, rfl, t1.at ?_⟩⟩
  rw [upd_same, ex]
theorem min_vN (i j : Nat) : (if (j : Int) < (i : Int) then (j : Int) else (i : Int)) = ((min i j : Nat) : Int) := by split <;> omega
def sp__law_blocks : Sp := fun vs H Q _ => ∃ (a : Addr) (m w : Nat), vs = [.ref a, vN m, vN w] ∧ SrcAt a H ∧ 0 < w ∧ w < 2 ^ 200 ∧ ∀ v (bs : List Blk) H', Dr a H H' → SeqR H' v bs → bs.length ≤ 5 → (∀ b ∈ bs, WB b) → lenB bs ≤ m → Q v H'
theorem ok__law_blocks (T : Blt K mg) (dF : Df K mg "_law_blocks" st__law_blocks ["_law_source_here", "_law_room", "_law_wide"]) (c__law_take : C8.Cal P w K mg base 1 "_law_take" sp__law_take []) (c__law_pick : C8.Cal P w K mg base 2 "_law_pick" sp__law_pick []) : C8.Cal P w K mg base 3 "_law_blocks" sp__law_blocks [] := by
  have nd := sc__law_blocks.nd
  refine cal_of dF sc__law_blocks (fun vs H Q E h => ?_) (fun cdv A outer s H vs Q E hr h => ?_)
  · obtain ⟨a, m, w, rfl, _⟩ := h
    rfl
  · obtain ⟨a, m, w, rfl, hs, h0, hw, q⟩ := h
    refine ⟨_, pss_cons (ps_set (i := 3) nd rfl (Or.inl rfl) (pe_lst (pa_nil)))
      (pss_cons (ps_for PassesOwn.never rfl (pi_range1 (by rfl) T.range_ (pa_cons (C8.pe_c c__law_take hr (by decide) (by rfl) (pa_cons (pv 0) (pa_cons (pe_int) pa_nil))) pa_nil)) (pg_name (i := 4) nd rfl (Or.inl rfl))
        (pss_cons (ps_set (i := 5) nd rfl (Or.inl rfl) (pe_op op_add (pe_int) (C8.pe_c c__law_take hr (by decide) (by rfl) (pa_cons (pv 0) (pa_cons (C8.pe_c c__law_pick hr (by decide) (by rfl) (pa_cons (pv 0) (pa_cons (pe_lst (pa_cons (pe_int) (pa_cons (pe_int) pa_nil))) pa_nil))) pa_nil)))))
        (pss_cons (ps_set (i := 6) nd rfl (Or.inl rfl) (pe_join (pe_str) (pe_lc (own := [("_law_j", 8)]) (g := gName 8) (tt := tYes) rfl nd (pi_range1 (by rfl) T.range_ (pa_cons (pv 5) pa_nil)) (blkOk_by (N := N__law_blocks) (sc := C8.fnScope st__law_blocks) (by decide +kernel))
          (fun _ _ _ _ _ => pg_name (i := 8) nd rfl (Or.inl rfl)) (fun _ _ _ _ _ => pts_nil)
          (fun _ _ _ _ _ => C8.pe_c c__law_pick hr (by decide) (by rfl) (pa_cons (pv 0) (pa_cons (pe_lst (pa_cons (pe_str) (pa_cons (pe_str) pa_nil))) pa_nil))))))
        (pss_cons (ps_set (i := 7) nd rfl (Or.inl rfl) (pe_callB (call_min2 rfl) (by rfl) T.min_ bb_min (pa_cons (pe_op op_add (pe_int) (C8.pe_c c__law_take hr (by decide) (by rfl) (pa_cons (pv 0) (pa_cons (pv 2) pa_nil)))) (pa_cons (pe_op op_fdiv (pv 1) (pv 5)) pa_nil))))
        (pss_one (ps_if (pt_cmpR op_gt (pv 7) (pe_int) (nomark _))
          (pss_cons (ps_expr (pe_bm PySem.F.plainAttrs_list PySem.F.slot_list_append PySem.F.type_list_append mt_append (pv 3) (pa_cons (pe_tup (pa_cons (pv 6) (pa_cons (pv 7) pa_nil))) pa_nil)))
          (pss_one (ps_set (i := 1) nd rfl (Or.inl rfl) (pe_op op_sub (pv 1) (pe_op op_mul (pv 5) (pv 7))))))
          (pss_nil)))))))
      (pss_one (ps_ret (pv 3)))), ?_⟩
    refine ⟨(show 0 ≤ sizeLine from line (by decide)), fun pf npf => ?_⟩
    have d1 := Dr.of hs (same_new (o := .lst []) npf)
    have nfa := hs.ne npf
    refine ⟨.ref a, rfl, a, 6, rfl, d1.2, by decide, by decide, fun n H1 hn d2 => ?_⟩
    have d12 := d1.trans d2
    have ef := d2.1 _ _ nfa (upd_same (H := H) (a := pf) (o := .lst []))
    refine ⟨(n : Int), rfl, by omega, by omega, ?_⟩
    refine for_it (walk_range (lo := 0)) (fun i σ H' => Dr a H H' ∧ ∃ (r : Nat) (z4 z5 z6 z7 z8 : Option V) (ds : List Blk) (vs : List V), σ = [some (.ref a), some (vN r), some (vN w), some (.ref pf), z4, z5, z6, z7, z8] ∧ H' pf = some (.lst vs) ∧ All2 (BlkR H') vs ds ∧ (∀ b ∈ ds, WB b) ∧ ds.length ≤ i ∧ lenB ds + r = m) ⟨d12, m, _, _, _, _, _, [], [], rfl, ef, All2.nil, fun b h => by simp at h, Nat.le_refl _, by simp [lenB]⟩ (fun i σ H' _ p => trivial) (fun i x σ H3 H' hi p y => ?_) (fun σ H' p => ?_)
    · obtain ⟨rfl, rfl⟩ := y
      obtain ⟨d, r, z4, z5, z6, z7, z8, ds, vs, rfl, i1, i2, i3, i4, i5⟩ := p
      refine ⟨.ref a, rfl, .ref a, rfl, (show 2 ≤ sizeLine from line (by decide)), fun p1 n1 => ?_⟩
      have s3 := same_new (o := .lst [.int 3, .int 20]) n1
      refine ⟨a, p1, [.int 3, .int 20], rfl, d.2.same s3, d.2.ne n1, upd_same, by simp, by simp, fun k v H4 hv d4 => ?_⟩
      obtain ⟨c, rfl, hc0, hc1⟩ : ∃ c : Nat, v = vN c ∧ 0 < c ∧ c ≤ 20 := by
        match k, hv with
        | 0, h => exact ⟨3, (Option.some.inj h).symm, by decide, by decide⟩
        | 1, h => exact ⟨20, (Option.some.inj h).symm, by decide, by decide⟩
        | n + 2, h => simp at h
      refine ⟨a, c, rfl, d4.2, hc0, Nat.lt_of_le_of_lt hc1 (by decide), fun sz H5 hsz d5 => ?_⟩
      have d45 := (d.same s3).trans (d4.trans d5)
      have i1' : H5 pf = some (.lst vs) := (d4.trans d5).1 _ _ nfa (s3 _ _ i1)
      have i2' : All2 (BlkR H5) vs ds := i2.mono fun _ _ z => ((z.mono s3).tp (d4.tp (d.2.same s3))).tp (d5.tp d4.2)
      refine ⟨1, (sz : Int), rfl, rfl, ?_⟩
      have esz : V.int (1 + (sz : Int)) = vN (sz + 1) := by
        unfold vN
        congr 1
        omega
      refine ⟨⟨_, rfl⟩, _, rfl, (1 + (sz : Int)), rfl, by omega, by omega, fun D hD => ?_⟩
      refine lc_dr (walk_range (lo := 0)) a (fun _ v => v = ltr true ∨ v = ltr false) d5.2 (by omega) hD (fun _ _ => trivial) (fun j x H6 H' kk hj d6 y hkk => ?_) (fun H6 acc d6 eD el eE => ?_)
      · obtain ⟨rfl, rfl⟩ := y
        refine ⟨rfl, ?_⟩
        refine ⟨.ref a, rfl, (show 2 ≤ sizeLine from line (by decide)), fun p2 n2 => ?_⟩
        have s7 := same_new (o := .lst [.str (Str.ofString "A"), .str (Str.ofString "B")]) n2
        refine ⟨a, p2, [.str (Str.ofString "A"), .str (Str.ofString "B")], rfl, d6.2.same s7, d6.2.ne n2, upd_same, by simp, by simp, fun k v H7 hv d7 => ?_⟩
        exact hkk _ _ ((Dr.of d6.2 s7).trans d7) (pick_AB hv)
      · obtain ⟨t, rfl⟩ := ltrs_of eE
        have elt : t.length = sz + 1 := by
          rw [List.length_map, List.length_map] at el
          omega
        refine ⟨_, D, t.map (fun b => txt [b]), rfl, rfl, .inl (SqL.of eD), ?_, ?_⟩
        · rw [sizes_txt]
          omega
        rw [join_ltr]
        have d56 := d45.trans d6
        have i1'' : H6 pf = some (.lst vs) := d6.1 _ _ nfa i1'
        have i2'' : All2 (BlkR H6) vs ds := i2'.mono fun _ _ z => z.tp (d6.tp d5.2)
        refine ⟨.ref a, rfl, vN w, rfl, a, w, rfl, d6.2, h0, hw, fun tm H7 htm d7 => ?_⟩
        have d67 := d56.trans d7
        have i1z : H7 pf = some (.lst vs) := d7.1 _ _ nfa i1''
        have i2z : All2 (BlkR H7) vs ds := i2''.mono fun _ _ z => z.tp (d7.tp d6.2)
        refine ⟨1, (tm : Int), rfl, rfl, vN r, rfl, vN (sz + 1), ?_, (r : Int), ((sz + 1 : Nat) : Int), rfl, rfl, ⟨by omega, by omega⟩, 1 + (tm : Int), _, rfl, ?_⟩
        · rw [← esz]
          rfl
        have emin : (if ((r : Int) / ((sz + 1 : Nat) : Int)) < (1 + (tm : Int)) then ((r : Int) / ((sz + 1 : Nat) : Int)) else (1 + (tm : Int))) = ((min (1 + tm) (r / (sz + 1)) : Nat) : Int) := by
          have e1 : (r : Int) / ((sz + 1 : Nat) : Int) = ((r / (sz + 1) : Nat) : Int) := (Int.natCast_ediv _ _).symm
          rw [e1]
          split <;> omega
        dsimp only
        rw [emin]
        have hmin : min (1 + tm) (r / (sz + 1)) * (sz + 1) ≤ r := by
          have h1 := Nat.div_mul_le_self r (sz + 1)
          have h2 := Nat.mul_le_mul_right (sz + 1) (Nat.min_le_right (1 + tm) (r / (sz + 1)))
          omega
        generalize min (1 + tm) (r / (sz + 1)) = mn at *
        by_cases hmn : 0 < mn
        · refine ⟨.int (mn : Int), rfl, (mn : Int), 0, rfl, rfl, true, yes (by omega), ?_⟩
          refine ⟨.ref pf, rfl, .inl ⟨rfl, _, SqL.of i1z⟩, .str (txt t), rfl, .int (mn : Int), rfl, (show 2 ≤ sizeLine from line (by decide)), fun p3 n3 => ?_⟩
          obtain ⟨b0, b1, b2, b3, b4⟩ := put_drw (t := t) (n := mn) (x := .tup [.str (txt t), .int (mn : Int)]) hs d67 npf n3 i1z i2z rfl
          refine ⟨pf, vs, _, rfl, rfl, b0, lineL (by rw [i2.1]; omega), ?_⟩
          refine ⟨vN r, rfl, vN (sz + 1), ?_, .int (mn : Int), rfl, ((sz + 1 : Nat) : Int), (mn : Int), rfl, rfl, .inl ⟨by omega, by omega⟩, (r : Int), _, rfl, rfl, b1, r - mn * (sz + 1), some (.int (0 + (i : Int))), some (.int (1 + (sz : Int))), some (.str (txt t)), some (.int (mn : Int)), z8, ds ++ [(t, mn)], vs ++ [.ref p3], ?_, b3, b4, fun b hb => ?_, ?_, ?_⟩
          · rw [← esz]
            rfl
          · have e9 : V.int ((r : Int) - ((sz + 1 : Nat) : Int) * (mn : Int)) = vN (r - mn * (sz + 1)) := by
              unfold vN
              congr 1
              have : ((mn * (sz + 1) : Nat) : Int) = ((sz + 1 : Nat) : Int) * (mn : Int) := by rw [Int.natCast_mul, Int.mul_comm]
              omega
            rw [← e9]
            rfl
          · rcases List.mem_append.mp hb with z | z
            · exact i3 b z
            · rw [List.mem_singleton.mp z]
              exact ⟨by show 1 ≤ t.length; omega, by show t.length ≤ 20; omega, hmn⟩
          · rw [List.length_append, List.length_singleton]
            omega
          · rw [lenB_append]
            have : lenB [(t, mn)] = mn * (sz + 1) := by
              simp [lenB, elt, Nat.mul_comm]
            rw [this]
            omega
        · refine ⟨.int (mn : Int), rfl, (mn : Int), 0, rfl, rfl, false, no (by omega), ?_⟩
          exact ⟨d67, r, _, _, _, _, _, ds, vs, rfl, i1z, i2z, i3, by omega, i5⟩
    · obtain ⟨d, r, z4, z5, z6, z7, z8, ds, vs, rfl, i1, i2, i3, i4, i5⟩ := p
      refine ⟨.ref pf, rfl, ?_⟩
      refine q _ ds H' d ⟨pf, vs, rfl, i1, i2⟩ (by omega) i3 (by omega)
theorem swap_perm {l : List Nat} (k : Nat) : (l.take k ++ ((l.drop k).take 2).reverse ++ l.drop (k + 2)).Perm l := by
  have h : l = l.take k ++ (l.drop k).take 2 ++ l.drop (k + 2) := by
    rw [List.append_assoc, ← List.drop_drop, List.take_append_drop, List.take_append_drop]
  have h2 := ((List.reverse_perm ((l.drop k).take 2)).append_left (l.take k)).append_right (l.drop (k + 2))
  rw [← h] at h2
  exact h2
def sp__law_lists : Sp := fun vs H Q _ => ∃ (a : Addr) (k : Nat), vs = [.ref a, vN k] ∧ SrcAt a H ∧ k ≤ 1000 ∧ ∀ v (L : Bool → List Nat) H', Dr a H H' → LsR H' v L → WL k L → Q v H'
/-- two lists as one function of the player -/
def two (x y : List Nat) : Bool → List Nat := fun p => if p then x else y
theorem ok__law_lists (T : Blt K mg) (dF : Df K mg "_law_lists" st__law_lists ["_law_source_here", "_law_many"]) (c__law_ranking : C8.Cal P w K mg base 3 "_law_ranking" sp__law_ranking []) (c__law_take : C8.Cal P w K mg base 1 "_law_take" sp__law_take []) : C8.Cal P w K mg base 4 "_law_lists" sp__law_lists [] := by
  have nd := sc__law_lists.nd
  refine cal_of dF sc__law_lists (fun vs H Q E h => ?_) (fun cdv A outer s H vs Q E hr h => ?_)
  · obtain ⟨a, k, rfl, _⟩ := h
    rfl
  · obtain ⟨a, k, rfl, hs, hk, q⟩ := h
    refine ⟨_, pss_cons (ps_par (i := 2) (j := 3) rfl nd rfl rfl (by decide) rfl rfl (pa_cons (C8.pe_c c__law_ranking hr (by decide) (by rfl) (pa_cons (pv 0) (pa_cons (pv 1) pa_nil))) (pa_cons (C8.pe_c c__law_take hr (by decide) (by rfl) (pa_cons (pv 0) (pa_cons (pe_int) pa_nil))) pa_nil)) (by first | rfl | decide +kernel))
      (pss_cons (ps_if (pt_cmpR op_eq (pv 3) (pe_int) (nomark _))
        (pss_one (ps_ret (pe_tup (pa_cons (pv 2) (pa_cons (pv 2) pa_nil)))))
        (pss_nil))
      (pss_cons (ps_if (pt_cmpR op_eq (pv 3) (pe_int) (nomark _))
        (pss_one (ps_ret (pe_tup (pa_cons (pv 2) (pa_cons (pe_revT (pv 2)) pa_nil)))))
        (pss_nil))
      (pss_cons (ps_if ((pw_and (pt_cmpR op_eq (pv 3) (pe_int) (nomark _)) (pw_and1 (pt_cmpR op_gt (pv 1) (pe_int) (nomark _)))).pt)
        (pss_cons (ps_set (i := 4) nd rfl (Or.inl rfl) (C8.pe_c c__law_take hr (by decide) (by rfl) (pa_cons (pv 0) (pa_cons (pe_op op_sub (pv 1) (pe_int)) pa_nil))))
        (pss_one (ps_ret (pe_tup (pa_cons (pv 2) (pa_cons (pe_op op_catA (pe_op op_catA (pe_slice sl_tupA (pv 2) po_none (po_some (pv 4))) (pe_revT (pe_slice sl_tupA (pv 2) (po_some (pv 4)) (po_some (pe_op op_add (pv 4) (pe_int)))))) (pe_slice sl_tupA (pv 2) (po_some (pe_op op_add (pv 4) (pe_int))) po_none)) pa_nil))))))
        (pss_nil))
      (pss_one (ps_ret (pe_tup (pa_cons (pv 2) (pa_cons (C8.pe_c c__law_ranking hr (by decide) (by rfl) (pa_cons (pv 0) (pa_cons (pv 1) pa_nil))) pa_nil)))))))), ?_⟩
    refine ⟨.ref a, rfl, vN k, rfl, a, k, rfl, hs, hk, fun v1 m1 H1 d1 hv1 pm1 => ?_⟩
    refine ⟨.ref a, rfl, a, 6, rfl, d1.2, by decide, by decide, fun wy H2 hwy d2 => ⟨_, _, rfl, ?_⟩⟩
    have d12 := d1.trans d2
    have hv2 : TupN H2 v1 m1 := hv1.tp (d2.tp d1.2)
    obtain ⟨b, rfl, hb⟩ := hv2
    have fin : ∀ (v2 : V) (m2 : List Nat) (H3 : Hp), Dr a H2 H3 → TupN H3 v2 m2 → m2.Perm (List.range k) → ∀ p, H3 p = none → Q (.ref p) (upd H3 p (.tup [.ref b, v2])) := by
      intro v2 m2 H3 d3 h3 pm2 p hp
      have s4 := same_new (o := .tup [.ref b, v2]) hp
      have hb3 : TupN H3 (.ref b) m1 := TupN.tp (d3.tp d2.2) ⟨b, rfl, hb⟩
      exact q _ (two m1 m2) _ ((d12.trans d3).same s4) ⟨p, _, _, rfl, upd_same, hb3.mono s4, h3.mono s4⟩ fun r => by
        cases r
        · exact pm2
        · exact pm1
    by_cases c0 : wy = 0
    · subst c0
      refine ⟨_, rfl, rfl, true, rfl, ?_⟩
      exact ⟨.ref b, rfl, .ref b, rfl, (show 2 ≤ sizeLine from line (by decide)), fun p hp => fin _ m1 H2 (Dr.refl d2.2) ⟨b, rfl, hb⟩ pm1 p hp⟩
    refine ⟨_, rfl, rfl, false, no (fun z => c0 (by have := V.int.inj z; omega)), ?_⟩
    by_cases c1 : wy = 1
    · subst c1
      refine ⟨_, rfl, rfl, true, rfl, ?_⟩
      refine ⟨.ref b, rfl, .ref b, rfl, b, _, rfl, SqT.of hb, fun p1 n1 => ⟨(show 2 ≤ sizeLine from line (by decide)), fun p hp => ?_⟩⟩
      exact fin _ m1.reverse _ (Dr.of d2.2 (same_new n1)) ⟨p1, rfl, by rw [upd_same, List.map_reverse]⟩ ((List.reverse_perm m1).trans pm1) p hp
    refine ⟨_, rfl, rfl, false, no (fun z => c1 (by have := V.int.inj z; omega)), ?_⟩
    by_cases c2 : wy = 2 ∧ 1 < k
    · obtain ⟨c2, c3⟩ := c2
      subst c2
      refine ⟨_, rfl, rfl, true, rfl, vN k, rfl, (k : Int), 1, rfl, rfl, true, yes (by omega), ?_⟩
      refine ⟨.ref a, rfl, vN k, rfl, (k : Int), 1, rfl, rfl, a, k - 1, ?_, d2.2, by omega, Nat.lt_of_le_of_lt (show k - 1 ≤ 1000 by omega) (by decide), fun g H3 hg d3 => ?_⟩
      · show [V.ref a, V.int ((k : Int) - 1)] = [V.ref a, vN (k - 1)]
        unfold vN
        congr 3
        omega
      have hb3 : H3 b = some (.tup (m1.map vN)) := (d3.tp d2.2).at hb
      refine ⟨.ref b, rfl, .ref b, rfl, vN g, rfl, (g : Int), rfl, ?_⟩
      refine slA hb3 fun c1 H4 s4 h4 => ?_
      rw [cut_hi] at h4
      refine ⟨.ref b, rfl, vN g, rfl, (g : Int), rfl, vN g, rfl, (g : Int), 2, rfl, rfl, _, rfl, ?_⟩
      refine slA (lo := some (g : Int)) (hi := some ((g : Int) + 2)) (s4 _ _ hb3) fun c2 H5 s5 h5 => ?_
      rw [show ((g : Int) + 2) = ((g + 2 : Nat) : Int) from rfl, cut_mid] at h5
      refine ⟨c2, _, rfl, SqT.of h5, fun c3 n3 => ?_⟩
      have s6 := same_new (o := .tup (List.take (g + 2 - g) (List.drop g (m1.map vN))).reverse) n3
      refine catA ((s5.trans s6) _ _ h4) upd_same ?_ fun c4 H7 s7 h7 => ?_
      · simp
        have := pm1.length_eq
        rw [List.length_range] at this
        omega
      have hb7 := (((s4.trans s5).trans s6).trans s7) _ _ hb3
      refine ⟨.ref b, rfl, vN g, rfl, (g : Int), 2, rfl, rfl, _, rfl, ?_⟩
      dsimp only [tNoPart]
      refine slA (lo := some ((g : Int) + 2)) (hi := none) hb7 fun c5 H8 s8 h8 => ?_
      rw [show ((g : Int) + 2) = ((g + 2 : Nat) : Int) from rfl, cut_lo] at h8
      refine catA (s8 _ _ h7) h8 ?_ fun c6 H9 s9 h9 => ?_
      · simp
        have := pm1.length_eq
        rw [List.length_range] at this
        omega
      refine ⟨(show 2 ≤ sizeLine from line (by decide)), fun p hp => ?_⟩
      refine fin _ (m1.take g ++ ((m1.drop g).take 2).reverse ++ m1.drop (g + 2)) H9 (d3.same (((((s4.trans s5).trans s6).trans s7).trans s8).trans s9)) ⟨c6, rfl, ?_⟩ ((swap_perm g).trans pm1) p hp
      rw [h9, show g + 2 - g = 2 by omega]
      simp [List.map_append, List.map_take, List.map_drop, List.map_reverse]
    · by_cases c3 : wy = 2
      · subst c3
        refine ⟨_, rfl, rfl, true, rfl, vN k, rfl, (k : Int), 1, rfl, rfl, false, no (by omega), ?_⟩
        refine ⟨.ref b, rfl, .ref a, rfl, vN k, rfl, a, k, rfl, d2.2, hk, fun v3 m3 H3 d3 hv3 pm3 => ⟨(show 2 ≤ sizeLine from line (by decide)), fun p hp => ?_⟩⟩
        exact fin _ m3 H3 d3 hv3 pm3 p hp
      · refine ⟨_, rfl, rfl, false, no (fun z => c3 (by have := V.int.inj z; omega)), ?_⟩
        refine ⟨.ref b, rfl, .ref a, rfl, vN k, rfl, a, k, rfl, d2.2, hk, fun v3 m3 H3 d3 hv3 pm3 => ⟨(show 2 ≤ sizeLine from line (by decide)), fun p hp => ?_⟩⟩
        exact fin _ m3 H3 d3 hv3 pm3 p hp
end
end TG
namespace TG
open PySem PySem.Spec PyProof.Rows L2 TGZ
abbrev st__law_whole_game : Stmt := topS 65
abbrev N__law_whole_game : List Str := ["_law_source_here", "_law_wide", "_law_supply_here", "_law_blocks_here", "_law_rest", "_law_letters", "_law_times_here"]
theorem sc__law_whole_game : FnScope N__law_whole_game ["_law_source_here"] (C8.fnScope st__law_whole_game) := C8.fnScope_by (by decide +kernel)
theorem sum_bound {w : Nat} : ∀ cs : List Nat, (∀ c ∈ cs, c ≤ w) → cs.sum ≤ cs.length * w
  | [], _ => by simp
  | c :: cs, h => by
    have h1 := h c List.mem_cons_self
    have h2 := sum_bound cs fun x hx => h x (List.mem_cons_of_mem _ hx)
    rw [List.sum_cons, List.length_cons, Nat.add_mul, Nat.one_mul]
    omega
theorem rep_bl (c : Bool) (x : V) : (List.replicate (if c = true then (1 : Int) else 0).toNat [x]).flatten = if c = true then [x] else [] := by cases c <;> rfl
theorem all2_bl {H : Hp} {vs : List V} {ds : List Blk} {x : V} {b : Blk} (h : All2 (BlkR H) vs ds) (r : BlkR H x b) (c : Bool) : All2 (BlkR H) (vs ++ if c = true then [x] else []) (ds ++ if c = true then [b] else []) := by
  cases c
  · simpa using h
  · exact h.snoc r
theorem rep_small (c : Bool) : -(2 ^ 63 : Int) ≤ (if c = true then (1 : Int) else 0) ∧ (if c = true then (1 : Int) else 0) < 2 ^ 63 ∧ ∀ x : V, [x].length * (if c = true then (1 : Int) else 0).toNat ≤ sizeLine := by
  cases c
  · exact ⟨by decide, by decide, fun x => line (by simp)⟩
  · exact ⟨by decide, by decide, fun x => line (by simp)⟩
theorem key_AB : Str.ofString "AB" = txt [true, false] := by decide +kernel
theorem key_BA : Str.ofString "BA" = txt [false, true] := by decide +kernel
theorem key_ABB : Str.ofString "ABB" = txt [true, false, false] := by decide +kernel
theorem key_BAAB : Str.ofString "BAAB" = txt [false, true, true, false] := by decide +kernel
theorem pick_five {i : Nat} {v : V} (h : [V.str (Str.ofString "A"), V.str (Str.ofString "B"), V.str (Str.ofString "AB"), V.str (Str.ofString "ABB"), V.str (Str.ofString "BAAB")][i]? = some v) : ∃ t : List Bool, v = .str (txt t) ∧ 1 ≤ t.length ∧ t.length ≤ 4 := by
  match i, h with
  | 0, h => exact ⟨[true], by rw [← Option.some.inj h, key_A], by decide, by decide⟩
  | 1, h => exact ⟨[false], by rw [← Option.some.inj h, key_B], by decide, by decide⟩
  | 2, h => exact ⟨[true, false], by rw [← Option.some.inj h, key_AB], by decide, by decide⟩
  | 3, h => exact ⟨[true, false, false], by rw [← Option.some.inj h, key_ABB], by decide, by decide⟩
  | 4, h => exact ⟨[false, true, true, false], by rw [← Option.some.inj h, key_BAAB], by decide, by decide⟩
  | n + 5, h => simp at h
section
variable {P : Program} {w : World} {K : PySem.W.Frag} {mg : Str → Option Value} {base : Heap}
def sp__law_whole_game : Sp := fun vs H Q _ => ∃ (a : Addr), vs = [.ref a] ∧ SrcAt a H ∧ ∀ g u l v (cs : List Nat) (L : Bool → List Nat) (bs : List Blk) H', Dr a H H' → H' g = some (.tup [u, l, v]) → TupN H' u cs → LsR H' l L → SeqR H' v bs → cs.length ≤ 8 → WL cs.length L → bs.length ≤ 7 → (∀ b ∈ bs, WB b) → lenB bs = cs.sum → cs.sum < 2 ^ 200 → Q (.ref g) H'
theorem ok__law_whole_game (T : Blt K mg) (dF : Df K mg "_law_whole_game" st__law_whole_game ["_law_source_here"]) (c__law_pick : C8.Cal P w K mg base 2 "_law_pick" sp__law_pick []) (c__law_supply : C8.Cal P w K mg base 3 "_law_supply" sp__law_supply []) (c__law_blocks : C8.Cal P w K mg base 3 "_law_blocks" sp__law_blocks []) (c__law_lists : C8.Cal P w K mg base 4 "_law_lists" sp__law_lists []) : C8.Cal P w K mg base 5 "_law_whole_game" sp__law_whole_game [] := by
  have nd := sc__law_whole_game.nd
  refine cal_of dF sc__law_whole_game (fun vs H Q E h => ?_) (fun cdv A outer s H vs Q E hr h => ?_)
  · obtain ⟨a, rfl, _⟩ := h
    rfl
  · obtain ⟨a, rfl, hs, q⟩ := h
    refine ⟨_, pss_cons (ps_set (i := 1) nd rfl (Or.inl rfl) (C8.pe_c c__law_pick hr (by decide) (by rfl) (pa_cons (pv 0) (pa_cons (pe_lst (pa_cons (pe_int) (pa_cons (pe_int) (pa_cons (pe_int) (pa_cons (pe_op op_pow (pe_int) (pe_int)) pa_nil))))) pa_nil))))
      (pss_cons (ps_set (i := 2) nd rfl (Or.inl rfl) (C8.pe_c c__law_supply hr (by decide) (by rfl) (pa_cons (pv 0) (pa_cons (pe_int) (pa_cons (pv 1) pa_nil)))))
      (pss_cons (ps_set (i := 3) nd rfl (Or.inl rfl) (C8.pe_c c__law_blocks hr (by decide) (by rfl) (pa_cons (pv 0) (pa_cons (pe_callB (cr_sumT rfl) (by rfl) T.sum_ bb_sum (pa_cons (pv 2) pa_nil)) (pa_cons (C8.pe_c c__law_pick hr (by decide) (by rfl) (pa_cons (pv 0) (pa_cons (pe_lst (pa_cons (pe_int) (pa_cons (pe_int) (pa_cons (pe_op op_pow (pe_int) (pe_int)) pa_nil)))) pa_nil))) pa_nil)))))
      (pss_cons (ps_set (i := 4) nd rfl (Or.inl rfl) (pe_op op_sub (pe_callB (cr_sumT rfl) (by rfl) T.sum_ bb_sum (pa_cons (pv 2) pa_nil)) (pe_callB (cr_sum rfl) (by rfl) T.sum_ bb_sum (pa_cons (pe_lc (own := [("_law_letters", 5), ("_law_times_here", 6)]) (g := gTup K 2 (gCons (gName 5) (gCons (gName 6) gNil))) (tt := tYes) rfl nd (pi_list (pv 3)) (blkOk_by (N := N__law_whole_game) (sc := C8.fnScope st__law_whole_game) (by decide +kernel))
        (fun _ _ _ _ _ => pg_tup rfl (pgs_cons (pg_name (i := 5) nd rfl (Or.inl rfl)) (pgs_cons (pg_name (i := 6) nd rfl (Or.inl rfl)) pgs_nil))) (fun _ _ _ _ _ => pts_nil)
        (fun _ _ _ _ _ => pe_op op_mul (pe_callB call_len_str (by rfl) T.len_ bb_len (pa_cons (pv 5) pa_nil)) (pv 6))) pa_nil))))
      (pss_cons (ps_if (pt_cmpR op_gt (pv 4) (pe_int) (nomark _))
        (pss_cons (ps_set (i := 5) nd rfl (Or.inl rfl) (C8.pe_c c__law_pick hr (by decide) (by rfl) (pa_cons (pv 0) (pa_cons (pe_lst (pa_cons (pe_str) (pa_cons (pe_str) (pa_cons (pe_str) (pa_cons (pe_str) (pa_cons (pe_str) pa_nil)))))) pa_nil))))
        (pss_cons (ps_set (i := 3) nd rfl (Or.inl rfl) (pe_op op_cat (pv 3) (pe_op op_rep (pe_lst (pa_cons (pe_tup (pa_cons (pv 5) (pa_cons (pe_op op_fdiv (pv 4) (pe_callB call_len_str (by rfl) T.len_ bb_len (pa_cons (pv 5) pa_nil))) pa_nil))) pa_nil)) (pe_callTy call_int1 (by rfl) T.int_ bt_int (pa_cons (pe_cmpR op_ge (pv 4) (pe_callB call_len_str (by rfl) T.len_ bb_len (pa_cons (pv 5) pa_nil)) (nomark _)) pa_nil)))))
        (pss_one (ps_set (i := 3) nd rfl (Or.inl rfl) (pe_op op_cat (pv 3) (pe_op op_rep (pe_lst (pa_cons (pe_tup (pa_cons (pe_slice sl_str (pv 5) po_none (po_some (pe_op op_mod (pv 4) (pe_callB call_len_str (by rfl) T.len_ bb_len (pa_cons (pv 5) pa_nil))))) (pa_cons (pe_int) pa_nil))) pa_nil)) (pe_callTy call_int1 (by rfl) T.int_ bt_int (pa_cons (pe_cmpR op_gt (pe_op op_mod (pv 4) (pe_callB call_len_str (by rfl) T.len_ bb_len (pa_cons (pv 5) pa_nil))) (pe_int) (nomark _)) pa_nil))))))))
        (pss_nil))
      (pss_one (ps_ret (pe_tup (pa_cons (pv 2) (pa_cons (C8.pe_c c__law_lists hr (by decide) (by rfl) (pa_cons (pv 0) (pa_cons (pe_callB (call_len_seqK (K := K) rfl) (by rfl) T.len_ bb_len (pa_cons (pv 2) pa_nil)) pa_nil))) (pa_cons (pv 3) pa_nil)))))))))), ?_⟩
    refine ⟨.ref a, rfl, 10, 30, rfl, rfl, ⟨by decide, by decide, by decide⟩, (show 4 ≤ sizeLine from line (by decide)), fun p1 n1 => ?_⟩
    have s1 := same_new (o := .lst [.int 4, .int 9, .int 40, .int (10 ^ (30 : Int).toNat)]) n1
    refine ⟨a, p1, [.int 4, .int 9, .int 40, .int (10 ^ (30 : Int).toNat)], rfl, hs.same s1, hs.ne n1, upd_same, by simp, by simp, fun i v H1 hv d1 => ?_⟩
    obtain ⟨w, rfl, w0, w1⟩ : ∃ w : Nat, v = vN w ∧ 0 < w ∧ w ≤ 10 ^ 30 := by
      match i, hv with
      | 0, h => exact ⟨4, (Option.some.inj h).symm, by decide, by decide⟩
      | 1, h => exact ⟨9, (Option.some.inj h).symm, by decide, by decide⟩
      | 2, h => exact ⟨40, (Option.some.inj h).symm, by decide, by decide⟩
      | 3, h => exact ⟨10 ^ 30, (Option.some.inj h).symm, by decide, by decide⟩
      | n + 4, h => simp at h
    have d01 := (Dr.of hs s1).trans d1
    refine ⟨.ref a, rfl, vN w, rfl, a, 8, w, rfl, d1.2, by decide, w0, Nat.lt_of_le_of_lt w1 (by decide), fun u cs H2 d2 hu hcl hcw => ?_⟩
    have d02 := d01.trans d2
    have hsum : cs.sum ≤ 8 * 10 ^ 30 := Nat.le_trans (sum_bound cs hcw) (Nat.mul_le_mul hcl w1)
    obtain ⟨au, rfl, hau⟩ := hu
    have sumT : ∀ Hx : Hp, Hx au = some (.tup (cs.map vN)) → SqT K Hx au ((cs.map zi).map V.int) := fun Hx e => by
      rw [ints_map]
      exact SqT.of e
    refine ⟨.ref a, rfl, .ref au, rfl, au, cs.map zi, rfl, sumT _ hau, .ref a, rfl, 10, 28, rfl, rfl, ⟨by decide, by decide, by decide⟩, (show 3 ≤ sizeLine from line (by decide)), fun p2 n2 => ?_⟩
    have s3 := same_new (o := .lst [.int 2, .int 9, .int (10 ^ (28 : Int).toNat)]) n2
    refine ⟨a, p2, [.int 2, .int 9, .int (10 ^ (28 : Int).toNat)], rfl, d2.2.same s3, d2.2.ne n2, upd_same, by simp, by simp, fun i v H3 hv d3 => ?_⟩
    obtain ⟨w2, rfl, w20, w21⟩ : ∃ w : Nat, v = vN w ∧ 0 < w ∧ w ≤ 10 ^ 28 := by
      match i, hv with
      | 0, h => exact ⟨2, (Option.some.inj h).symm, by decide, by decide⟩
      | 1, h => exact ⟨9, (Option.some.inj h).symm, by decide, by decide⟩
      | 2, h => exact ⟨10 ^ 28, (Option.some.inj h).symm, by decide, by decide⟩
      | n + 3, h => simp at h
    have d23 := (Dr.of d2.2 s3).trans d3
    refine ⟨a, cs.sum, w2, by rw [sum_int]; rfl, d3.2, w20, Nat.lt_of_le_of_lt w21 (by decide), fun v bs H4 d4 hb hb5 hwb hbm => ?_⟩
    have d24 := d23.trans d4
    have d04 := d02.trans d24
    have hau4 := (d24.tp d2.2).at hau
    obtain ⟨pb, xs, rfl, hpb, hx⟩ := hb
    refine ⟨.ref au, rfl, au, cs.map zi, rfl, sumT _ hau4, .ref pb, rfl, pb, rfl, ⟨_, SqL.of hpb⟩, fun D hD => ?_⟩
    refine lc_same (walk_list (K := K) (a := pb) (xs := xs)) (fun i v _ => ∃ b, bs[i]? = some b ∧ v = vN (b.1.length * b.2)) (by rw [hx.1]; omega) hD (fun _ _ _ _ _ e => e) (fun H' s => SqL.of (s _ _ hpb)) (fun i x H1 H' kk hi s y hkk => ?_) (fun H5 acc s5 eD el eE => ?_)
    · obtain ⟨rfl, hxi⟩ := y
      obtain ⟨b, eb, rb⟩ := hx.getV hxi
      obtain ⟨c, rfl, hc⟩ := rb.mono s
      obtain ⟨h1, h2, h3⟩ := hwb b (List.mem_of_getElem? eb)
      refine ⟨c, _, rfl, SqT.of hc, rfl, _, _, rfl, _, _, rfl, rfl, rfl, ?_⟩
      refine ⟨_, rfl, txt b.1, rfl, line (by rw [txt_len]; omega), _, rfl, _, (b.2 : Int), rfl, rfl, .inl ⟨by omega, by rw [txt_len]; omega⟩, hkk _ _ (Same.refl _) ⟨b, eb, ?_⟩⟩
      unfold vN
      rw [txt_len, Int.natCast_mul]
    · have e : acc = (bs.map fun b => b.1.length * b.2).map vN := by
        refine List.ext_getElem? fun i => ?_
        by_cases hi : i < acc.length
        · obtain ⟨b, eb, ev⟩ := eE i _ (List.getElem?_eq_getElem hi)
          rw [List.getElem?_eq_getElem hi, ev, List.getElem?_map, List.getElem?_map, eb]
          rfl
        · rw [List.getElem?_eq_none (by omega), List.getElem?_eq_none (by simp [← hx.1]; omega)]
      have eR : V.int (((cs.map zi).sum : Int) - (((bs.map fun b => b.1.length * b.2).map zi).sum : Int)) = vN (cs.sum - lenB bs) := by
        rw [sum_int, sum_int]
        unfold vN lenB
        congr 1
        unfold lenB at hbm
        omega
      refine ⟨D, (bs.map fun b => b.1.length * b.2).map zi, rfl, ?_, _, _, rfl, rfl, ?_⟩
      · rw [ints_map, ← e]
        exact SqL.of eD
      dsimp only
      rw [eR]
      have d05 := d04.same s5
      have hau5 := s5 _ _ hau4
      have hpb5 := s5 _ _ hpb
      have hx5 : All2 (BlkR H5) xs bs := hx.mono fun _ _ z => z.mono s5
      -- the end of the text
      have fin : ∀ (H6 : Hp) (v : V) (bs' : List Blk), Dr a H5 H6 → SeqR H6 v bs' → bs'.length ≤ 7 → (∀ b ∈ bs', WB b) → lenB bs' = cs.sum → ∀ l (L : Bool → List Nat) H7, Dr a H6 H7 → LsR H7 l L → WL cs.length L → ∀ g, H7 g = none → Q (.ref g) (upd H7 g (.tup [.ref au, l, v])) := by
        intro H6 v bs' d6 h6 h6l h6w h6s l L H7 d7 h7 h7w g hg
        have d57 := d6.trans d7
        have s8 := same_new (o := .tup [.ref au, l, v]) hg
        refine q g _ l v cs L bs' _ ((d05.trans d57).same s8) upd_same ⟨au, rfl, s8 _ _ ((d57.tp d05.2).at hau5)⟩ (h7.mono s8) ((h6.dr d6.2 d7).mono s8) hcl h7w h6l h6w h6s (Nat.lt_of_le_of_lt hsum (by decide))
      by_cases hR : 0 < cs.sum - lenB bs
      · generalize hRd : cs.sum - lenB bs = R at *
        refine ⟨vN R, rfl, (R : Int), 0, rfl, rfl, true, yes (by omega), ?_⟩
        refine ⟨.ref a, rfl, (show 5 ≤ sizeLine from line (by decide)), fun p3 n3 => ?_⟩
        have s6 := same_new (o := .lst [V.str (Str.ofString "A"), V.str (Str.ofString "B"), V.str (Str.ofString "AB"), V.str (Str.ofString "ABB"), V.str (Str.ofString "BAAB")]) n3
        refine ⟨a, p3, _, rfl, d05.2.same s6, d05.2.ne n3, upd_same, by simp, by simp, fun i v H6 hv d6 => ?_⟩
        obtain ⟨t, rfl, t1, t4⟩ := pick_five hv
        have hline : (txt t).length ≤ sizeLine := line (by rw [txt_len]; omega)
        have d56 := (Dr.of d05.2 s6).trans d6
        obtain ⟨pb', xs', epb, hpb6, hx6⟩ := SeqR.dr ⟨pb, xs, rfl, hpb5, hx5⟩ d05.2 d56
        cases epb
        have ext : (txt t).length = t.length := txt_len t
        have exl : xs'.length = bs.length := hx6.1
        refine ⟨.ref pb, rfl, .str (txt t), rfl, vN R, rfl, .str (txt t), rfl, txt t, rfl, hline, (R : Int), ((txt t).length : Int), rfl, rfl, ⟨by omega, by omega⟩, (show 2 ≤ sizeLine from line (by decide)), fun q1 m1 => ⟨(show 1 ≤ sizeLine from line (by decide)), fun q2 m2 => ?_⟩⟩
        refine ⟨vN R, rfl, .str (txt t), rfl, txt t, rfl, hline, (R : Int), ((txt t).length : Int), rfl, rfl, .inr ⟨decide (((txt t).length : Int) ≤ (R : Int)), rfl, q2, (if decide (((txt t).length : Int) ≤ (R : Int)) = true then 1 else 0), [.ref q1], rfl, rfl, upd_same, (rep_small _).1, (rep_small _).2.1, (rep_small _).2.2 _, fun q3 m3 => ?_⟩⟩
        have e1 : V.int ((R : Int) / ((txt t).length : Int)) = vN (R / t.length) := by
          unfold vN
          rw [ext, Int.natCast_ediv]
        rw [rep_bl]
        have r1 := same_new (o := .tup [.str (txt t), V.int ((R : Int) / ((txt t).length : Int))]) m1
        have r2 := same_new (o := .lst [.ref q1]) m2
        have r3 := same_new (o := .lst (if decide (((txt t).length : Int) ≤ (R : Int)) = true then [.ref q1] else [])) m3
        have hq1 := (r2.trans r3) _ _ (upd_same (H := H6) (a := q1) (o := .tup [.str (txt t), V.int ((R : Int) / ((txt t).length : Int))]))
        have r13 := (r1.trans r2).trans r3
        refine ⟨pb, q3, _, _, rfl, rfl, r13 _ _ hpb6, upd_same, ?_, fun q4 m4 => ?_⟩
        · rw [exl]
          split <;> exact line (by simp; omega)
        have r4 := same_new (o := .lst (xs' ++ if decide (((txt t).length : Int) ≤ (R : Int)) = true then [.ref q1] else [])) m4
        have hx10 := all2_bl (hx6.mono fun _ _ z => (z.mono r13).mono r4) (b := (t, R / t.length)) ⟨q1, rfl, (by rw [e1] at hq1; exact r4 _ _ hq1)⟩ (decide (((txt t).length : Int) ≤ (R : Int)))
        have r14 := r13.trans r4
        have e10 : upd (upd (upd (upd H6 q1 (.tup [.str (txt t), V.int ((R : Int) / ((txt t).length : Int))])) q2 (.lst [.ref q1])) q3 (.lst (if decide (((txt t).length : Int) ≤ (R : Int)) = true then [.ref q1] else []))) q4 (.lst (xs' ++ if decide (((txt t).length : Int) ≤ (R : Int)) = true then [.ref q1] else [])) q4 = some (.lst (xs' ++ if decide (((txt t).length : Int) ≤ (R : Int)) = true then [.ref q1] else [])) := upd_same
        generalize upd (upd (upd (upd H6 q1 (.tup [.str (txt t), V.int ((R : Int) / ((txt t).length : Int))])) q2 (.lst [.ref q1])) q3 (.lst (if decide (((txt t).length : Int) ≤ (R : Int)) = true then [.ref q1] else []))) q4 (.lst (xs' ++ if decide (((txt t).length : Int) ≤ (R : Int)) = true then [.ref q1] else [])) = H10 at *
        have ehi : cutS (txt t) none (some ((R : Int) % ((txt t).length : Int))) = txt (t.take (R % t.length)) := by
          have : ((R : Int) % ((txt t).length : Int)) = ((R % t.length : Nat) : Int) := by rw [ext, Int.natCast_emod]
          rw [this, cutS_hi]
        refine ⟨.ref q4, rfl, .str (txt t), rfl, vN R, rfl, .str (txt t), rfl, txt t, rfl, hline, (R : Int), ((txt t).length : Int), rfl, rfl, (show (0 : Int) < ((txt t).length : Int) by omega), _, rfl, txt t, rfl, hline, (show 2 ≤ sizeLine from line (by decide)), fun q5 m5 => ⟨(show 1 ≤ sizeLine from line (by decide)), fun q6 m6 => ?_⟩⟩
        refine ⟨vN R, rfl, .str (txt t), rfl, txt t, rfl, hline, (R : Int), ((txt t).length : Int), rfl, rfl, (show (0 : Int) < ((txt t).length : Int) by omega), ((R : Int) % ((txt t).length : Int)), 0, rfl, rfl, .inr ⟨decide (0 < (R : Int) % ((txt t).length : Int)), rfl, q6, (if decide (0 < (R : Int) % ((txt t).length : Int)) = true then 1 else 0), [.ref q5], rfl, rfl, upd_same, (rep_small _).1, (rep_small _).2.1, (rep_small _).2.2 _, fun q7 m7 => ?_⟩⟩
        rw [rep_bl]
        have r5 := same_new (o := .tup [V.str (cutS (txt t) none (some ((R : Int) % ((txt t).length : Int)))), .int 1]) m5
        have r6 := same_new (o := .lst [.ref q5]) m6
        have r7 := same_new (o := .lst (if decide (0 < (R : Int) % ((txt t).length : Int)) = true then [.ref q5] else [])) m7
        have hq5 := (r6.trans r7) _ _ (upd_same (H := H10) (a := q5) (o := .tup [V.str (cutS (txt t) none (some ((R : Int) % ((txt t).length : Int)))), .int 1]))
        have r57 := (r5.trans r6).trans r7
        refine ⟨q4, q7, _, _, rfl, rfl, r57 _ _ e10, upd_same, ?_, fun q8 m8 => ?_⟩
        · rw [List.length_append, exl]
          split <;> split <;> exact line (by simp; omega)
        have r8 := same_new (o := .lst ((xs' ++ if decide (((txt t).length : Int) ≤ (R : Int)) = true then [.ref q1] else []) ++ if decide (0 < (R : Int) % ((txt t).length : Int)) = true then [.ref q5] else [])) m8
        have hx14 := all2_bl (hx10.mono fun _ _ z => (z.mono r57).mono r8) (b := (t.take (R % t.length), 1)) ⟨q5, rfl, (r8 _ _ hq5).trans (by rw [ehi]; rfl)⟩ (decide (0 < (R : Int) % ((txt t).length : Int)))
        have r14' := (r14.trans r57).trans r8
        have d14 := d56.same r14'
        have hau14 := (d14.tp d05.2).at hau5
        refine ⟨.ref au, rfl, .ref a, rfl, .ref au, rfl, au, _, rfl, .inr (SqT.of hau14), a, cs.length, by rw [List.length_map]; rfl, d14.2, by omega, fun l L H7 d7 hl hL => ?_⟩
        refine ⟨.ref q8, rfl, (show 3 ≤ sizeLine from line (by decide)), fun g hg => ?_⟩
        have hcd1 : (decide (((txt t).length : Int) ≤ (R : Int)) = true) ↔ t.length ≤ R := by rw [decide_eq_true_iff, ext]; omega
        have hcd2 : (decide (0 < (R : Int) % ((txt t).length : Int)) = true) ↔ 0 < R % t.length := by
          have : ((R : Int) % ((txt t).length : Int)) = ((R % t.length : Nat) : Int) := by rw [ext, Int.natCast_emod]
          rw [decide_eq_true_iff, this]
          omega
        have hmodlt := Nat.mod_lt R (show 0 < t.length by omega)
        have hdm := Nat.div_add_mod R t.length
        refine fin _ (.ref q8) _ d14 ⟨q8, _, rfl, upd_same, hx14⟩ ?_ (fun b hb => ?_) ?_ l L H7 d7 hl hL g hg
        · rw [List.length_append, List.length_append]
          split <;> split <;> simp <;> omega
        · rcases List.mem_append.mp hb with hb | hb
          · rcases List.mem_append.mp hb with hb | hb
            · exact hwb b hb
            · split at hb
              · rename_i c1
                rw [List.mem_singleton.mp hb]
                exact ⟨t1, by show t.length ≤ 20; omega, Nat.div_pos (hcd1.mp c1) (by omega)⟩
              · cases hb
          · split at hb
            · rename_i c2
              have := hcd2.mp c2
              rw [List.mem_singleton.mp hb]
              have htk : (t.take (R % t.length)).length = R % t.length := by
                rw [List.length_take]
                exact Nat.min_eq_left (Nat.le_of_lt hmodlt)
              exact ⟨by show 1 ≤ (t.take (R % t.length)).length; rw [htk]; exact this, by show (t.take (R % t.length)).length ≤ 20; rw [htk]; omega, Nat.le_refl _⟩
            · cases hb
        · rw [lenB_append, lenB_append]
          have l1 : lenB (if decide (((txt t).length : Int) ≤ (R : Int)) = true then [(t, R / t.length)] else []) = t.length * (R / t.length) := by
            split
            · simp [lenB]
            · rename_i c1
              have : R / t.length = 0 := Nat.div_eq_of_lt (by have : ¬ t.length ≤ R := fun z => c1 (hcd1.mpr z); omega)
              rw [this]
              rfl
          have l2 : lenB (if decide (0 < (R : Int) % ((txt t).length : Int)) = true then [(t.take (R % t.length), 1)] else []) = R % t.length := by
            split
            · have htk : (t.take (R % t.length)).length = R % t.length := by
                rw [List.length_take]
                exact Nat.min_eq_left (Nat.le_of_lt hmodlt)
              unfold lenB
              rw [List.map_cons, List.map_nil, List.sum_cons, htk]
              simp
            · rename_i c2
              have : ¬ 0 < R % t.length := fun z => c2 (hcd2.mpr z)
              show 0 = _
              omega
          rw [l1, l2]
          omega
      · refine ⟨vN (cs.sum - lenB bs), rfl, ((cs.sum - lenB bs : Nat) : Int), 0, rfl, rfl, false, no (by omega), ?_⟩
        refine ⟨.ref au, rfl, .ref a, rfl, .ref au, rfl, au, _, rfl, .inr (SqT.of hau5), a, cs.length, by rw [List.length_map]; rfl, d05.2, by omega, fun l L H7 d7 hl hL => ?_⟩
        refine ⟨.ref pb, rfl, (show 3 ≤ sizeLine from line (by decide)), fun g hg => ?_⟩
        exact fin H5 (.ref pb) bs (Dr.refl d05.2) ⟨pb, xs, rfl, hpb5, hx5⟩ (by omega) hwb (by omega) l L H7 d7 hl hL g hg
end
end TG
namespace TG
open PySem PySem.Spec PyProof.Rows L2 TGZ
abbrev st__law_turned_right : Stmt := topS 66
abbrev N__law_turned_right : List Str := ["_law_supply_here", "_law_lists_here", "_law_blocks_here", "_law_due", "_law_told", "_law_again", "_law_rows", "_law_some", "_law_letters", "_law_kinds_here", "_law_times_here"]
theorem sc__law_turned_right : FnScope N__law_turned_right ["_law_supply_here", "_law_lists_here", "_law_blocks_here"] (C8.fnScope st__law_turned_right) := C8.fnScope_by (by decide +kernel)
abbrev st__law_course_leads : Stmt := topS 71
abbrev N__law_course_leads : List Str := ["_law_supply_here", "_law_lists_here", "_law_blocks_here", "_law_due", "_law_rows", "_law_told"]
theorem sc__law_course_leads : FnScope N__law_course_leads ["_law_supply_here", "_law_lists_here", "_law_blocks_here", "_law_due"] (C8.fnScope st__law_course_leads) := C8.fnScope_by (by decide +kernel)
/-! ### what is compared -/
def d2 (L : Bool → List Nat) : PyData := .tuple ([L true, L false].map dT)
def d3 (x y z : List Nat) : PyData := .tuple ([x, y, z].map dT)
theorem sh2 (L : Bool → List Nat) : SeqAt.shaped (d2 L) = true := shTT _
theorem sh3 (x y z : List Nat) : SeqAt.shaped (d3 x y z) = true := shTT _
theorem rep_zeros : ∀ n : Nat, (List.replicate n [V.int 0]).flatten = (List.replicate n 0).map vN
  | 0 => rfl
  | n + 1 => by
    rw [List.replicate_succ, List.flatten_cons, rep_zeros n, List.replicate_succ, List.map_cons]
    rfl
section
variable {K : PySem.W.Frag} {H : Hp} {v : V} {Q : VK}
theorem LsR.dp {L : Bool → List Nat} (h : LsR H v L) : Dp K H v (d2 L) := by
  obtain ⟨a, x, y, rfl, e, h1, h2⟩ := h
  exact .tup (SqT.of e) (.cons h1.dp (.cons h2.dp .nil))
theorem dp3 {a : Addr} {x y z : V} {l m n : List Nat} (e : H a = some (.tup [x, y, z])) (h1 : TupN H x l) (h2 : TupN H y m) (h3 : TupN H z n) : Dp K H (.ref a) (d3 l m n) := .tup (SqT.of e) (.cons h1.dp (.cons h2.dp (.cons h3.dp .nil)))
theorem repN0 {l : Addr} {n : Nat} (hl : H l = some (.tup [.int 0])) (hn : n ≤ 1000) (q : ∀ c H', Same H H' → TupN H' (.ref c) (List.replicate n 0) → Q (.ref c) H') : rRepN K (.ref l) (.int (n : Int)) H Q := by
  refine ⟨l, (n : Int), [.int 0], rfl, rfl, SqT.of hl, by simp, by omega, by omega, by simp, fun e => ?_, fun _ p hp => ?_⟩
  · have : n = 1 := by omega
    subst this
    exact q l H (Same.refl _) ⟨l, rfl, hl⟩
  · refine q p _ (same_new hp) ⟨p, rfl, ?_⟩
    rw [upd_same, Int.toNat_natCast, rep_zeros]
/-- the bundles of a whole course and the zeros behind them -/
theorem cat_zero {a b : Addr} {x y z : V} (ha : H a = some (.tup [x, y])) (hb : H b = some (.tup [z])) (q : ∀ c H', Same H H' → H' c = some (.tup [x, y, z]) → Q (.ref c) H') : rCatA K (.ref a) (.ref b) H Q :=
  catA ha hb (by simp) fun c H' s e => q c H' s e
end
theorem bun_rev (K : Nat) (p : Bool) (ps : List Pk) : bun K p ps.reverse = bun K p ps := by
  unfold bun
  refine List.map_congr_left fun k _ => ?_
  rw [List.count_reverse]
theorem subl_zero {cs : List Nat} {b : Nat → Nat} (h : ∀ k, fn cs k ≤ b k) : subl cs b = List.replicate cs.length 0 := by
  refine list_ext (by rw [subl_len, List.length_replicate]) fun k => ?_
  have h0 : fn (List.replicate cs.length 0) k = 0 := by
    by_cases hk : k < cs.length
    · rw [fn_lt (by rw [List.length_replicate]; exact hk)]
      simp
    · rw [fn_ge (by rw [List.length_replicate]; omega)]
  rw [fn_subl, h0]
  have := h k
  omega
section
variable {P : Program} {w : World} {K : PySem.W.Frag} {mg : Str → Option Value} {base : Heap}
def sp__law_turned_right : Sp := fun vs H Q _ => ∃ (u l v : V) (cs : List Nat) (L : Bool → List Nat) (bs : List Blk), vs = [u, l, v] ∧ TupN H u cs ∧ LsR H l L ∧ SeqR H v bs ∧ cs.length ≤ 60 ∧ WL cs.length L ∧ WS bs ∧ lenB bs = cs.sum ∧ ∀ H', Same H H' → Q (.bl true) H'
theorem ok__law_turned_right (T : Blt K mg) (dF : Df K mg "_law_turned_right" st__law_turned_right ["_law_supply_here", "_law_lists_here", "_law_blocks_here"]) (c_end_of : C8.Cal P w K mg base 7 "end_of" sp_end_of []) (c_turned : C8.Cal P w K mg base 7 "turned" sp_turned []) (c_end_course : C8.Cal P w K mg base 7 "end_course" sp_end_course []) (c_first_difference : C8.Cal P w K mg base 5 "first_difference" sp_first_difference []) (c_plain_game : C8.Cal P w K mg base 6 "plain_game" sp_plain_game []) (c_play_course : C8.Cal P w K mg base 5 "play_course" sp_play_course []) (c_reversed_sequence : C8.Cal P w K mg base 5 "reversed_sequence" sp_reversed_sequence []) : C8.Cal P w K mg base 8 "_law_turned_right" sp__law_turned_right [] := by
  have nd := sc__law_turned_right.nd
  refine cal_of dF sc__law_turned_right (fun vs H Q E h => ?_) (fun cdv A outer s H vs Q E hr h => ?_)
  · obtain ⟨u, l, v, cs, L, bs, rfl, _⟩ := h
    rfl
  · obtain ⟨u, l, v, cs, L, bs, rfl, hu, hl, hv, h60, hL, hw, hsum, q⟩ := h
    refine ⟨_, pss_cons (ps_set (i := 3) nd rfl (Or.inl rfl) (C8.pe_c c_end_of hr (by decide) (by rfl) (pa_cons (pv 0) (pa_cons (pv 1) (pa_cons (pv 2) pa_nil)))))
      (pss_cons (ps_set (i := 4) nd rfl (Or.inl rfl) (C8.pe_c c_turned hr (by decide) (by rfl) (pa_cons (pv 0) (pa_cons (pv 1) (pa_cons (pv 2) pa_nil)))))
      (pss_cons (ps_if (pt_cmpR (op_neD hr.units) (pe_ix ix_tup (pv 4) (pe_int) (fun _ _ => rfl)) (pe_tup (pa_cons (pe_revT (pe_ix ix_tup (pv 1) (pe_int) (fun _ _ => rfl))) (pa_cons (pe_revT (pe_ix ix_tup (pv 1) (pe_int) (fun _ _ => rfl))) pa_nil))) (nomark _))
        (pss_one (ps_ret (pe_bl)))
        (pss_nil))
      (pss_cons (ps_if (pt_cmpR op_notN (C8.pe_c c_first_difference hr (by decide) (by rfl) (pa_cons (pe_ix ix_tup (pv 4) (pe_int) (fun _ _ => rfl)) (pa_cons (C8.pe_c c_reversed_sequence hr (by decide) (by rfl) (pa_cons (pv 2) pa_nil)) pa_nil))) (pe_non) (nomark _))
        (pss_one (ps_ret (pe_bl)))
        (pss_nil))
      (pss_cons (ps_if (pt_cmpR (op_neD hr.units) (C8.pe_c c_plain_game hr (by decide) (by rfl) (pa_cons (pv 0) (pa_cons (pe_ix ix_tup (pv 4) (pe_int) (fun _ _ => rfl)) (pa_cons (pe_ix ix_tup (pv 4) (pe_int) (fun _ _ => rfl)) pa_nil)))) (pe_op op_catA (pv 3) (pe_tup (pa_cons (pe_op op_repN (pe_tup (pa_cons (pe_int) pa_nil)) (pe_callB (call_len_seqK (K := K) rfl) (by rfl) T.len_ bb_len (pa_cons (pv 0) pa_nil))) pa_nil))) (nomark _))
        (pss_one (ps_ret (pe_bl)))
        (pss_nil))
      (pss_cons (ps_set (i := 5) nd rfl (Or.inl rfl) (C8.pe_c c_turned hr (by decide) (by rfl) (pa_cons (pv 0) (pa_cons (pe_ix ix_tup (pv 4) (pe_int) (fun _ _ => rfl)) (pa_cons (pe_ix ix_tup (pv 4) (pe_int) (fun _ _ => rfl)) pa_nil)))))
      (pss_cons (ps_if ((pw_or (pt_cmpR (op_neD hr.units) (pe_ix ix_tup (pv 5) (pe_int) (fun _ _ => rfl)) (pv 1) (nomark _)) (pw_or1 (pt_cmpR op_notN (C8.pe_c c_first_difference hr (by decide) (by rfl) (pa_cons (pe_ix ix_tup (pv 5) (pe_int) (fun _ _ => rfl)) (pa_cons (pv 2) pa_nil))) (pe_non) (nomark _)))).pt)
        (pss_one (ps_ret (pe_bl)))
        (pss_nil))
      (pss_cons (ps_set (i := 6) nd rfl (Or.inl rfl) (C8.pe_c c_end_course hr (by decide) (by rfl) (pa_cons (pv 0) (pa_cons (pv 1) (pa_cons (pv 2) pa_nil)))))
      (pss_cons (ps_setLc (i := 7) (own := [("_law_letters", 8), ("_law_kinds_here", 9), ("_law_times_here", 10)]) (g := gTup K 3 (gCons (gName 8) (gCons (gName 9) (gCons (gName 10) gNil)))) (tt := tYes) rfl nd rfl rfl (sw_true rfl rfl rfl (by decide +kernel)) (pi_list (pv 6)) (blkOk_by (N := N__law_turned_right) (sc := C8.fnScope st__law_turned_right) (by decide +kernel))
        (fun _ _ _ _ _ => pg_tup rfl (pgs_cons (pg_name (i := 8) nd rfl (Or.inl rfl)) (pgs_cons (pg_name (i := 9) nd rfl (Or.inl rfl)) (pgs_cons (pg_name (i := 10) nd rfl (Or.inl rfl)) pgs_nil)))) (fun _ _ _ _ _ => pts_nil)
        (fun _ _ _ _ _ => pe_tup (pa_cons (pv 8) (pa_cons (pv 10) pa_nil))))
      (pss_cons (ps_if ((pw_and (pt_cmpR op_le (pe_callB (call_len_seqK (K := K) rfl) (by rfl) T.len_ bb_len (pa_cons (pv 7) pa_nil)) (pe_int) (nomark _)) (pw_and1 (pt_cmpR op_notN (C8.pe_c c_first_difference hr (by decide) (by rfl) (pa_cons (pv 7) (pa_cons (pv 2) pa_nil))) (pe_non) (nomark _)))).pt)
        (pss_one (ps_ret (pe_bl)))
        (pss_nil))
      (pss_one (ps_ret (pe_cmpR (op_eqD hr.units) (C8.pe_c c_play_course hr (by decide) (by rfl) (pa_cons (pv 0) (pa_cons (pv 6) pa_nil))) (pe_op op_catA (pv 3) (pe_tup (pa_cons (pe_op op_repN (pe_tup (pa_cons (pe_int) pa_nil)) (pe_callB (call_len_seqK (K := K) rfl) (by rfl) T.len_ bb_len (pa_cons (pv 0) pa_nil))) pa_nil))) (nomark _))))))))))))), ?_⟩
    have hTs : (expB bs).length = cs.sum := by rw [expB_len, hsum]
    have hbag := fun k => E_bag (wl_has hL) (cs := cs) rfl hTs k
    refine ⟨u, rfl, l, rfl, v, rfl, u, l, v, cs, L, bs, rfl, hu, hl, hv, h60, hL, hw, hsum, fun due H1 s1 hdue => ?_⟩
    refine ⟨u, rfl, l, rfl, v, rfl, u, l, v, cs, L, bs, rfl, hu.mono s1, hl.mono s1, hv.mono s1, h60, hL, hw, hsum, fun told tls rev H2 s2 htold htl hrev => ?_⟩
    have s02 := s1.trans s2
    obtain ⟨al, xl, yl, el, hal, hxl, hyl⟩ := hl.mono s02
    subst el
    obtain ⟨ax, rfl, hax⟩ := hxl
    obtain ⟨ay, rfl, hay⟩ := hyl
    refine ⟨.ref told, rfl, told, _, 0, _, rfl, rfl, SqT.of htold, atI_nat (j := 0) rfl, ?_⟩
    refine ⟨.ref al, rfl, al, _, 1, _, rfl, rfl, SqT.of hal, atI_nat (j := 1) rfl, ay, _, rfl, SqT.of hay, fun p1 n1 => ?_⟩
    have t1 := same_new (o := .tup ((L false).map vN).reverse) n1
    refine ⟨.ref al, rfl, al, _, 0, _, rfl, rfl, SqT.of (t1 _ _ hal), atI_nat (j := 0) rfl, ax, _, rfl, SqT.of (t1 _ _ hax), fun p2 n2 => ?_⟩
    have t2 := same_new (o := .tup ((L true).map vN).reverse) n2
    refine ⟨(show 2 ≤ sizeLine from line (by decide)), fun p3 n3 => ?_⟩
    have t3 := same_new (o := .tup [.ref p1, .ref p2]) n3
    have t23 := t2.trans t3
    have t13 := t1.trans t23
    have hp1 := t23 _ _ (upd_same (H := H2) (a := p1) (o := .tup ((L false).map vN).reverse))
    have hp2 := t3 _ _ (upd_same (H := upd H2 p1 (.tup ((L false).map vN).reverse)) (a := p2) (o := .tup ((L true).map vN).reverse))
    have hnew : LsR (upd (upd (upd H2 p1 (.tup ((L false).map vN).reverse)) p2 (.tup ((L true).map vN).reverse)) p3 (.tup [.ref p1, .ref p2])) (.ref p3) (tl L) := ⟨p3, _, _, rfl, upd_same, ⟨p1, rfl, by rw [hp1, ← List.map_reverse]; rfl⟩, ⟨p2, rfl, by rw [hp2, ← List.map_reverse]; rfl⟩⟩
    have s03 := s02.trans t13
    have htold3 := t13 _ _ htold
    have htl3 := htl.mono t13
    have hrev3 := hrev.mono t13
    have hdue3 := (hdue.mono s2).mono t13
    generalize upd (upd (upd H2 p1 (.tup ((L false).map vN).reverse)) p2 (.tup ((L true).map vN).reverse)) p3 (.tup [.ref p1, .ref p2]) = H3 at *
    refine ⟨d2 (tl L), d2 (tl L), htl3.dp, hnew.dp, sh2 _, sh2 _, ?_⟩
    rw [eq_self (sh2 _)]
    refine ⟨false, rfl, ?_⟩
    have hu3 := hu.mono s03
    have hv3 := hv.mono s03
    refine ⟨.ref told, rfl, told, _, 1, _, rfl, rfl, SqT.of htold3, atI_nat (j := 1) rfl, v, rfl, v, bs, rfl, hv3, hw, fun rv2 H4 s4 hrv2 => ?_⟩
    refine ⟨rev, rv2, revB bs, revB bs, rfl, hrev3.mono s4, hrv2, hw.rev, hw.rev, rfl, fun H5 s5 => ?_⟩
    refine ⟨rfl, false, rfl, ?_⟩
    have s35 := s4.trans s5
    have s05 := s03.trans s35
    have htold5 := s35 _ _ htold3
    have htl5 := htl3.mono s35
    have hrev5 := hrev3.mono s35
    have hdue5 := hdue3.mono s35
    have hu5 := hu.mono s05
    have hlr : lenB (revB bs) = cs.sum := by rw [lenB_rev, hsum]
    refine ⟨u, rfl, .ref told, rfl, told, _, 0, _, rfl, rfl, SqT.of htold5, atI_nat (j := 0) rfl, .ref told, rfl, told, _, 1, _, rfl, rfl, SqT.of htold5, atI_nat (j := 1) rfl, ?_⟩
    refine ⟨u, tls, rev, cs, tl L, revB bs, rfl, hu5, htl5, hrev5, h60, wl_tl hL, hw.rev, Nat.le_of_eq hlr, fun pg x y z H6 s6 hpg hx hy hz => ?_⟩
    have eE : plain (fn cs) (tl L) (expB (revB bs)) = TG.E cs L (expB bs) := by rw [expB_rev]; rfl
    rw [eE] at hx hy hz
    rw [subl_zero (fun k => by rw [hbag]; exact Nat.le_refl _)] at hz
    have s06 := s05.trans s6
    have hdue6 := hdue5.mono s6
    obtain ⟨ad, xd, yd, rfl, had, hxd, hyd⟩ := hdue6
    obtain ⟨au, rfl, hau⟩ := hu.mono s06
    refine ⟨.ref ad, rfl, (show 1 ≤ sizeLine from line (by decide)), fun p4 n4 => ?_⟩
    have t4 := same_new (o := .tup [.int 0]) n4
    refine ⟨.ref au, rfl, au, _, rfl, .inr (SqT.of (t4 _ _ hau)), ?_⟩
    rw [List.length_map]
    refine repN0 upd_same (by omega) fun c1 H7 s7 hc1 => ?_
    refine ⟨(show 1 ≤ sizeLine from line (by decide)), fun p5 n5 => ?_⟩
    have t5 := same_new (o := .tup [.ref c1]) n5
    have t47 := (t4.trans s7).trans t5
    refine cat_zero (t47 _ _ had) upd_same fun c2 H8 s8 hc2 => ?_
    have t48 := t47.trans s8
    refine ⟨_, _, dp3 (t48 _ _ hpg) (hx.mono t48) (hy.mono t48) (hz.mono t48), dp3 hc2 (hxd.mono t48) (hyd.mono t48) ((hc1.mono t5).mono s8), sh3 _ _ _, sh3 _ _ _, ?_⟩
    have e1 : d3 (bun cs.length true (TG.E cs L (expB bs))) (bun cs.length false (TG.E cs L (expB bs))) (List.replicate cs.length 0) = d3 (endL cs L (expB bs) true) (endL cs L (expB bs) false) (List.replicate cs.length 0) := rfl
    rw [e1, eq_self (sh3 _ _ _)]
    refine ⟨false, rfl, ?_⟩
    have s08 := s06.trans t48
    have s58 := s6.trans t48
    have htold8 := s58 _ _ htold5
    refine ⟨.ref au, rfl, .ref told, rfl, told, _, 0, _, rfl, rfl, SqT.of htold8, atI_nat (j := 0) rfl, .ref told, rfl, told, _, 1, _, rfl, rfl, SqT.of htold8, atI_nat (j := 1) rfl, ?_⟩
    have hu8 : TupN H8 (.ref au) cs := ⟨au, rfl, t48 _ _ hau⟩
    refine ⟨.ref au, tls, rev, cs, tl L, revB bs, rfl, hu8, htl5.mono s58, hrev5.mono s58, h60, wl_tl hL, hw.rev, hlr, fun ag ll rr H9 s9 hag hll hrr => ?_⟩
    rw [tl_tl] at hll
    rw [revB_rev] at hrr
    have s09 := s08.trans s9
    refine ⟨.ref ag, rfl, ag, _, 0, _, rfl, rfl, SqT.of hag, atI_nat (j := 0) rfl, .ref al, rfl, d2 L, d2 L, hll.dp, (hl.mono s09).dp, sh2 _, sh2 _, ?_⟩
    rw [eq_self (sh2 _)]
    refine ⟨false, rfl, ?_⟩
    refine ⟨.ref ag, rfl, ag, _, 1, _, rfl, rfl, SqT.of hag, atI_nat (j := 1) rfl, v, rfl, rr, v, bs, bs, rfl, hrr, hv.mono s09, hw, hw, rfl, fun H10 s10 => ⟨rfl, false, rfl, ?_⟩⟩
    have s010 := s09.trans s10
    refine ⟨.ref au, rfl, .ref al, rfl, v, rfl, .ref au, .ref al, v, cs, L, bs, rfl, hu.mono s010, hl.mono s010, hv.mono s010, h60, hL, hw, hsum, fun crs rs H11 s11 hcrs hwc hexp => ?_⟩
    have s011 := s010.trans s11
    have hcrs' := hcrs
    obtain ⟨ac, xs, rfl, hac, hxs⟩ := hcrs
    refine ⟨.ref ac, rfl, ac, rfl, ⟨_, SqL.of hac⟩, fun D hD => ?_⟩
    refine lc_same (walk_list (K := K) (a := ac) (xs := xs)) (fun i v H => ∃ b, (rs.map fun r => (r.1, r.2.2))[i]? = some b ∧ BlkR H v b) (by rw [hxs.1]; have := hwc.1; omega) hD (fun _ _ _ _ t ⟨b, e, r⟩ => ⟨b, e, r.tp t⟩) (fun H' s => SqL.of (s _ _ hac)) (fun i x H1 H' kk hi s y hkk => ?_) (fun H12 acc s12 eD el eE => ?_)
    · obtain ⟨rfl, hxi⟩ := y
      obtain ⟨r, er, rr⟩ := hxs.getV hxi
      obtain ⟨c, kb, rfl, hc, hkb⟩ := rr.mono s
      refine ⟨c, _, rfl, SqT.of hc, rfl, _, _, rfl, _, _, rfl, _, _, rfl, rfl, rfl, ?_⟩
      refine ⟨_, rfl, _, rfl, (show 2 ≤ sizeLine from line (by decide)), fun p hp => ?_⟩
      refine hkk _ _ (same_new hp) ⟨(r.1, r.2.2), by rw [List.getElem?_map, er]; rfl, p, rfl, upd_same⟩
    · have hlen : acc.length = rs.length := by rw [el, hxs.1]
      have hsome : SeqR H12 (.ref D) (rs.map fun r => (r.1, r.2.2)) := ⟨D, acc, rfl, eD, all2_of (by rw [hlen, List.length_map]) eE⟩
      have s012 := s011.trans s12
      have s910 := s9.trans s10
      by_cases hl200 : rs.length ≤ 200
      · refine ⟨.ref D, rfl, D, _, rfl, .inl (SqL.of eD), (acc.length : Int), 200, rfl, rfl, true, yes (by omega), ?_⟩
        have hsw : WS (rs.map fun r => (r.1, r.2.2)) := by
          refine ⟨by rw [List.length_map]; exact hl200, fun b hb => ?_⟩
          obtain ⟨r, hr, rfl⟩ := List.mem_map.mp hb
          obtain ⟨g1, g2, g3, g4, g5⟩ := hwc.2 r hr
          exact ⟨g1, g2, g5⟩
        have hse : expB (rs.map fun r => (r.1, r.2.2)) = expB bs := by
          rw [← expR_fst rs (fun r hr => (hwc.2 r hr).2.2.1.symm), hexp, course_fst (wl_has hL) rfl hTs]
        refine ⟨.ref D, rfl, v, rfl, .ref D, v, _, bs, rfl, hsome, hv.mono s012, hsw, hw, hse, fun H13 s13 => ⟨rfl, false, rfl, ?_⟩⟩
        have sAll := s012.trans s13
        have sC := s12.trans s13
        refine ⟨.ref au, rfl, .ref ac, rfl, .ref au, .ref ac, cs, rs, rfl, hu.mono sAll, hcrs'.mono sC, h60, hwc, fun k => by rw [hexp, bag_reverse, hbag]; exact Nat.le_refl _, fun pg2 x2 y2 z2 H14 s14 hpg2 hx2 hy2 hz2 => ?_⟩
        rw [hexp, bun_rev] at hx2 hy2
        have hz2 : TupN H14 z2 (List.replicate cs.length 0) := by
          have e0 : subl cs (bag (expR rs)) = List.replicate cs.length 0 := subl_zero fun k => by rw [hexp, bag_reverse, hbag]; exact Nat.le_refl _
          rw [← e0]
          exact hz2
        have sA := sAll.trans s14
        have had14 := (((s910.trans s11).trans sC).trans s14) _ _ (t48 _ _ had)
        refine ⟨.ref ad, rfl, (show 1 ≤ sizeLine from line (by decide)), fun p6 n6 => ?_⟩
        have t6 := same_new (o := .tup [.int 0]) n6
        refine ⟨.ref au, rfl, au, _, rfl, .inr (SqT.of ((((((s910.trans s11).trans sC).trans s14).trans t6)) _ _ (t48 _ _ hau))), ?_⟩
        rw [List.length_map]
        refine repN0 upd_same (by omega) fun c3 H15 s15 hc3 => ?_
        refine ⟨(show 1 ≤ sizeLine from line (by decide)), fun p7 n7 => ?_⟩
        have t7 := same_new (o := .tup [.ref c3]) n7
        have t67 := (t6.trans s15).trans t7
        refine cat_zero (t67 _ _ had14) upd_same fun c4 H16 s16 hc4 => ?_
        have t68 := t67.trans s16
        have sD := (((s910.trans s11).trans sC).trans s14).trans t68
        refine ⟨_, _, dp3 (t68 _ _ hpg2) (hx2.mono t68) (hy2.mono t68) (hz2.mono t68), dp3 hc4 ((hxd.mono t48).mono sD) ((hyd.mono t48).mono sD) ((hc3.mono t7).mono s16), sh3 _ _ _, sh3 _ _ _, ?_⟩
        have e2 : d3 (bun cs.length true (TG.E cs L (expB bs))) (bun cs.length false (TG.E cs L (expB bs))) (List.replicate cs.length 0) = d3 (endL cs L (expB bs) true) (endL cs L (expB bs) false) (List.replicate cs.length 0) := rfl
        rw [e2, eq_self (sh3 _ _ _)]
        exact q _ (sA.trans t68)
      · refine ⟨.ref D, rfl, D, _, rfl, .inl (SqL.of eD), (acc.length : Int), 200, rfl, rfl, false, no (by omega), ?_⟩
        have sAll := s012
        have sC := s12
        refine ⟨.ref au, rfl, .ref ac, rfl, .ref au, .ref ac, cs, rs, rfl, hu.mono sAll, hcrs'.mono sC, h60, hwc, fun k => by rw [hexp, bag_reverse, hbag]; exact Nat.le_refl _, fun pg2 x2 y2 z2 H14 s14 hpg2 hx2 hy2 hz2 => ?_⟩
        rw [hexp, bun_rev] at hx2 hy2
        have hz2 : TupN H14 z2 (List.replicate cs.length 0) := by
          have e0 : subl cs (bag (expR rs)) = List.replicate cs.length 0 := subl_zero fun k => by rw [hexp, bag_reverse, hbag]; exact Nat.le_refl _
          rw [← e0]
          exact hz2
        have sA := sAll.trans s14
        have had14 := (((s910.trans s11).trans sC).trans s14) _ _ (t48 _ _ had)
        refine ⟨.ref ad, rfl, (show 1 ≤ sizeLine from line (by decide)), fun p6 n6 => ?_⟩
        have t6 := same_new (o := .tup [.int 0]) n6
        refine ⟨.ref au, rfl, au, _, rfl, .inr (SqT.of ((((((s910.trans s11).trans sC).trans s14).trans t6)) _ _ (t48 _ _ hau))), ?_⟩
        rw [List.length_map]
        refine repN0 upd_same (by omega) fun c3 H15 s15 hc3 => ?_
        refine ⟨(show 1 ≤ sizeLine from line (by decide)), fun p7 n7 => ?_⟩
        have t7 := same_new (o := .tup [.ref c3]) n7
        have t67 := (t6.trans s15).trans t7
        refine cat_zero (t67 _ _ had14) upd_same fun c4 H16 s16 hc4 => ?_
        have t68 := t67.trans s16
        have sD := (((s910.trans s11).trans sC).trans s14).trans t68
        refine ⟨_, _, dp3 (t68 _ _ hpg2) (hx2.mono t68) (hy2.mono t68) (hz2.mono t68), dp3 hc4 ((hxd.mono t48).mono sD) ((hyd.mono t48).mono sD) ((hc3.mono t7).mono s16), sh3 _ _ _, sh3 _ _ _, ?_⟩
        have e2 : d3 (bun cs.length true (TG.E cs L (expB bs))) (bun cs.length false (TG.E cs L (expB bs))) (List.replicate cs.length 0) = d3 (endL cs L (expB bs) true) (endL cs L (expB bs) false) (List.replicate cs.length 0) := rfl
        rw [e2, eq_self (sh3 _ _ _)]
        exact q _ (sA.trans t68)
def sp__law_course_leads : Sp := fun vs H Q _ => ∃ (u l v d : V) (cs : List Nat) (L : Bool → List Nat) (bs : List Blk), vs = [u, l, v, d] ∧ TupN H u cs ∧ LsR H l L ∧ SeqR H v bs ∧ LsR H d (endL cs L (expB bs)) ∧ cs.length ≤ 60 ∧ WL cs.length L ∧ WS bs ∧ lenB bs = cs.sum ∧ ∀ H', Same H H' → Q (.bl true) H'
theorem ok__law_course_leads (T : Blt K mg) (dF : Df K mg "_law_course_leads" st__law_course_leads ["_law_supply_here", "_law_lists_here", "_law_blocks_here", "_law_due"]) (c_end_course : C8.Cal P w K mg base 7 "end_course" sp_end_course []) (c_turned : C8.Cal P w K mg base 7 "turned" sp_turned []) (c_play_course : C8.Cal P w K mg base 5 "play_course" sp_play_course []) (c_plain_game : C8.Cal P w K mg base 6 "plain_game" sp_plain_game []) : C8.Cal P w K mg base 8 "_law_course_leads" sp__law_course_leads [] := by
  have nd := sc__law_course_leads.nd
  refine cal_of dF sc__law_course_leads (fun vs H Q E h => ?_) (fun cdv A outer s H vs Q E hr h => ?_)
  · obtain ⟨u, l, v, d, cs, L, bs, rfl, _⟩ := h
    rfl
  · obtain ⟨u, l, v, d, cs, L, bs, rfl, hu, hl, hv, hdue, h60, hL, hw, hsum, q⟩ := h
    refine ⟨_, pss_cons (ps_set (i := 4) nd rfl (Or.inl rfl) (C8.pe_c c_end_course hr (by decide) (by rfl) (pa_cons (pv 0) (pa_cons (pv 1) (pa_cons (pv 2) pa_nil)))))
      (pss_cons (ps_if ((pw_or (pt_cmpR op_gt (pe_callB (call_len_seqK (K := K) rfl) (by rfl) T.len_ bb_len (pa_cons (pv 4) pa_nil)) (pe_int) (nomark _)) (pw_or1 (pt_cmpR (op_neD hr.units) (C8.pe_c c_play_course hr (by decide) (by rfl) (pa_cons (pv 0) (pa_cons (pv 4) pa_nil))) (pe_op op_catA (pv 3) (pe_tup (pa_cons (pe_op op_repN (pe_tup (pa_cons (pe_int) pa_nil)) (pe_callB (call_len_seqK (K := K) rfl) (by rfl) T.len_ bb_len (pa_cons (pv 0) pa_nil))) pa_nil))) (nomark _)))).pt)
        (pss_one (ps_ret (pe_bl)))
        (pss_nil))
      (pss_cons (ps_set (i := 5) nd rfl (Or.inl rfl) (C8.pe_c c_turned hr (by decide) (by rfl) (pa_cons (pv 0) (pa_cons (pv 1) (pa_cons (pv 2) pa_nil)))))
      (pss_one (ps_ret (pe_cmpR (op_eqD hr.units) (pe_slice sl_tupA (C8.pe_c c_plain_game hr (by decide) (by rfl) (pa_cons (pv 0) (pa_cons (pe_ix ix_tup (pv 5) (pe_int) (fun _ _ => rfl)) (pa_cons (pe_ix ix_tup (pv 5) (pe_int) (fun _ _ => rfl)) pa_nil)))) po_none (po_some (pe_int))) (pv 3) (nomark _)))))), ?_⟩
    have hTs : (expB bs).length = cs.sum := by rw [expB_len, hsum]
    have hbag := fun k => E_bag (wl_has hL) (cs := cs) rfl hTs k
    refine ⟨u, rfl, l, rfl, v, rfl, u, l, v, cs, L, bs, rfl, hu, hl, hv, h60, hL, hw, hsum, fun crs rs H1 s1 hcrs hwc hexp => ?_⟩
    have hcrs' := hcrs
    obtain ⟨ac, xs, rfl, hac, hxs⟩ := hcrs
    have hxl := hxs.1
    have h1000 := hwc.1
    refine ⟨.ref ac, rfl, ac, _, rfl, .inl (SqL.of hac), (xs.length : Int), 1000, rfl, rfl, false, no (by omega), ?_⟩
    refine ⟨u, rfl, .ref ac, rfl, u, .ref ac, cs, rs, rfl, hu.mono s1, hcrs', h60, hwc, fun k => by rw [hexp, bag_reverse, hbag]; exact Nat.le_refl _, fun pg x y z H2 s2 hpg hx hy hz => ?_⟩
    rw [hexp, bun_rev] at hx hy
    have hz : TupN H2 z (List.replicate cs.length 0) := by
      have e0 : subl cs (bag (expR rs)) = List.replicate cs.length 0 := subl_zero fun k => by rw [hexp, bag_reverse, hbag]; exact Nat.le_refl _
      rw [← e0]
      exact hz
    have s02 := s1.trans s2
    obtain ⟨ad, xd, yd, rfl, had, hxd, hyd⟩ := hdue.mono s02
    obtain ⟨au, rfl, hau⟩ := hu.mono s02
    refine ⟨.ref ad, rfl, (show 1 ≤ sizeLine from line (by decide)), fun p4 n4 => ?_⟩
    have t4 := same_new (o := .tup [.int 0]) n4
    refine ⟨.ref au, rfl, au, _, rfl, .inr (SqT.of (t4 _ _ hau)), ?_⟩
    rw [List.length_map]
    refine repN0 upd_same (by omega) fun c1 H7 s7 hc1 => ?_
    refine ⟨(show 1 ≤ sizeLine from line (by decide)), fun p5 n5 => ?_⟩
    have t5 := same_new (o := .tup [.ref c1]) n5
    have t47 := (t4.trans s7).trans t5
    refine cat_zero (t47 _ _ had) upd_same fun c2 H8 s8 hc2 => ?_
    have t48 := t47.trans s8
    refine ⟨_, _, dp3 (t48 _ _ hpg) (hx.mono t48) (hy.mono t48) (hz.mono t48), dp3 hc2 (hxd.mono t48) (hyd.mono t48) ((hc1.mono t5).mono s8), sh3 _ _ _, sh3 _ _ _, ?_⟩
    have e1 : d3 (bun cs.length true (TG.E cs L (expB bs))) (bun cs.length false (TG.E cs L (expB bs))) (List.replicate cs.length 0) = d3 (endL cs L (expB bs) true) (endL cs L (expB bs) false) (List.replicate cs.length 0) := rfl
    rw [e1, eq_self (sh3 _ _ _)]
    refine ⟨false, rfl, ?_⟩
    have s08 := s02.trans t48
    refine ⟨.ref au, rfl, l, rfl, v, rfl, .ref au, l, v, cs, L, bs, rfl, hu.mono s08, hl.mono s08, hv.mono s08, h60, hL, hw, hsum, fun told tls rev H9 s9 htold htl hrev => ?_⟩
    have s09 := s08.trans s9
    have hlr : lenB (revB bs) = cs.sum := by rw [lenB_rev, hsum]
    refine ⟨.ref au, rfl, .ref told, rfl, told, _, 0, _, rfl, rfl, SqT.of htold, atI_nat (j := 0) rfl, .ref told, rfl, told, _, 1, _, rfl, rfl, SqT.of htold, atI_nat (j := 1) rfl, ?_⟩
    refine ⟨.ref au, tls, rev, cs, tl L, revB bs, rfl, hu.mono s09, htl, hrev, h60, wl_tl hL, hw.rev, Nat.le_of_eq hlr, fun pq x2 y2 z2 H10 s10 hpq hx2 hy2 hz2 => ?_⟩
    have eE : plain (fn cs) (tl L) (expB (revB bs)) = TG.E cs L (expB bs) := by rw [expB_rev]; rfl
    rw [eE] at hx2 hy2
    refine ⟨2, rfl, ?_⟩
    refine slA hpq fun c H11 s11 hc => ?_
    have hres : LsR H11 (.ref c) (endL cs L (expB bs)) := ⟨c, x2, y2, rfl, hc, hx2.mono s11, hy2.mono s11⟩
    refine ⟨.ref ad, rfl, d2 _, d2 _, hres.dp, (hdue.mono ((s09.trans s10).trans s11)).dp, sh2 _, sh2 _, ?_⟩
    rw [eq_self (sh2 _)]
    exact q _ ((s09.trans s10).trans s11)
end
end TG
namespace TG
open PySem PySem.Spec PyProof.Rows L2 TGZ
/-! ### more that is compared -/
def dB (b : Blk) : PyData := .tuple [.str (txt b.1), iN b.2]
def dBs (bs : List Blk) : PyData := .list (bs.map dB)
theorem str_ok (t : List Bool) : PyData.strOk (txt t) = true := by
  unfold PyData.strOk txt
  simp only [List.all_toArray, List.all_eq_true, List.mem_map]
  rintro x ⟨b, _, rfl⟩
  cases b <;> decide
theorem fl_blks : ∀ bs : List Blk, Fl 1 (bs.map dB)
  | [] => Fl.nil
  | b :: bs => by
    have h : Fl 0 [PyData.str (txt b.1), iN b.2] := Fl.cons (by rw [PyData.canLay0]; exact str_ok _) (by rw [PyData.depth]; omega) (Fl.cons (by rw [iN, PyData.canLay0]) (by rw [iN, PyData.depth]; omega) Fl.nil)
    exact Fl.cons h.tup.1 h.tup.2 (fl_blks bs)
theorem shB (bs : List Blk) : SeqAt.shaped (dBs bs) = true := (fl_blks bs).shL (by decide)
theorem eqB_nil (bs : List Blk) : PyData.eqv (dBs bs) (.list []) = decide (bs = []) := by
  cases bs with
  | nil => exact eqL [] []
  | cons b bs =>
    unfold dBs
    rw [List.map_cons, PyData.eqv, PyData.eqvAll]
    simp
section
variable {K : PySem.W.Frag} {H : Hp} {v : V}
theorem dpB : ∀ {vs : List V} {bs : List Blk}, All2 (BlkR H) vs bs → DpAll K H vs (bs.map dB)
  | [], [], _ => .nil
  | v :: vs, [], h => by have := h.1; simp at this
  | [], b :: bs, h => by have := h.1; simp at this
  | v :: vs, b :: bs, h => by
    obtain ⟨a, rfl, e⟩ := h.2 0 v b rfl rfl
    exact .cons (.tup (SqT.of e) (.cons (.str _) (.cons (.int _) .nil))) (dpB ⟨by have := h.1; simpa using this, fun i x y hx hy => h.2 (i + 1) x y (by simpa using hx) (by simpa using hy)⟩)
theorem SeqR.dp {bs : List Blk} (h : SeqR H v bs) : Dp K H v (dBs bs) := by
  obtain ⟨a, vs, rfl, e, h2⟩ := h
  exact .lst (SqL.of e) (dpB h2)
end
theorem inV_nat (k : Nat) : ∀ ns : List Nat, inV (vN k) (ns.map vN) = decide (k ∈ ns)
  | [] => rfl
  | n :: ns => by
    have h := inV_nat k ns
    unfold inV at h ⊢
    rw [List.map_cons, List.any_cons, h]
    have e : eqV (vN n) (vN k) = decide (k = n) := by
      show ((n : Int) == (k : Int)) = decide (k = n)
      rw [Bool.eq_iff_iff, beq_iff_eq, decide_eq_true_iff]
      omega
    rw [e]
    by_cases h1 : k = n
    · subst h1; simp
    · by_cases h2 : k ∈ ns <;> simp [h1, h2]
theorem flat_nats (ns : List Nat) : (ns.map vN).all flatV = true := by
  rw [List.all_eq_true]
  intro x hx
  obtain ⟨n, _, rfl⟩ := List.mem_map.mp hx
  rfl
/-- x[:k] + (x[k] ∘ 1,) + x[k + 1:] -/
theorem wi {K : PySem.W.Frag} {σ : L2.St} {H : Hp} {Q : VK} {i j : Nat} {f : Int → Int → V} {v : V} {ns : List Nat} {k m : Nat} (hi : σ[i]? = some (some v)) (hj : σ[j]? = some (some (vN k))) (hv : TupN H v ns) (hk : k < ns.length) (hl : ns.length ≤ 1000) (hf : f (fn ns k : Int) 1 = vN m)
    (q : ∀ v' H', Same H H' → TupN H' v' (ns.set k m) → Q v' H') :
    tOp (rCatA K) (tOp (rCatA K) (tSl (rSlA K) (tVar i) tNoPart (tPart (tVar j))) (tTup (tCons (tOp (rI0 f) (tOp (rIxT K) (tVar i) (tVar j)) (tC (.int 1))) tNil))) (tSl (rSlA K) (tVar i) (tPart (tOp (rI0 fun i j => .int (i + j)) (tVar j) (tC (.int 1)))) tNoPart) σ H Q := by
  obtain ⟨a, rfl, ha⟩ := hv
  refine ⟨.ref a, hi, vN k, hj, (k : Int), rfl, ?_⟩
  refine slA ha fun c1 H1 s1 h1 => ?_
  rw [cut_hi] at h1
  refine ⟨.ref a, hi, vN k, hj, a, _, (k : Int), vN (fn ns k), rfl, rfl, SqT.of (s1 _ _ ha), atI_nat (at_vN (fn_at hk)), (fn ns k : Int), 1, rfl, rfl, (show 1 ≤ sizeLine from line (by decide)), fun c2 n2 => ?_⟩
  rw [hf]
  have s2 := same_new (o := .tup [vN m]) n2
  refine catA (s2 _ _ h1) upd_same (by simp; omega) fun c3 H3 s3 h3 => ?_
  have ha3 := ((s1.trans s2).trans s3) _ _ ha
  refine ⟨.ref a, hi, vN k, hj, (k : Int), 1, rfl, rfl, _, rfl, ?_⟩
  dsimp only [tNoPart]
  refine slA (lo := some ((k : Int) + 1)) (hi := none) ha3 fun c4 H4 s4 h4 => ?_
  rw [show ((k : Int) + 1) = ((k + 1 : Nat) : Int) from rfl, cut_lo] at h4
  refine catA (s4 _ _ h3) h4 (by simp; omega) fun c5 H5 s5 h5 => ?_
  refine q _ H5 ((((s1.trans s2).trans s3).trans s4).trans s5) ⟨c5, rfl, ?_⟩
  rw [h5, set_cut hk, List.map_append, List.map_append, List.map_take, List.map_drop]
  rfl
theorem occ_AB (p : Bool) : ∃ rest, Builtin.Str.occurrences (Str.ofString "AB") (txt [p]) 0 (Str.ofString "AB").length 1 = pix p :: rest := by
  cases p
  · exact ⟨_, show _ = 1 :: [] by decide +kernel⟩
  · exact ⟨_, show _ = 0 :: [] by decide +kernel⟩
/-- the kinds that are left -/
def kindsOf (cs : List Nat) : List Nat := (List.range cs.length).filter fun k => decide (0 < fn cs k)
/-- is a kind a best first pick -/
theorem firsts_mem {cs : List Nat} {L : Bool → List Nat} (hL : WL cs.length L) {p : Bool} {T : List Bool} {k : Nat} (hk : k < cs.length) (h0 : 0 < fn cs k) :
    decide (incr (bun cs.length p (TG.E (decr cs k) L T)) k = bun cs.length p (TG.E cs L (p :: T))) = decide (k ∈ firsts cs.length cs L (p :: T)) := by
  unfold firsts
  have e : (k ∈ (L p).filter fun k => decide (0 < fn cs k) && decide (incr (bun cs.length p (TG.E (decr cs k) L T)) k = bun cs.length p (TG.E cs L (p :: T)))) ↔ incr (bun cs.length p (TG.E (decr cs k) L T)) k = bun cs.length p (TG.E cs L (p :: T)) := by
    rw [List.mem_filter, Bool.and_eq_true, decide_eq_true_iff, decide_eq_true_iff]
    exact ⟨fun h => h.2.2, fun h => ⟨(wl_has hL p k).mpr hk, h0, h⟩⟩
  rw [Bool.eq_iff_iff, decide_eq_true_iff, decide_eq_true_iff]
  exact e.symm
/-- the course's first pick is a best one -/
theorem course_first {cs : List Nat} {L : Bool → List Nat} (hL : WL cs.length L) {p : Bool} {T : List Bool} (hT : T.length + 1 = cs.sum) {rs : List Row} (hw : ∀ r ∈ rs, WR cs.length r) (he : expR rs = (TG.E cs L (p :: T)).reverse) :
    ∃ r k, rs[0]? = some r ∧ r.2.1[0]? = some k ∧ k ∈ firsts cs.length cs L (p :: T) := by
  obtain ⟨X, x, hX⟩ : ∃ X x, TG.E cs L (p :: T) = X ++ [x] := by
    obtain ⟨k, e, _, _⟩ := E_cons (wl_has hL) (cs := cs) (p := p) (T := T) rfl hT
    exact ⟨_, _, e⟩
  have hf := firsts_last (wl_has hL) rfl hT hX
  rw [hX, List.reverse_append] at he
  cases rs with
  | nil => cases he
  | cons r rs =>
    obtain ⟨t, ks, n⟩ := r
    obtain ⟨w1, w2, w3, w4, w5⟩ := hw _ List.mem_cons_self
    have w1 : 1 ≤ t.length := w1
    have w3 : ks.length = t.length := w3
    have w5 : 1 ≤ n := w5
    obtain ⟨m, rfl⟩ : ∃ m, n = m + 1 := ⟨n - 1, by omega⟩
    cases t with
    | nil => exact absurd (show 1 ≤ 0 from w1) (by decide)
    | cons b t =>
      cases ks with
      | nil => cases w3
      | cons k ks =>
        refine ⟨_, k, rfl, rfl, ?_⟩
        rw [expR_cons, List.replicate_succ, List.flatten_cons, List.zip_cons_cons, List.cons_append, List.cons_append] at he
        have h1 : (b, k) = x := (List.cons.inj he).1
        rw [← h1] at hf
        exact hf.2
end TG
namespace TG
open PySem PySem.Spec PyProof.Rows L2 TGZ
abbrev st__law_first_right : Stmt := topS 67
abbrev N__law_first_right : List Str := ["_law_supply_here", "_law_lists_here", "_law_blocks_here", "_law_due", "_law_side", "_law_told", "_law_rest", "_law_one", "_law_fewer", "_law_later", "_law_is_best", "_law_k", "_law_amount"]
theorem sc__law_first_right : FnScope N__law_first_right ["_law_supply_here", "_law_lists_here", "_law_blocks_here"] (C8.fnScope st__law_first_right) := C8.fnScope_by (by decide +kernel)
section
variable {P : Program} {w : World} {K : PySem.W.Frag} {mg : Str → Option Value} {base : Heap}
def sp__law_first_right : Sp := fun vs H Q _ => ∃ (u l v : V) (cs : List Nat) (L : Bool → List Nat) (bs : List Blk), vs = [u, l, v] ∧ TupN H u cs ∧ LsR H l L ∧ SeqR H v bs ∧ cs.length ≤ 60 ∧ WL cs.length L ∧ WS bs ∧ bs.length ≤ 199 ∧ lenB bs = cs.sum ∧ ∀ H', Same H H' → Q (.bl true) H'
theorem ok__law_first_right (T : Blt K mg) (dF : Df K mg "_law_first_right" st__law_first_right ["_law_supply_here", "_law_lists_here", "_law_blocks_here"]) (c_end_of : C8.Cal P w K mg base 7 "end_of" sp_end_of []) (c_best_first_picks : C8.Cal P w K mg base 7 "best_first_picks" sp_best_first_picks []) (c_rest_of : C8.Cal P w K mg base 5 "rest_of" sp_rest_of []) (c_end_course : C8.Cal P w K mg base 7 "end_course" sp_end_course []) : C8.Cal P w K mg base 8 "_law_first_right" sp__law_first_right [] := by
  have nd := sc__law_first_right.nd
  refine cal_of dF sc__law_first_right (fun vs H Q E h => ?_) (fun cdv A outer s H vs Q E hr h => ?_)
  · obtain ⟨u, l, v, cs, L, bs, rfl, _⟩ := h
    rfl
  · obtain ⟨u, l, v, cs, L, bs, rfl, hu, hl, hv, h60, hL, hw, h199, hsum, q⟩ := h
    refine ⟨_, pss_cons (ps_if (pt_cmpR (op_eqD hr.units) (pv 2) (pe_lst (pa_nil)) (nomark _))
        (pss_one (ps_ret (pe_cmpR (op_eqD hr.units) (C8.pe_c c_best_first_picks hr (by decide) (by rfl) (pa_cons (pv 0) (pa_cons (pv 1) (pa_cons (pv 2) pa_nil)))) (pe_lst (pa_nil)) (nomark _))))
        (pss_nil))
      (pss_cons (ps_par (i := 3) (j := 4) rfl nd rfl rfl (by decide) rfl rfl (pa_cons (C8.pe_c c_end_of hr (by decide) (by rfl) (pa_cons (pv 0) (pa_cons (pv 1) (pa_cons (pv 2) pa_nil)))) (pa_cons (pe_bm PySem.F.plainAttrs_str PySem.F.slot_str_index PySem.F.type_str_index mt_sindex (pe_str) (pa_cons (pe_ix ix_str (pe_ix ix_tup (pe_ix ix_list (pv 2) (pe_int) (fun _ _ => rfl)) (pe_int) (fun _ _ => rfl)) (pe_int) (fun _ _ => rfl)) pa_nil)) pa_nil)) (by first | rfl | decide +kernel))
      (pss_cons (ps_par (i := 5) (j := 6) rfl nd rfl rfl (by decide) rfl rfl (pa_cons (C8.pe_c c_best_first_picks hr (by decide) (by rfl) (pa_cons (pv 0) (pa_cons (pv 1) (pa_cons (pv 2) pa_nil)))) (pa_cons (pe_slice sl_list (pv 2) (po_some (pe_int)) po_none) pa_nil)) (by first | rfl | decide +kernel))
      (pss_cons (ps_if (pt_cmpR op_gt (pe_op op_mul (pe_callB call_len_str (by rfl) T.len_ bb_len (pa_cons (pe_ix ix_tup (pe_ix ix_list (pv 2) (pe_int) (fun _ _ => rfl)) (pe_int) (fun _ _ => rfl)) pa_nil)) (pe_ix ix_tup (pe_ix ix_list (pv 2) (pe_int) (fun _ _ => rfl)) (pe_int) (fun _ _ => rfl))) (pe_int) (nomark _))
        (pss_one (ps_set (i := 6) nd rfl (Or.inl rfl) (C8.pe_c c_rest_of hr (by decide) (by rfl) (pa_cons (pv 2) (pa_cons (pe_int) pa_nil)))))
        (pss_nil))
      (pss_cons (ps_for PassesOwn.never rfl (pi_list (pe_lc (own := [("_law_k", 11), ("_law_amount", 12)]) (g := gTup K 2 (gCons (gName 11) (gCons (gName 12) gNil))) rfl nd (pi_en (by rfl) T.enumerate_ (pa_cons (pv 0) pa_nil)) (blkOk_by (N := N__law_first_right) (sc := C8.fnScope st__law_first_right) (by decide +kernel))
        (fun _ _ _ _ _ => pg_tup rfl (pgs_cons (pg_name (i := 11) nd rfl (Or.inl rfl)) (pgs_cons (pg_name (i := 12) nd rfl (Or.inl rfl)) pgs_nil))) (fun _ _ _ _ _ => pts_one (pt_cmpR op_gt (pv 12) (pe_int) (nomark _)))
        (fun _ _ _ _ _ => pv 11))) (pg_name (i := 7) nd rfl (Or.inl rfl))
        (pss_cons (ps_set (i := 8) nd rfl (Or.inl rfl) (pe_op op_catA (pe_op op_catA (pe_slice sl_tupA (pv 0) po_none (po_some (pv 7))) (pe_tup (pa_cons (pe_op op_sub (pe_ix ix_tup (pv 0) (pv 7) (fun _ _ => rfl)) (pe_int)) pa_nil))) (pe_slice sl_tupA (pv 0) (po_some (pe_op op_add (pv 7) (pe_int))) po_none)))
        (pss_cons (ps_set (i := 9) nd rfl (Or.inl rfl) (pe_ix ix_tup (C8.pe_c c_end_of hr (by decide) (by rfl) (pa_cons (pv 8) (pa_cons (pv 1) (pa_cons (pv 6) pa_nil)))) (pv 4) (fun _ _ => rfl)))
        (pss_cons (ps_set (i := 10) nd rfl (Or.inl rfl) (pe_cmpR (op_eqD hr.units) (pe_op op_catA (pe_op op_catA (pe_slice sl_tupA (pv 9) po_none (po_some (pv 7))) (pe_tup (pa_cons (pe_op op_add (pe_ix ix_tup (pv 9) (pv 7) (fun _ _ => rfl)) (pe_int)) pa_nil))) (pe_slice sl_tupA (pv 9) (po_some (pe_op op_add (pv 7) (pe_int))) po_none)) (pe_ix ix_tup (pv 3) (pv 4) (fun _ _ => rfl)) (nomark _)))
        (pss_one (ps_if (pt_cmpR op_ne (pv 10) (pe_cmpR op_in_seq (pv 7) (pv 5) (by rfl)) (nomark _))
          (pss_one (ps_ret (pe_bl)))
          (pss_nil)))))))
      (pss_one (ps_ret (pe_and (pe_cmpR (op_neD hr.units) (pv 5) (pe_lst (pa_nil)) (nomark _)) (pe_one (pe_cmpR op_in_seq (pe_ix ix_tup (pe_ix ix_tup (pe_ix ix_list (C8.pe_c c_end_course hr (by decide) (by rfl) (pa_cons (pv 0) (pa_cons (pv 1) (pa_cons (pv 2) pa_nil)))) (pe_int) (fun _ _ => rfl)) (pe_int) (fun _ _ => rfl)) (pe_int) (fun _ _ => rfl)) (pv 5) (by rfl)))))))))), ?_⟩
    refine ⟨v, rfl, (show 0 ≤ sizeLine from line (by decide)), fun p0 n0 => ?_⟩
    have s0 : Same H (upd H p0 (.lst [])) := same_new n0
    refine ⟨dBs bs, .list [], (hv.mono s0).dp, .lst (SqL.of upd_same) .nil, shB _, dl_empty, ?_⟩
    rw [eqB_nil]
    generalize upd H p0 (.lst []) = H0 at *
    cases bs with
    | nil =>
      refine ⟨true, rfl, ?_⟩
      refine ⟨u, rfl, l, rfl, v, rfl, u, l, v, cs, L, [], rfl, hu.mono s0, hl.mono s0, hv.mono s0, h60, hL, hw, hsum, fun a H1 s1 e1 => ?_⟩
      refine ⟨(show 0 ≤ sizeLine from line (by decide)), fun p1 n1 => ?_⟩
      have s2 := same_new (o := .lst []) n1
      refine ⟨dL [], .list [], dp_lst (s2 _ _ e1), .lst (SqL.of upd_same) .nil, shL _, dl_empty, ?_⟩
      rw [dL_nil]
      exact q _ ((s0.trans s1).trans s2)
    | cons b bs =>
      obtain ⟨t, n⟩ := b
      have hwb := hw.2 _ List.mem_cons_self
      obtain ⟨w1, w20, w3⟩ := hwb
      have w20 : t.length ≤ 20 := w20
      have w3 : 1 ≤ n := w3
      cases t with
      | nil => exact absurd (show 1 ≤ 0 from w1) (by decide)
      | cons p t =>
      refine ⟨false, rfl, ?_⟩
      have hT : expB ((p :: t, n) :: bs) = p :: expB (woF (p :: t) n bs) := expB_woF bs w3
      have hTl : (expB (woF (p :: t) n bs)).length + 1 = cs.sum := by
        rw [← hsum, ← expB_len, hT]
        rfl
      generalize hT0 : expB (woF (p :: t) n bs) = T0 at *
      refine ⟨u, rfl, l, rfl, v, rfl, u, l, v, cs, L, (p :: t, n) :: bs, rfl, hu.mono s0, hl.mono s0, hv.mono s0, h60, hL, hw, hsum, fun due H1 s1 hdue => ?_⟩
      have s01 := s0.trans s1
      obtain ⟨av, xs, rfl, hav, hxs⟩ := hv.mono s01
      obtain ⟨x0, ex0, c, rfl, hc⟩ := hxs.get (i := 0) rfl
      have hc : H1 c = some (.tup [.str (txt (p :: t)), vN n]) := hc
      have hline : (txt (p :: t)).length ≤ sizeLine := line (by rw [txt_len]; omega)
      obtain ⟨ro, hro⟩ := occ_AB p
      refine ⟨rfl, .ref av, rfl, av, _, 0, _, rfl, rfl, SqL.of hav, atI_nat (j := 0) ex0, c, _, 0, _, rfl, rfl, SqT.of hc, atI_nat (j := 0) rfl, txt (p :: t), 0, cd p, rfl, rfl, hline, atI_nat (j := 0) rfl, ?_⟩
      refine ⟨Str.ofString "AB", txt [p], pix p, ro, rfl, rfl, hro, _, _, rfl, ?_⟩
      refine ⟨u, rfl, l, rfl, .ref av, rfl, u, l, .ref av, cs, L, (p :: t, n) :: bs, rfl, hu.mono s01, hl.mono s01, hv.mono s01, h60, hL, hw, hsum, fun told H2 s2 htold => ?_⟩
      rw [hT] at htold
      have s02 := s01.trans s2
      have hav2 := s2 _ _ hav
      have hc2 := s2 _ _ hc
      refine ⟨.ref av, rfl, 1, rfl, av, _, rfl, SqL.of hav2, fun p1 n1 => ⟨_, _, rfl, ?_⟩⟩
      have e8 : cutV xs (some 1) none = xs.drop 1 := cut_lo xs 1
      have s3 := same_new (o := .lst (cutV xs (some 1) none)) n1
      have hrest0 : SeqR (upd H2 p1 (.lst (cutV xs (some 1) none))) (.ref p1) bs := by
        refine ⟨p1, _, rfl, upd_same, ?_⟩
        have hd : All2 (BlkR H1) (xs.drop 1) bs := hxs.drop 1
        rw [e8]
        exact hd.mono fun _ _ z => (z.mono s2).mono (same_new n1)
      have hc3 := s3 _ _ hc2
      have hav3 := s3 _ _ hav2
      have s03 := s02.trans s3
      have htold3 := s3 _ _ htold
      have hdue3 := (hdue.mono s2).mono s3
      rw [hT] at hdue3
      generalize upd H2 p1 (.lst (cutV xs (some 1) none)) = H3 at *
      have hmul : (((txt (p :: t)).length : Int) * (n : Int)) = (((p :: t).length * n : Nat) : Int) := by rw [txt_len, Int.natCast_mul]
      have htests : 1 ≤ (p :: t).length * n := Nat.mul_pos (by simp) w3
      have hlenB : (expB ((p :: t, n) :: bs)).length = (p :: t).length * n + (expB bs).length := by
        rw [expB_cons, List.length_append, rep_len n rfl, Nat.mul_comm]
      by_cases hmt : 1 < (p :: t).length * n
      · refine ⟨.ref av, rfl, av, _, 0, _, rfl, rfl, SqL.of hav3, atI_nat (j := 0) ex0, c, _, 0, _, rfl, rfl, SqT.of hc3, atI_nat (j := 0) rfl, txt (p :: t), rfl, hline, .ref av, rfl, av, _, 0, _, rfl, rfl, SqL.of hav3, atI_nat (j := 0) ex0, c, _, 1, _, rfl, rfl, SqT.of hc3, atI_nat (j := 1) rfl, ((txt (p :: t)).length : Int), (n : Int), rfl, rfl, .inl ⟨by omega, by rw [txt_len]; omega⟩, _, 1, rfl, rfl, true, yes (show (1 : Int) < ((txt (p :: t)).length : Int) * (n : Int) by rw [hmul]; omega), ?_⟩
        refine ⟨.ref av, rfl, .ref av, (p :: t, n) :: bs, 1, rfl, hv.mono s03, hw, h199, by rw [← expB_len, hT]; simp, fun vr bsr H4 s4 hr hwr her => ?_⟩
        have s04 := s03.trans s4
        have htold4 := s4 _ _ htold3
        have hdue4 := hdue3.mono s4
        have her : expB bsr = T0 := by
          rw [her, hT]
          rfl
        obtain ⟨ad, xd, yd, zd, rfl, had, hzd, hdz⟩ := lsr_at hdue4 p
        have hdz : TupN H4 zd (bun cs.length p (TG.E cs L (p :: T0))) := hdz
        obtain ⟨au, rfl, hau⟩ := hu.mono s04
        have hu4 : TupN H4 (.ref au) cs := ⟨au, rfl, hau⟩
        refine ⟨.ref au, rfl, _, _, _, _, rfl, .tup au (cs.map vN), SqT.of hau, fun D hD => ?_⟩
        refine lc_it walk_en (fun i H' => Same H4 H' ∧ H' D = some (.lst ((((List.range cs.length).take i).filter fun k => decide (0 < fn cs k)).map vN))) ⟨same_new hD, upd_same⟩ (fun i H' _ p => SqT.of (p.1 _ _ hau)) (fun i x H5 H' hi pp y => ?_) (fun H5 pp => ?_)
        · obtain ⟨T', rfl, nT, rfl⟩ := y
          rw [List.length_map] at hi
          have sT := same_new (o := .tup [.int (i : Nat), (cs.map vN).getD i .non]) nT
          have ev : (cs.map vN).getD i .non = vN (fn cs i) := by
            rw [List.getD_eq_getElem?_getD, at_vN (fn_at hi)]
            rfl
          have hrg : (List.range cs.length)[i]? = some i := by rw [List.getElem?_range hi]
          have eD := sT _ _ pp.2
          refine ⟨T', _, rfl, SqT.of upd_same, rfl, _, _, rfl, _, _, rfl, rfl, rfl, ?_⟩
          by_cases h0 : 0 < fn cs i
          · refine ⟨_, rfl, (fn cs i : Int), 0, ev, rfl, true, yes (by omega), ?_⟩
            refine ⟨_, rfl, _, eD, lineL ?_, (pp.1.trans sT).app hD, ?_⟩
            · rw [List.length_map]
              have := List.length_filter_le (fun k => decide (0 < fn cs k)) ((List.range cs.length).take i)
              rw [List.length_take] at this
              omega
            · rw [upd_same, filter_snoc hrg, if_pos (by simpa using h0), List.map_append]
              rfl
          · refine ⟨_, rfl, (fn cs i : Int), 0, ev, rfl, false, no (by omega), ?_⟩
            refine ⟨pp.1.trans sT, ?_⟩
            rw [eD, filter_snoc hrg, if_neg (by simpa using h0), List.append_nil]
        · obtain ⟨s5, eD⟩ := pp
          have eD : H5 D = some (.lst ((kindsOf cs).map vN)) := by
            rw [eD, List.length_map, List.take_of_length_le (by simp)]
            rfl
          have hkd : ∀ k ∈ kindsOf cs, k < cs.length ∧ 0 < fn cs k := fun k hk => by
            unfold kindsOf at hk
            rw [List.mem_filter, List.mem_range] at hk
            exact ⟨hk.1, by simpa using hk.2⟩
          refine ⟨D, rfl, ⟨_, SqL.of eD⟩, ?_⟩
          refine for_it (walk_list (K := K) (a := D) (xs := (kindsOf cs).map vN)) (fun i σ H' => Same H5 H' ∧ ∃ z7 z8 z9 z10 z11 z12, σ = [some (.ref au), some l, some (.ref av), some (.ref ad), some (.int (pix p)), some (.ref told), some vr, z7, z8, z9, z10, z11, z12]) ⟨Same.refl _, _, _, _, _, _, _, rfl⟩ (fun i σ H' _ p => SqL.of (p.1 _ _ eD)) (fun i x σ H6 H' hi pp y => ?_) (fun σ H' pp => ?_)
          · obtain ⟨s6, z7, z8, z9, z10, z11, z12, rfl⟩ := pp
            obtain ⟨rfl, hxk⟩ := y
            obtain ⟨k, hk, rfl⟩ := get_vN hxk
            obtain ⟨hkK, h0⟩ := hkd k (List.mem_of_getElem? hk)
            have s46 := s5.trans s6
            refine wi (k := k) (m := fn cs k - 1) rfl rfl (hu4.mono s46) hkK (by omega) (by show V.int ((fn cs k : Int) - 1) = V.int ((fn cs k - 1 : Nat) : Int); congr 1; omega) fun fv H7 s7 hfv => ?_
            have s47 := s46.trans s7
            have hds := decr_sum h0
            have hdl := decr_len cs k
            have hlr : lenB bsr = (decr cs k).sum := by rw [← expB_len, her]; omega
            refine ⟨fv, rfl, l, rfl, vr, rfl, fv, l, vr, decr cs k, L, bsr, rfl, hfv, hl.mono (s04.trans s47), hr.mono s47, by omega, by rw [hdl]; exact hL, hwr, hlr, fun lv H8 s8 hlv => ?_⟩
            obtain ⟨al, x', y', zl, rfl, hal, hzl, hlat⟩ := lsr_at hlv p
            have hlat : TupN H8 zl (bun (decr cs k).length p (TG.E (decr cs k) L (expB bsr))) := hlat
            rw [hdl, her] at hlat
            refine ⟨.int (pix p), rfl, al, _, (pix p : Int), zl, rfl, rfl, SqT.of hal, atI_nat hzl, ?_⟩
            refine wi (k := k) (m := fn (bun cs.length p (TG.E (decr cs k) L T0)) k + 1) rfl rfl hlat (by rw [bun_len]; exact hkK) (by rw [bun_len]; omega) rfl fun iv H9 s9 hiv => ?_
            have hiv : TupN H9 iv (incr (bun cs.length p (TG.E (decr cs k) L T0)) k) := hiv
            have s49 := (s47.trans s8).trans s9
            refine ⟨.ref ad, rfl, .int (pix p), rfl, ad, _, (pix p : Int), zd, rfl, rfl, SqT.of (s49 _ _ had), atI_nat hzd, dT _, dT _, hiv.dp, (hdz.mono s49).dp, shT _, shT _, ?_⟩
            rw [eqT, firsts_mem hL hkK h0]
            refine ⟨_, rfl, vN k, rfl, .ref told, rfl, told, _, rfl, .inl (SqL.of (s49 _ _ htold4)), rfl, flat_nats _, ?_⟩
            refine ⟨rfl, false, ?_, s6.trans ((s7.trans s8).trans s9), _, _, _, _, _, _, rfl⟩
            show V.bl (!decide (V.bl (decide (k ∈ firsts cs.length cs L (p :: T0))) = V.bl (inV (vN k) ((firsts cs.length cs L (p :: T0)).map vN)))) = V.bl false
            rw [inV_nat, decide_eq_true rfl]
            rfl
          · obtain ⟨s6, z7, z8, z9, z10, z11, z12, rfl⟩ := pp
            have s46 := s5.trans s6
            refine ⟨.ref told, rfl, (show 0 ≤ sizeLine from line (by decide)), fun p9 n9 => ?_⟩
            have s7 := same_new (o := .lst []) n9
            have s47 := s46.trans s7
            refine ⟨dL _, .list [], dp_lst (s47 _ _ htold4), .lst (SqL.of upd_same) .nil, shL _, dl_empty, ?_⟩
            rw [dL_nil]
            obtain ⟨k1, hk1, _⟩ : ∃ k, k ∈ firsts cs.length cs L (p :: T0) ∧ True := by
              obtain ⟨k, e, _, _⟩ := E_cons (wl_has hL) (cs := cs) (p := p) (T := T0) rfl hTl
              exact ⟨_, (firsts_last (wl_has hL) rfl hTl e).2, trivial⟩
            have hne : ¬ firsts cs.length cs L (p :: T0) = [] := fun z => by rw [z] at hk1; cases hk1
            rw [decide_eq_false hne]
            generalize upd H' p9 (.lst []) = H7 at *
            have s07 := s04.trans s47
            refine ⟨true, rfl, ?_⟩
            refine ⟨.ref au, rfl, l, rfl, .ref av, rfl, .ref au, l, .ref av, cs, L, (p :: t, n) :: bs, rfl, hu.mono s07, hl.mono s07, hv.mono s07, h60, hL, hw, hsum, fun cv rs H8 s8 hcv hwc hexp => ?_⟩
            rw [hT] at hexp
            obtain ⟨r0, k0, hr0, hk0, hkf⟩ := course_first hL hTl hwc.2 hexp
            obtain ⟨ac, ys, rfl, hac, hys⟩ := hcv
            obtain ⟨y0, hy0, ra, kb, rfl, hra, hkb⟩ := hys.get hr0
            refine ⟨ac, _, 0, _, rfl, rfl, SqL.of hac, atI_nat (j := 0) hy0, ra, _, 1, _, rfl, rfl, SqT.of hra, atI_nat (j := 1) rfl, kb, _, 0, vN k0, rfl, rfl, rdT hkb, atI_nat (j := 0) (at_vN hk0), .ref told, rfl, told, _, rfl, .inl (SqL.of ((s47.trans s8) _ _ htold4)), rfl, flat_nats _, ?_⟩
            have e5 : inV (vN k0) ((firsts cs.length cs L (p :: T0)).map vN) = true := by
              rw [inV_nat]
              exact decide_eq_true hkf
            have res := q _ (s07.trans s8)
            rw [← e5] at res
            exact res
      · refine ⟨.ref av, rfl, av, _, 0, _, rfl, rfl, SqL.of hav3, atI_nat (j := 0) ex0, c, _, 0, _, rfl, rfl, SqT.of hc3, atI_nat (j := 0) rfl, txt (p :: t), rfl, hline, .ref av, rfl, av, _, 0, _, rfl, rfl, SqL.of hav3, atI_nat (j := 0) ex0, c, _, 1, _, rfl, rfl, SqT.of hc3, atI_nat (j := 1) rfl, ((txt (p :: t)).length : Int), (n : Int), rfl, rfl, .inl ⟨by omega, by rw [txt_len]; omega⟩, _, 1, rfl, rfl, false, no (show ¬ (1 : Int) < ((txt (p :: t)).length : Int) * (n : Int) by rw [hmul]; omega), ?_⟩
        have s04 := s03
        have htold4 := htold3
        have hdue4 := hdue3
        have hr := hrest0
        have hwr : WS bs := ⟨by have := hw.1; rw [List.length_cons] at this; omega, fun b hb => hw.2 b (List.mem_cons_of_mem _ hb)⟩
        have her : expB bs = T0 := by
          have h1 : (p :: t).length * n = 1 := by omega
          have h2 := Nat.eq_one_of_mul_eq_one_right h1
          have h3 : n = 1 := by rw [h2, Nat.one_mul] at h1; exact h1
          have ht : t = [] := by
            cases t with
            | nil => rfl
            | cons a b => simp at h2
          rw [expB_cons, h3, ht] at hT
          simp at hT
          exact hT
        obtain ⟨ad, xd, yd, zd, rfl, had, hzd, hdz⟩ := lsr_at hdue4 p
        have hdz : TupN H3 zd (bun cs.length p (TG.E cs L (p :: T0))) := hdz
        obtain ⟨au, rfl, hau⟩ := hu.mono s04
        have hu4 : TupN H3 (.ref au) cs := ⟨au, rfl, hau⟩
        refine ⟨.ref au, rfl, _, _, _, _, rfl, .tup au (cs.map vN), SqT.of hau, fun D hD => ?_⟩
        refine lc_it walk_en (fun i H' => Same H3 H' ∧ H' D = some (.lst ((((List.range cs.length).take i).filter fun k => decide (0 < fn cs k)).map vN))) ⟨same_new hD, upd_same⟩ (fun i H' _ p => SqT.of (p.1 _ _ hau)) (fun i x H5 H' hi pp y => ?_) (fun H5 pp => ?_)
        · obtain ⟨T', rfl, nT, rfl⟩ := y
          rw [List.length_map] at hi
          have sT := same_new (o := .tup [.int (i : Nat), (cs.map vN).getD i .non]) nT
          have ev : (cs.map vN).getD i .non = vN (fn cs i) := by
            rw [List.getD_eq_getElem?_getD, at_vN (fn_at hi)]
            rfl
          have hrg : (List.range cs.length)[i]? = some i := by rw [List.getElem?_range hi]
          have eD := sT _ _ pp.2
          refine ⟨T', _, rfl, SqT.of upd_same, rfl, _, _, rfl, _, _, rfl, rfl, rfl, ?_⟩
          by_cases h0 : 0 < fn cs i
          · refine ⟨_, rfl, (fn cs i : Int), 0, ev, rfl, true, yes (by omega), ?_⟩
            refine ⟨_, rfl, _, eD, lineL ?_, (pp.1.trans sT).app hD, ?_⟩
            · rw [List.length_map]
              have := List.length_filter_le (fun k => decide (0 < fn cs k)) ((List.range cs.length).take i)
              rw [List.length_take] at this
              omega
            · rw [upd_same, filter_snoc hrg, if_pos (by simpa using h0), List.map_append]
              rfl
          · refine ⟨_, rfl, (fn cs i : Int), 0, ev, rfl, false, no (by omega), ?_⟩
            refine ⟨pp.1.trans sT, ?_⟩
            rw [eD, filter_snoc hrg, if_neg (by simpa using h0), List.append_nil]
        · obtain ⟨s5, eD⟩ := pp
          have eD : H5 D = some (.lst ((kindsOf cs).map vN)) := by
            rw [eD, List.length_map, List.take_of_length_le (by simp)]
            rfl
          have hkd : ∀ k ∈ kindsOf cs, k < cs.length ∧ 0 < fn cs k := fun k hk => by
            unfold kindsOf at hk
            rw [List.mem_filter, List.mem_range] at hk
            exact ⟨hk.1, by simpa using hk.2⟩
          refine ⟨D, rfl, ⟨_, SqL.of eD⟩, ?_⟩
          refine for_it (walk_list (K := K) (a := D) (xs := (kindsOf cs).map vN)) (fun i σ H' => Same H5 H' ∧ ∃ z7 z8 z9 z10 z11 z12, σ = [some (.ref au), some l, some (.ref av), some (.ref ad), some (.int (pix p)), some (.ref told), some (.ref p1), z7, z8, z9, z10, z11, z12]) ⟨Same.refl _, _, _, _, _, _, _, rfl⟩ (fun i σ H' _ p => SqL.of (p.1 _ _ eD)) (fun i x σ H6 H' hi pp y => ?_) (fun σ H' pp => ?_)
          · obtain ⟨s6, z7, z8, z9, z10, z11, z12, rfl⟩ := pp
            obtain ⟨rfl, hxk⟩ := y
            obtain ⟨k, hk, rfl⟩ := get_vN hxk
            obtain ⟨hkK, h0⟩ := hkd k (List.mem_of_getElem? hk)
            have s46 := s5.trans s6
            refine wi (k := k) (m := fn cs k - 1) rfl rfl (hu4.mono s46) hkK (by omega) (by show V.int ((fn cs k : Int) - 1) = V.int ((fn cs k - 1 : Nat) : Int); congr 1; omega) fun fv H7 s7 hfv => ?_
            have s47 := s46.trans s7
            have hds := decr_sum h0
            have hdl := decr_len cs k
            have hlr : lenB bs = (decr cs k).sum := by rw [← expB_len, her]; omega
            refine ⟨fv, rfl, l, rfl, (.ref p1), rfl, fv, l, (.ref p1), decr cs k, L, bs, rfl, hfv, hl.mono (s04.trans s47), hr.mono s47, by omega, by rw [hdl]; exact hL, hwr, hlr, fun lv H8 s8 hlv => ?_⟩
            obtain ⟨al, x', y', zl, rfl, hal, hzl, hlat⟩ := lsr_at hlv p
            have hlat : TupN H8 zl (bun (decr cs k).length p (TG.E (decr cs k) L (expB bs))) := hlat
            rw [hdl, her] at hlat
            refine ⟨.int (pix p), rfl, al, _, (pix p : Int), zl, rfl, rfl, SqT.of hal, atI_nat hzl, ?_⟩
            refine wi (k := k) (m := fn (bun cs.length p (TG.E (decr cs k) L T0)) k + 1) rfl rfl hlat (by rw [bun_len]; exact hkK) (by rw [bun_len]; omega) rfl fun iv H9 s9 hiv => ?_
            have hiv : TupN H9 iv (incr (bun cs.length p (TG.E (decr cs k) L T0)) k) := hiv
            have s49 := (s47.trans s8).trans s9
            refine ⟨.ref ad, rfl, .int (pix p), rfl, ad, _, (pix p : Int), zd, rfl, rfl, SqT.of (s49 _ _ had), atI_nat hzd, dT _, dT _, hiv.dp, (hdz.mono s49).dp, shT _, shT _, ?_⟩
            rw [eqT, firsts_mem hL hkK h0]
            refine ⟨_, rfl, vN k, rfl, .ref told, rfl, told, _, rfl, .inl (SqL.of (s49 _ _ htold4)), rfl, flat_nats _, ?_⟩
            refine ⟨rfl, false, ?_, s6.trans ((s7.trans s8).trans s9), _, _, _, _, _, _, rfl⟩
            show V.bl (!decide (V.bl (decide (k ∈ firsts cs.length cs L (p :: T0))) = V.bl (inV (vN k) ((firsts cs.length cs L (p :: T0)).map vN)))) = V.bl false
            rw [inV_nat, decide_eq_true rfl]
            rfl
          · obtain ⟨s6, z7, z8, z9, z10, z11, z12, rfl⟩ := pp
            have s46 := s5.trans s6
            refine ⟨.ref told, rfl, (show 0 ≤ sizeLine from line (by decide)), fun p9 n9 => ?_⟩
            have s7 := same_new (o := .lst []) n9
            have s47 := s46.trans s7
            refine ⟨dL _, .list [], dp_lst (s47 _ _ htold4), .lst (SqL.of upd_same) .nil, shL _, dl_empty, ?_⟩
            rw [dL_nil]
            obtain ⟨k1, hk1, _⟩ : ∃ k, k ∈ firsts cs.length cs L (p :: T0) ∧ True := by
              obtain ⟨k, e, _, _⟩ := E_cons (wl_has hL) (cs := cs) (p := p) (T := T0) rfl hTl
              exact ⟨_, (firsts_last (wl_has hL) rfl hTl e).2, trivial⟩
            have hne : ¬ firsts cs.length cs L (p :: T0) = [] := fun z => by rw [z] at hk1; cases hk1
            rw [decide_eq_false hne]
            generalize upd H' p9 (.lst []) = H7 at *
            have s07 := s04.trans s47
            refine ⟨true, rfl, ?_⟩
            refine ⟨.ref au, rfl, l, rfl, .ref av, rfl, .ref au, l, .ref av, cs, L, (p :: t, n) :: bs, rfl, hu.mono s07, hl.mono s07, hv.mono s07, h60, hL, hw, hsum, fun cv rs H8 s8 hcv hwc hexp => ?_⟩
            rw [hT] at hexp
            obtain ⟨r0, k0, hr0, hk0, hkf⟩ := course_first hL hTl hwc.2 hexp
            obtain ⟨ac, ys, rfl, hac, hys⟩ := hcv
            obtain ⟨y0, hy0, ra, kb, rfl, hra, hkb⟩ := hys.get hr0
            refine ⟨ac, _, 0, _, rfl, rfl, SqL.of hac, atI_nat (j := 0) hy0, ra, _, 1, _, rfl, rfl, SqT.of hra, atI_nat (j := 1) rfl, kb, _, 0, vN k0, rfl, rfl, rdT hkb, atI_nat (j := 0) (at_vN hk0), .ref told, rfl, told, _, rfl, .inl (SqL.of ((s47.trans s8) _ _ htold4)), rfl, flat_nats _, ?_⟩
            have e5 : inV (vN k0) ((firsts cs.length cs L (p :: T0)).map vN) = true := by
              rw [inV_nat]
              exact decide_eq_true hkf
            have res := q _ (s07.trans s8)
            rw [← e5] at res
            exact res
end
end TG
namespace TG
open PySem PySem.Spec PyProof.Rows L2 TGZ
abbrev st__law_course_right : Stmt := topS 68
abbrev N__law_course_right : List Str := ["_law_source_here", "_law_supply_here", "_law_lists_here", "_law_blocks_here", "_law_rows", "_law_k", "_law_at", "_law_letters", "_law_kinds_here", "_law_times_here", "_law_done", "_law_place", "_law_ahead", "_law_passed", "_law_left", "_law_row"]
theorem sc__law_course_right : FnScope N__law_course_right ["_law_source_here", "_law_supply_here", "_law_lists_here", "_law_blocks_here"] (C8.fnScope st__law_course_right) := C8.fnScope_by (by decide +kernel)
theorem zip_take : ∀ (p : Nat) (t : List Bool) (ks : List Nat), (t.take p).zip (ks.take p) = (t.zip ks).take p
  | 0, t, ks => by simp
  | p + 1, [], ks => by simp
  | p + 1, b :: t, [] => by simp
  | p + 1, b :: t, k :: ks => by
    rw [List.take_succ_cons, List.take_succ_cons, List.zip_cons_cons, List.zip_cons_cons, List.take_succ_cons, zip_take p t ks]
theorem expR_len : ∀ (rs : List Row), (∀ r ∈ rs, r.2.1.length = r.1.length) → (expR rs).length = (rs.map fun r => r.1.length * r.2.2).sum
  | [], _ => rfl
  | (t, ks, n) :: rs, h => by
    have hl : ks.length = t.length := h _ List.mem_cons_self
    have hz : (t.zip ks).length = t.length := by rw [List.length_zip]; omega
    rw [expR_cons, List.length_append, rep_len n hz, expR_len rs fun r hr => h r (List.mem_cons_of_mem _ hr), List.map_cons, List.sum_cons, Nat.mul_comm]
theorem expR_times {K : Nat} : ∀ (rs : List Row), (∀ r ∈ rs, WR K r) → ∀ r ∈ rs, r.2.2 ≤ (expR rs).length
  | [], _, r, hr => by cases hr
  | (t, ks, n) :: rs, h, r, hr => by
    obtain ⟨w1, w2, w3, w4, w5⟩ := h _ List.mem_cons_self
    have w1 : 1 ≤ t.length := w1
    have w3 : ks.length = t.length := w3
    have hz : (t.zip ks).length = t.length := by rw [List.length_zip]; omega
    rw [expR_cons, List.length_append, rep_len n hz]
    rcases List.mem_cons.mp hr with rfl | hr
    · have : n * 1 ≤ n * t.length := Nat.mul_le_mul_left n w1
      show n ≤ _
      omega
    · have := expR_times rs (fun r hr => h r (List.mem_cons_of_mem _ hr)) r hr
      omega
theorem course_cut {rs : List Row} {i : Nat} {t : List Bool} {ks : List Nat} {n : Nat} (h : rs[i]? = some (t, ks, n)) (hl : ks.length = t.length) {d p : Nat} (hd : d < n) (hp : p < t.length) :
    (expR rs).take ((expR (rs.take i)).length + d * t.length + p) = expR (rs.take i) ++ (List.replicate d (t.zip ks)).flatten ++ (t.zip ks).take p ∧ (expR rs)[(expR (rs.take i)).length + d * t.length + p]? = (t.zip ks)[p]? := by
  have hz : (t.zip ks).length = t.length := by rw [List.length_zip]; omega
  have hi : i < rs.length := (List.getElem?_eq_some_iff.mp h).1
  have e1 : rs = rs.take i ++ (t, ks, n) :: rs.drop (i + 1) := by
    have := (List.take_append_drop i rs).symm
    rw [List.drop_eq_getElem_cons hi, (List.getElem?_eq_some_iff.mp h).2] at this
    exact this
  have e2 : expR rs = (expR (rs.take i) ++ (List.replicate d (t.zip ks)).flatten) ++ (t.zip ks ++ ((List.replicate (n - d - 1) (t.zip ks)).flatten ++ expR (rs.drop (i + 1)))) := by
    conv => lhs; rw [e1]
    rw [expR_append, expR_cons, rep_split (show d ≤ n by omega), show n - d = (n - d - 1) + 1 by omega, List.replicate_succ, List.flatten_cons]
    simp only [List.append_assoc]
    rfl
  have hlen : (expR (rs.take i) ++ (List.replicate d (t.zip ks)).flatten).length = (expR (rs.take i)).length + d * t.length := by rw [List.length_append, rep_len d hz]
  constructor
  · rw [e2, ← hlen, List.take_length_add_append, List.take_append_of_le_length (by omega)]
  · rw [e2, ← hlen, List.getElem?_append_right (Nat.le_add_right _ _), Nat.add_sub_cancel_left, List.getElem?_append_left (by omega)]
/-- the course up to a place within a row -/
def aheadR (rs : List Row) (i : Nat) (t : List Bool) (ks : List Nat) (d p : Nat) : List Row := (rs.take i ++ if 0 < d then [(t, ks, d)] else []) ++ if 0 < p then [(t.take p, ks.take p, 1)] else []
theorem ahead_exp (rs : List Row) (i : Nat) (t : List Bool) (ks : List Nat) (d p : Nat) : expR (aheadR rs i t ks d p) = expR (rs.take i) ++ (List.replicate d (t.zip ks)).flatten ++ (t.zip ks).take p := by
  unfold aheadR
  rw [expR_append, expR_append]
  congr 1
  · congr 1
    split
    · simp [expR]
    · rw [show d = 0 by omega]
      rfl
  · split
    · simp [expR, zip_take]
    · rw [show p = 0 by omega]
      rfl
theorem ahead_ok {K : Nat} {rs : List Row} (h : ∀ r ∈ rs, WR K r) {i : Nat} {t : List Bool} {ks : List Nat} {n d p : Nat} (hr : WR K (t, ks, n)) (hi : i ≤ 900) (hp : p < t.length) : WC K (aheadR rs i t ks d p) := by
  obtain ⟨w1, w2, w3, w4, w5⟩ := hr
  have w3 : ks.length = t.length := w3
  have w2 : t.length ≤ 20 := w2
  refine ⟨?_, fun r hr => ?_⟩
  · unfold aheadR
    rw [List.length_append, List.length_append, List.length_take]
    split <;> split <;> simp <;> omega
  · unfold aheadR at hr
    rcases List.mem_append.mp hr with hr | hr
    · rcases List.mem_append.mp hr with hr | hr
      · exact h r (List.mem_of_mem_take hr)
      · split at hr
        · rename_i c
          rw [List.mem_singleton.mp hr]
          exact ⟨w1, w2, w3, w4, c⟩
        · cases hr
    · split at hr
      · rename_i c
        rw [List.mem_singleton.mp hr]
        refine ⟨?_, ?_, ?_, fun k hk => w4 k (List.mem_of_mem_take hk), Nat.le_refl _⟩
        · show 1 ≤ (t.take p).length
          rw [List.length_take]
          omega
        · show (t.take p).length ≤ 20
          rw [List.length_take]
          omega
        · show (ks.take p).length = (t.take p).length
          rw [List.length_take, List.length_take, w3]
      · cases hr
theorem all2_rl {H : Hp} {vs : List V} {ds : List Row} {x : V} {b : Row} (h : All2 (RowR H) vs ds) (r : RowR H x b) (c : Bool) : All2 (RowR H) (vs ++ if c = true then [x] else []) (ds ++ if c = true then [b] else []) := by
  cases c
  · simpa using h
  · exact h.snoc r
section
variable {P : Program} {w : World} {K : PySem.W.Frag} {mg : Str → Option Value} {base : Heap}
def sp__law_course_right : Sp := fun vs H Q _ => ∃ (a : Addr) (u l v : V) (cs : List Nat) (L : Bool → List Nat) (bs : List Blk), vs = [.ref a, u, l, v] ∧ SrcAt a H ∧ TupN H u cs ∧ LsR H l L ∧ SeqR H v bs ∧ cs.length ≤ 60 ∧ WL cs.length L ∧ WS bs ∧ bs.length ≤ 199 ∧ lenB bs = cs.sum ∧ cs.sum < 2 ^ 200 ∧ ∀ H', Dr a H H' → Q (.bl true) H'
theorem ok__law_course_right (T : Blt K mg) (dF : Df K mg "_law_course_right" st__law_course_right ["_law_source_here", "_law_supply_here", "_law_lists_here", "_law_blocks_here"]) (c_end_course : C8.Cal P w K mg base 7 "end_course" sp_end_course []) (c__law_take : C8.Cal P w K mg base 1 "_law_take" sp__law_take []) (c_play_course : C8.Cal P w K mg base 5 "play_course" sp_play_course []) (c_best_first_picks : C8.Cal P w K mg base 7 "best_first_picks" sp_best_first_picks []) (c_rest_of : C8.Cal P w K mg base 5 "rest_of" sp_rest_of []) : C8.Cal P w K mg base 8 "_law_course_right" sp__law_course_right [] := by
  have nd := sc__law_course_right.nd
  refine cal_of dF sc__law_course_right (fun vs H Q E h => ?_) (fun cdv A outer s H vs Q E hr h => ?_)
  · obtain ⟨a, u, l, v, cs, L, bs, rfl, _⟩ := h
    rfl
  · obtain ⟨a, u, l, v, cs, L, bs, rfl, hs, hu, hl, hv, h60, hL, hw, h199, hsum, hbig, q⟩ := h
    refine ⟨_, pss_cons (ps_set (i := 4) nd rfl (Or.inl rfl) (C8.pe_c c_end_course hr (by decide) (by rfl) (pa_cons (pv 1) (pa_cons (pv 2) (pa_cons (pv 3) pa_nil)))))
      (pss_cons (ps_for PassesOwn.never rfl (pi_range1 (by rfl) T.range_ (pa_cons (pe_callB (call_min2 rfl) (by rfl) T.min_ bb_min (pa_cons (pe_int) (pa_cons (pe_op op_mul (pe_int) (pe_callB (call_len_seqK (K := K) rfl) (by rfl) T.len_ bb_len (pa_cons (pv 4) pa_nil))) pa_nil))) pa_nil)) (pg_name (i := 5) nd rfl (Or.inl rfl))
        (pss_cons (ps_set (i := 6) nd rfl (Or.inl rfl) (C8.pe_c c__law_take hr (by decide) (by rfl) (pa_cons (pv 0) (pa_cons (pe_callB (call_min2 rfl) (by rfl) T.min_ bb_min (pa_cons (pe_callB (call_len_seqK (K := K) rfl) (by rfl) T.len_ bb_len (pa_cons (pv 4) pa_nil)) (pa_cons (pe_int) pa_nil))) pa_nil))))
        (pss_cons (ps_asg (pe_ix ix_list (pv 4) (pv 6) (fun _ _ => rfl)) (pg_tup rfl (pgs_cons (pg_name (i := 7) nd rfl (Or.inl rfl)) (pgs_cons (pg_name (i := 8) nd rfl (Or.inl rfl)) (pgs_cons (pg_name (i := 9) nd rfl (Or.inl rfl)) pgs_nil)))))
        (pss_cons (ps_par (i := 10) (j := 11) rfl nd rfl rfl (by decide) rfl rfl (pa_cons (C8.pe_c c__law_take hr (by decide) (by rfl) (pa_cons (pv 0) (pa_cons (pv 9) pa_nil))) (pa_cons (C8.pe_c c__law_take hr (by decide) (by rfl) (pa_cons (pv 0) (pa_cons (pe_callB call_len_str (by rfl) T.len_ bb_len (pa_cons (pv 7) pa_nil)) pa_nil))) pa_nil)) (by first | rfl | decide +kernel))
        (pss_cons (ps_set (i := 12) nd rfl (Or.inl rfl) (pe_op op_cat (pe_slice sl_list (pv 4) po_none (po_some (pv 6))) (pe_op op_rep (pe_lst (pa_cons (pe_tup (pa_cons (pv 7) (pa_cons (pv 8) (pa_cons (pv 10) pa_nil)))) pa_nil)) (pe_callTy call_int1 (by rfl) T.int_ bt_int (pa_cons (pe_cmpR op_gt (pv 10) (pe_int) (nomark _)) pa_nil)))))
        (pss_cons (ps_set (i := 12) nd rfl (Or.inl rfl) (pe_op op_cat (pv 12) (pe_op op_rep (pe_lst (pa_cons (pe_tup (pa_cons (pe_slice sl_str (pv 7) po_none (po_some (pv 11))) (pa_cons (pe_slice sl_tupA (pv 8) po_none (po_some (pv 11))) (pa_cons (pe_int) pa_nil)))) pa_nil)) (pe_callTy call_int1 (by rfl) T.int_ bt_int (pa_cons (pe_cmpR op_gt (pv 11) (pe_int) (nomark _)) pa_nil)))))
        (pss_cons (ps_set (i := 13) nd rfl (Or.inl rfl) (pe_callB (cr_sum rfl) (by rfl) T.sum_ bb_sum (pa_cons (pe_lc (own := [("_law_row", 15)]) (g := gName 15) (tt := tYes) rfl nd (pi_list (pv 12)) (blkOk_by (N := N__law_course_right) (sc := C8.fnScope st__law_course_right) (by decide +kernel))
          (fun _ _ _ _ _ => pg_name (i := 15) nd rfl (Or.inl rfl)) (fun _ _ _ _ _ => pts_nil)
          (fun _ _ _ _ _ => pe_op op_mul (pe_callB call_len_str (by rfl) T.len_ bb_len (pa_cons (pe_ix (ix_tupK (K := K) rfl) (pv 15) (pe_int) (fun _ _ => rfl)) pa_nil)) (pe_ix (ix_tupK (K := K) rfl) (pv 15) (pe_int) (fun _ _ => rfl)))) pa_nil)))
        (pss_cons (ps_set (i := 14) nd rfl (Or.inl rfl) (pe_ix ix_tup (C8.pe_c c_play_course hr (by decide) (by rfl) (pa_cons (pv 1) (pa_cons (pv 12) pa_nil))) (pe_int) (fun _ _ => rfl)))
        (pss_one (ps_if (pt_cmpR op_notIn_seq (pe_ix ix_tup (pv 8) (pv 11) (fun _ _ => rfl)) (C8.pe_c c_best_first_picks hr (by decide) (by rfl) (pa_cons (pv 14) (pa_cons (pv 2) (pa_cons (C8.pe_c c_rest_of hr (by decide) (by rfl) (pa_cons (pv 3) (pa_cons (pv 13) pa_nil))) pa_nil)))) (by rfl))
          (pss_one (ps_ret (pe_bl)))
          (pss_nil)))))))))))
      (pss_one (ps_ret (pe_bl)))), ?_⟩
    have hTs : (expB bs).length = cs.sum := by rw [expB_len, hsum]
    refine ⟨u, rfl, l, rfl, v, rfl, u, l, v, cs, L, bs, rfl, hu, hl, hv, h60, hL, hw, hsum, fun crs rs H1 s1 hcrs hwc hexp => ?_⟩
    have hElen : (expR rs).length = cs.sum := by rw [hexp, List.length_reverse, E_len (wl_has hL) rfl hTs, hTs]
    have d1 := Dr.of hs s1
    have hcrs' := hcrs
    obtain ⟨ac, xs, rfl, hac, hxs⟩ := hcrs
    have hxl : xs.length = rs.length := hxs.1
    have h1000 : rs.length ≤ 1000 := hwc.1
    refine ⟨.ref ac, rfl, ac, _, rfl, .inl (SqL.of hac), 3, (xs.length : Int), rfl, rfl, .inl ⟨by decide, by decide⟩, 6, _, rfl, _, rfl, ?_, ?_, ?_⟩
    · split <;> omega
    · split <;> omega
    refine for_it (walk_range (lo := 0)) (fun i σ H' => Dr a H1 H' ∧ ∃ z5 z6 z7 z8 z9 z10 z11 z12 z13 z14 z15, σ = [some (.ref a), some u, some l, some v, some (.ref ac), z5, z6, z7, z8, z9, z10, z11, z12, z13, z14, z15]) ⟨Dr.refl d1.2, _, _, _, _, _, _, _, _, _, _, _, rfl⟩ (fun i σ H' _ p => trivial) (fun i x σ H2 H' hi pp y => ?_) (fun σ H' pp => ?_)
    · obtain ⟨d2, z5, z6, z7, z8, z9, z10, z11, z12, z13, z14, z15, rfl⟩ := pp
      obtain ⟨rfl, rfl⟩ := y
      have hpos : 0 < rs.length := by
        split at hi <;> omega
      have d12 := d1.trans d2
      obtain ⟨ac', xs', ec, hac2, hxs2⟩ := hcrs'.dr d1.2 d2
      cases ec
      have hxl2 : xs'.length = rs.length := hxs2.1
      refine ⟨.ref a, rfl, .ref ac, rfl, ac, _, rfl, .inl (SqL.of hac2), (xs'.length : Int), 900, rfl, a, min rs.length 900, ?_, d2.2, by omega, Nat.lt_of_le_of_lt (Nat.min_le_right _ _) (by decide), fun at_ H3 hat d3 => ?_⟩
      · show [V.ref a, V.int (if (900 : Int) < (xs'.length : Int) then 900 else (xs'.length : Int))] = [V.ref a, vN (min rs.length 900)]
        unfold vN
        congr 3
        split <;> omega
      have hatr : at_ < rs.length := by omega
      have hat9 : at_ ≤ 900 := by omega
      obtain ⟨⟨t, ks, n⟩, er⟩ : ∃ r, rs[at_]? = some r := ⟨_, List.getElem?_eq_getElem hatr⟩
      have hwr := hwc.2 _ (List.mem_of_getElem? er)
      obtain ⟨w1, w2, w3, w4, w5⟩ := id hwr
      have w1 : 1 ≤ t.length := w1
      have w2 : t.length ≤ 20 := w2
      have w3 : ks.length = t.length := w3
      have w5 : 1 ≤ n := w5
      have hnb : n ≤ cs.sum := by
        rw [← hElen]
        exact expR_times rs hwc.2 _ (List.mem_of_getElem? er)
      have hline : (txt t).length ≤ sizeLine := line (by rw [txt_len]; omega)
      have d23 := d2.trans d3
      obtain ⟨ac', xs3, ec, hac3, hxs3⟩ := hcrs'.dr d1.2 d23
      cases ec
      obtain ⟨x0, ex0, ra, kb, rfl, hra, hkb⟩ := hxs3.get er
      have hra : H3 ra = some (.tup [.str (txt t), .ref kb, vN n]) := hra
      have hkb : Rd H3 kb (.tup (ks.map vN)) := hkb
      refine ⟨.ref ac, rfl, vN at_, rfl, ac, _, (at_ : Int), _, rfl, rfl, SqL.of hac3, atI_nat ex0, ra, _, rfl, SqT.of hra, rfl, _, _, rfl, _, _, rfl, _, _, rfl, rfl, ?_⟩
      refine ⟨.ref a, rfl, vN n, rfl, a, n, rfl, d3.2, w5, Nat.lt_of_le_of_lt hnb hbig, fun dn H4 hdn d4 => ?_⟩
      refine ⟨.ref a, rfl, .str (txt t), rfl, txt t, rfl, hline, a, t.length, by rw [txt_len]; rfl, d4.2, w1, Nat.lt_of_le_of_lt w2 (by decide), fun pl H5 hpl d5 => ⟨_, _, rfl, ?_⟩⟩
      have d35 := d4.trans d5
      have d15 := d23.trans d35
      obtain ⟨ac', xs5, ec, hac5, hxs5⟩ := hcrs'.dr d1.2 d15
      cases ec
      have hxl5 : xs5.length = rs.length := hxs5.1
      have hkb5 : Rd H5 kb (.tup (ks.map vN)) := (d35.tp d3.2).rd hkb
      refine ⟨.ref ac, rfl, vN at_, rfl, (at_ : Int), rfl, ac, _, rfl, SqL.of hac5, fun p1 n1 => ?_⟩
      have e1 : cutV xs5 none (some (at_ : Int)) = xs5.take at_ := cut_hi xs5 at_
      have r1 := same_new (o := .lst (cutV xs5 none (some (at_ : Int)))) n1
      refine ⟨.str (txt t), rfl, .ref kb, rfl, vN dn, rfl, (show 3 ≤ sizeLine from line (by decide)), fun q1 m1 => ⟨(show 1 ≤ sizeLine from line (by decide)), fun q2 m2 => ?_⟩⟩
      refine ⟨vN dn, rfl, (dn : Int), 0, rfl, rfl, .inr ⟨decide ((0 : Int) < (dn : Int)), rfl, q2, (if decide ((0 : Int) < (dn : Int)) = true then 1 else 0), [.ref q1], rfl, rfl, upd_same, (rep_small _).1, (rep_small _).2.1, (rep_small _).2.2 _, fun q3 m3 => ?_⟩⟩
      rw [rep_bl]
      have r2 := same_new (o := .tup [.str (txt t), .ref kb, vN dn]) m1
      have r3 := same_new (o := .lst [.ref q1]) m2
      have r4 := same_new (o := .lst (if decide ((0 : Int) < (dn : Int)) = true then [.ref q1] else [])) m3
      have hq1 := (r3.trans r4) _ _ (upd_same (H := upd H5 p1 (.lst (cutV xs5 none (some (at_ : Int))))) (a := q1) (o := .tup [.str (txt t), .ref kb, vN dn]))
      have hp1 := ((r2.trans r3).trans r4) _ _ (upd_same (H := H5) (a := p1) (o := .lst (cutV xs5 none (some (at_ : Int)))))
      have r14 := ((r1.trans r2).trans r3).trans r4
      refine ⟨p1, q3, _, _, rfl, rfl, hp1, upd_same, ?_, fun q4 m4 => ?_⟩
      · rw [e1, List.length_take]
        split <;> exact line (by simp; omega)
      have r5 := same_new (o := .lst (cutV xs5 none (some (at_ : Int)) ++ if decide ((0 : Int) < (dn : Int)) = true then [.ref q1] else [])) m4
      have hd : All2 (RowR H5) (cutV xs5 none (some (at_ : Int))) (rs.take at_) := by
        rw [e1]
        exact hxs5.take at_
      have hx10 := all2_rl (hd.mono fun _ _ z => (z.mono r14).mono r5) (b := (t, ks, dn)) ⟨q1, kb, rfl, r5 _ _ hq1, (r14.trans r5).tp.rd hkb5⟩ (decide ((0 : Int) < (dn : Int)))
      have r15 := r14.trans r5
      have e10 := upd_same (H := upd (upd (upd (upd H5 p1 (.lst (cutV xs5 none (some (at_ : Int))))) q1 (.tup [.str (txt t), .ref kb, vN dn])) q2 (.lst [.ref q1])) q3 (.lst (if decide ((0 : Int) < (dn : Int)) = true then [.ref q1] else []))) (a := q4) (o := .lst (cutV xs5 none (some (at_ : Int)) ++ if decide ((0 : Int) < (dn : Int)) = true then [.ref q1] else []))
      generalize upd (upd (upd (upd (upd H5 p1 (.lst (cutV xs5 none (some (at_ : Int))))) q1 (.tup [.str (txt t), .ref kb, vN dn])) q2 (.lst [.ref q1])) q3 (.lst (if decide ((0 : Int) < (dn : Int)) = true then [.ref q1] else []))) q4 (.lst (cutV xs5 none (some (at_ : Int)) ++ if decide ((0 : Int) < (dn : Int)) = true then [.ref q1] else [])) = H10 at *
      have hkb10 := r15.tp.rd hkb5
      have d10 := d15.same r15
      refine ⟨.ref q4, rfl, .str (txt t), rfl, vN pl, rfl, (pl : Int), rfl, txt t, rfl, hline, .ref kb, rfl, vN pl, rfl, (pl : Int), rfl, ?_⟩
      refine slR hkb10 fun c5 H11 s11 h11 => ?_
      rw [cut_hi] at h11
      refine ⟨(show 3 ≤ sizeLine from line (by decide)), fun q5 m5 => ⟨(show 1 ≤ sizeLine from line (by decide)), fun q6 m6 => ?_⟩⟩
      refine ⟨vN pl, rfl, (pl : Int), 0, rfl, rfl, .inr ⟨decide ((0 : Int) < (pl : Int)), rfl, q6, (if decide ((0 : Int) < (pl : Int)) = true then 1 else 0), [.ref q5], rfl, rfl, upd_same, (rep_small _).1, (rep_small _).2.1, (rep_small _).2.2 _, fun q7 m7 => ?_⟩⟩
      rw [rep_bl]
      have g5 := same_new (o := .tup [V.str (cutS (txt t) none (some (pl : Int))), .ref c5, .int 1]) m5
      have g6 := same_new (o := .lst [.ref q5]) m6
      have g7 := same_new (o := .lst (if decide ((0 : Int) < (pl : Int)) = true then [.ref q5] else [])) m7
      have hq5 := (g6.trans g7) _ _ (upd_same (H := H11) (a := q5) (o := .tup [V.str (cutS (txt t) none (some (pl : Int))), .ref c5, .int 1]))
      have g57 := (g5.trans g6).trans g7
      have g17 := s11.trans g57
      refine ⟨q4, q7, _, _, rfl, rfl, g17 _ _ e10, upd_same, ?_, fun q8 m8 => ?_⟩
      · rw [e1, List.length_append, List.length_take]
        split <;> split <;> exact line (by simp; omega)
      have g8 := same_new (o := .lst ((cutV xs5 none (some (at_ : Int)) ++ if decide ((0 : Int) < (dn : Int)) = true then [.ref q1] else []) ++ if decide ((0 : Int) < (pl : Int)) = true then [.ref q5] else [])) m8
      have hx14 := all2_rl (hx10.mono fun _ _ z => (z.mono g17).mono g8) (b := (t.take pl, ks.take pl, 1)) ⟨q5, c5, rfl, (g8 _ _ hq5).trans (by rw [cutS_hi]; rfl), (g57.trans g8).tp.rd (by rw [List.map_take]; exact h11)⟩ (decide ((0 : Int) < (pl : Int)))
      have e14 := upd_same (H := upd (upd (upd H11 q5 (.tup [V.str (cutS (txt t) none (some (pl : Int))), .ref c5, .int 1])) q6 (.lst [.ref q5])) q7 (.lst (if decide ((0 : Int) < (pl : Int)) = true then [.ref q5] else []))) (a := q8) (o := .lst ((cutV xs5 none (some (at_ : Int)) ++ if decide ((0 : Int) < (dn : Int)) = true then [.ref q1] else []) ++ if decide ((0 : Int) < (pl : Int)) = true then [.ref q5] else []))
      have g18 := g17.trans g8
      have d14 := d10.same g18
      have hkb14 := g18.tp.rd hkb10
      generalize upd (upd (upd (upd H11 q5 (.tup [V.str (cutS (txt t) none (some (pl : Int))), .ref c5, .int 1])) q6 (.lst [.ref q5])) q7 (.lst (if decide ((0 : Int) < (pl : Int)) = true then [.ref q5] else []))) q8 (.lst ((cutV xs5 none (some (at_ : Int)) ++ if decide ((0 : Int) < (dn : Int)) = true then [.ref q1] else []) ++ if decide ((0 : Int) < (pl : Int)) = true then [.ref q5] else [])) = H14 at *
      have ea : ((rs.take at_ ++ if decide ((0 : Int) < (dn : Int)) = true then [(t, ks, dn)] else []) ++ if decide ((0 : Int) < (pl : Int)) = true then [(t.take pl, ks.take pl, 1)] else []) = aheadR rs at_ t ks dn pl := by
        unfold aheadR
        have c1 : (decide ((0 : Int) < (dn : Int)) = true) = (0 < dn) := by rw [decide_eq_true_iff]; exact propext (by omega)
        have c2 : (decide ((0 : Int) < (pl : Int)) = true) = (0 < pl) := by rw [decide_eq_true_iff]; exact propext (by omega)
        simp only [c1, c2]
      rw [ea] at hx14
      generalize ((cutV xs5 none (some (at_ : Int)) ++ if decide ((0 : Int) < (dn : Int)) = true then [V.ref q1] else []) ++ if decide ((0 : Int) < (pl : Int)) = true then [V.ref q5] else []) = ys at *
      have hWA : WC cs.length (aheadR rs at_ t ks dn pl) := ahead_ok hwc.2 hwr hat9 hpl
      obtain ⟨cut1, cut2⟩ := course_cut er w3 hdn hpl
      rw [← ahead_exp rs at_ t ks dn pl] at cut1
      have hmlen : (expR (aheadR rs at_ t ks dn pl)).length = (expR (rs.take at_)).length + dn * t.length + pl := by
        have hz : (t.zip ks).length = t.length := by rw [List.length_zip]; omega
        rw [ahead_exp, List.length_append, List.length_append, rep_len dn hz, List.length_take, hz]
        omega
      rw [← hmlen] at cut1 cut2
      generalize hA : aheadR rs at_ t ks dn pl = A at *
      have hyl : ys.length = A.length := hx14.1
      have hA1000 : A.length ≤ 1000 := hWA.1
      refine ⟨.ref q8, rfl, q8, rfl, ⟨_, SqL.of e14⟩, fun D hD => ?_⟩
      refine lc_same (walk_list (K := K) (a := q8) (xs := ys)) (fun i v _ => ∃ r, A[i]? = some r ∧ v = vN (r.1.length * r.2.2)) (by omega) hD (fun _ _ _ _ _ e => e) (fun H' s => SqL.of (s _ _ e14)) (fun i x H6 H' kk hi s y hkk => ?_) (fun H15 acc s15 eD el eE => ?_)
      · obtain ⟨rfl, hxi⟩ := y
        obtain ⟨r, er2, rr⟩ := hx14.getV hxi
        obtain ⟨c, kb2, rfl, hc, hkb2⟩ := rr.mono s
        obtain ⟨g1, g2, g3, g4, g5⟩ := hWA.2 _ (List.mem_of_getElem? er2)
        refine ⟨rfl, ?_⟩
        refine ⟨_, rfl, c, _, 0, _, rfl, rfl, SqT.of hc, atI_nat (j := 0) rfl, txt r.1, rfl, line (by rw [txt_len]; omega), _, rfl, c, _, 2, _, rfl, rfl, SqT.of hc, atI_nat (j := 2) rfl, ((txt r.1).length : Int), (r.2.2 : Int), rfl, rfl, .inl ⟨by omega, by rw [txt_len]; omega⟩, hkk _ _ (Same.refl _) ⟨r, er2, ?_⟩⟩
        unfold vN
        rw [txt_len, Int.natCast_mul]
      · have eacc : acc = (A.map fun r => r.1.length * r.2.2).map vN := by
          refine List.ext_getElem? fun i => ?_
          by_cases hi : i < acc.length
          · obtain ⟨b, eb, ev⟩ := eE i _ (List.getElem?_eq_getElem hi)
            rw [List.getElem?_eq_getElem hi, ev, List.getElem?_map, List.getElem?_map, eb]
            rfl
          · rw [List.getElem?_eq_none (by omega), List.getElem?_eq_none (by simp; omega)]
        refine ⟨D, (A.map fun r => r.1.length * r.2.2).map zi, rfl, ?_, ?_⟩
        · rw [ints_map, ← eacc]
          exact SqL.of eD
        rw [sum_int, ← expR_len A fun r hr => (hWA.2 r hr).2.2.1]
        have d16 := d14.same s15
        have d016 := d1.trans d16
        have hu16 : TupN H15 u cs := hu.tp (d016.tp hs)
        have hcA : CrsR H15 (.ref q8) A := ⟨q8, ys, rfl, s15 _ _ e14, hx14.mono fun _ _ z => z.mono s15⟩
        have hbagA : ∀ k, bag (expR A) k ≤ fn cs k := fun k => by
          rw [← cut1]
          have h1 := E_bag (wl_has hL) (cs := cs) rfl hTs k
          rw [← bag_reverse, ← hexp, bag_count] at h1
          rw [bag_count]
          have h2 := count_take_le (expR rs) (expR A).length (true, k)
          have h3 := count_take_le (expR rs) (expR A).length (false, k)
          omega
        refine ⟨u, rfl, .ref q8, rfl, u, .ref q8, cs, A, rfl, hu16, hcA, h60, hWA, hbagA, fun pg x y z H16 s16 hpg hx hy hz => ?_⟩
        refine ⟨pg, _, 2, _, rfl, rfl, SqT.of hpg, atI_nat (j := 2) rfl, ?_⟩
        have d17 := d16.same s16
        have d017 := d1.trans d17
        have hkb17 := ((s15.trans s16).tp).rd hkb14
        have hplk : pl < ks.length := by omega
        have hkp : ks[pl]? = some ks[pl] := List.getElem?_eq_getElem hplk
        refine ⟨.ref kb, rfl, vN pl, rfl, kb, _, (pl : Int), vN ks[pl], rfl, rfl, rdT hkb17, atI_nat (at_vN hkp), ?_⟩
        have hv17 : SeqR H16 v bs := hv.dr hs d017
        have hml : (expR A).length ≤ lenB bs := by
          rw [hsum, ← hElen, ← cut1, List.length_take]
          omega
        refine ⟨z, rfl, l, rfl, v, rfl, vN (expR A).length, rfl, v, bs, (expR A).length, rfl, hv17, hw, h199, hml, fun vr bsr H17 s17 hvr hwr her => ?_⟩
        obtain ⟨fp1, fp2⟩ := firsts_place (wl_has hL) (cs := cs) (K := cs.length) rfl hTs (m := (expR A).length) (x := (t[pl], ks[pl])) (by
          rw [← hexp, cut2]
          rw [List.getElem?_zip_eq_some]
          exact ⟨List.getElem?_eq_getElem hpl, hkp⟩)
        rw [← hexp, cut1] at fp1 fp2
        have hz17 := hz.mono s17
        have d18 := d17.same s17
        have d018 := d1.trans d18
        have hsl := subl_len cs (bag (expR A))
        refine ⟨z, l, vr, subl cs (bag (expR A)), L, bsr, rfl, hz17, hl.tp (d018.tp hs), hvr, by omega, by rw [hsl]; exact hL, hwr, by rw [← expB_len, her]; exact fp2, fun told H18 s18 htold => ?_⟩
        rw [hsl, her] at htold
        have e5 : inV (vN ks[pl]) ((firsts cs.length (subl cs (bag (expR A))) L ((expB bs).drop (expR A).length)).map vN) = true := by
          rw [inV_nat]
          exact decide_eq_true fp1
        refine ⟨told, _, rfl, .inl (SqL.of htold), rfl, flat_nats _, false, ?_, d18.same s18, _, _, _, _, _, _, _, _, _, _, _, rfl⟩
        show V.bl (!inV (vN ks[pl]) ((firsts cs.length (subl cs (bag (expR A))) L ((expB bs).drop (expR A).length)).map vN)) = V.bl false
        rw [e5]
        rfl
    · obtain ⟨d2, z5, z6, z7, z8, z9, z10, z11, z12, z13, z14, z15, rfl⟩ := pp
      exact q _ (d1.trans d2)
end
end TG
namespace TG
open PySem PySem.Spec PyProof.Rows L2 TGZ
abbrev st__law_renamed_right : Stmt := topS 73
abbrev N__law_renamed_right : List Str := ["_law_source_here", "_law_supply_here", "_law_lists_here", "_law_blocks_here", "_law_due", "_law_table", "_law_moved", "_law_named", "_law_more", "_law_letters", "_law_times_here", "_law_places", "_law_first", "_law_second", "_law_told", "_law_k", "_law_row", "_law_one"]
theorem sc__law_renamed_right : FnScope N__law_renamed_right ["_law_source_here", "_law_supply_here", "_law_lists_here", "_law_blocks_here"] (C8.fnScope st__law_renamed_right) := C8.fnScope_by (by decide +kernel)
/-- the block's scope around the inner comprehension -/
abbrev rowScope : Scope := { kind := .function, names := [(".0", .local), ("_law_row", .local), ("tuple", .globalImplicit), ("_law_table", .cell)], isGenerator := false, isCoroutine := false }
theorem pi_tupK {X : Cx} {K : PySem.W.Frag} {tg l : Expr} {tl : TE} (h : X.K = K) (hl : PE X l tl) : PI X tg l (iTup K tl) := h ▸ pi_tup hl
/-! ### a table of new names -/
theorem first_at : ∀ (tb : List Nat) (k : Nat), k ∈ tb → ∃ j : Nat, tb[j]? = some k ∧ ∀ (m z : Nat), m < j → tb[m]? = some z → z ≠ k
  | [], k, h => by cases h
  | x :: tb, k, h => by
    by_cases e : x = k
    · exact ⟨0, by rw [e]; rfl, fun m z hm => absurd hm (Nat.not_lt_zero _)⟩
    · obtain ⟨j, h1, h2⟩ := first_at tb k (by rcases List.mem_cons.mp h with z | z; exact absurd z.symm e; exact z)
      refine ⟨j + 1, by simpa using h1, fun m z hm hz => ?_⟩
      cases m with
      | zero => rw [← Option.some.inj hz]; exact e
      | succ m => exact h2 m z (by omega) (by simpa using hz)
/-- where a name stands in the table -/
noncomputable def plc (tb : List Nat) (k : Nat) : Nat := by
  classical
  exact if h : k ∈ tb then (first_at tb k h).choose else 0
theorem plc_at {tb : List Nat} {k : Nat} (h : k ∈ tb) : tb[plc tb k]? = some k ∧ ∀ (m z : Nat), m < plc tb k → tb[m]? = some z → z ≠ k := by
  unfold plc
  rw [dif_pos h]
  exact (first_at tb k h).choose_spec
section
variable {K : Nat} {tb : List Nat}
theorem tb_len (h : tb.Perm (List.range K)) : tb.length = K := by rw [h.length_eq, List.length_range]
theorem tb_mem (h : tb.Perm (List.range K)) {k : Nat} : k ∈ tb ↔ k < K := by rw [h.mem_iff, List.mem_range]
theorem tb_inj (h : tb.Perm (List.range K)) (a b : Nat) (ha : a < K) (hb : b < K) (e : fn tb a = fn tb b) : a = b := by
  have hl := tb_len h
  have nd : tb.Nodup := h.nodup_iff.mpr List.nodup_range
  rw [fn_lt (by omega), fn_lt (by omega)] at e
  have pw := List.pairwise_iff_getElem.mp nd
  rcases Nat.lt_trichotomy a b with z | z | z
  · exact absurd e (pw a b (by omega) (by omega) z)
  · exact z
  · exact absurd e.symm (pw b a (by omega) (by omega) z)
theorem plc_lt (h : tb.Perm (List.range K)) {k : Nat} (hk : k < K) : plc tb k < K ∧ fn tb (plc tb k) = k := by
  obtain ⟨h1, _⟩ := plc_at ((tb_mem h).mpr hk)
  obtain ⟨h2, h3⟩ := List.getElem?_eq_some_iff.mp h1
  have hl := tb_len h
  exact ⟨by omega, by rw [fn_lt h2]; exact h3⟩
theorem plc_fn (h : tb.Perm (List.range K)) {j : Nat} (hj : j < K) : plc tb (fn tb j) = j := by
  have hl := tb_len h
  have hm : fn tb j < K := by
    rw [← tb_mem h, fn_lt (by omega)]
    exact List.getElem_mem _
  obtain ⟨h1, h2⟩ := plc_lt h hm
  exact tb_inj h _ _ h1 hj h2
theorem map_fn (cs : List Nat) : (List.range cs.length).map (fn cs) = cs := by
  refine List.ext_getElem (by simp) fun i h1 h2 => ?_
  rw [List.getElem_map, List.getElem_range, fn_lt h2]
/-- the supply under the new names -/
noncomputable def movd (tb cs : List Nat) : List Nat := (List.range cs.length).map fun k => fn cs (plc tb k)
theorem movd_fn {cs : List Nat} (h : tb.Perm (List.range cs.length)) {k : Nat} (hk : k < cs.length) : fn (movd tb cs) (fn tb k) = fn cs k := by
  have hm : fn tb k < cs.length := by
    rw [← tb_mem h, fn_lt (by rw [tb_len h]; exact hk)]
    exact List.getElem_mem _
  unfold movd
  rw [fn_map hm, plc_fn h hk]
theorem movd_len (tb cs : List Nat) : (movd tb cs).length = cs.length := by simp [movd]
theorem perm_sum {a b : List Nat} (h : a.Perm b) : a.sum = b.sum := by
  induction h with
  | nil => rfl
  | cons x _ ih => rw [List.sum_cons, List.sum_cons, ih]
  | swap x y l => rw [List.sum_cons, List.sum_cons, List.sum_cons, List.sum_cons]; omega
  | trans _ _ i1 i2 => rw [i1, i2]
theorem movd_sum {cs : List Nat} (h : tb.Perm (List.range cs.length)) : (movd tb cs).sum = cs.sum := by
  have h1 : (movd tb cs).Perm (tb.map fun k => fn cs (plc tb k)) := (h.symm.map _)
  rw [perm_sum h1]
  congr 1
  refine List.ext_getElem (by rw [List.length_map, tb_len h]) fun i h2 h3 => ?_
  rw [List.getElem_map]
  have : tb[i]'(by simpa using h2) = fn tb i := (fn_lt _).symm
  rw [this, plc_fn h h3, fn_lt h3]
theorem named_ok {L : Bool → List Nat} (h : tb.Perm (List.range K)) (hL : WL K L) : WL K (fun p => (L p).map (fn tb)) := fun p => by
  refine ((hL p).map (fn tb)).trans ?_
  have : (List.range K).map (fn tb) = tb := by rw [← tb_len h]; exact map_fn tb
  rw [this]
  exact h
/-- the end of the renamed game -/
theorem renamed_end {cs : List Nat} {L : Bool → List Nat} (h : tb.Perm (List.range cs.length)) (hL : WL cs.length L) (T : List Bool) (p : Bool) :
    endL (movd tb cs) (fun p => (L p).map (fn tb)) T p = (List.range cs.length).map fun k => fn (endL cs L T p) (plc tb k) := by
  have hE := E_rename (wl_has hL) (f := fn tb) (fun a b ha hb e => tb_inj h a b ha hb e) (cs := cs) (cs' := movd tb cs) (T := T) (fun k hk => movd_fn h hk)
  show bun (movd tb cs).length p (TG.E (movd tb cs) (fun p => (L p).map (fn tb)) T) = (List.range cs.length).map fun k => fn (bun cs.length p (TG.E cs L T)) (plc tb k)
  rw [hE, movd_len]
  unfold bun
  refine List.map_congr_left fun k hk => ?_
  have hk := List.mem_range.mp hk
  obtain ⟨h1, h2⟩ := plc_lt h hk
  have hc := count_rename (f := fn tb) (fun a b ha hb e => tb_inj h a b ha hb e) (ps := TG.E cs L T) (fun x hx => E_kinds (wl_has hL) hx) (p := p) h1
  rw [h2] at hc
  rw [hc]
  exact (fn_bun h1).symm
end
/-- each block as two -/
def morB (b : Blk) : List Blk := (if 1 < b.2 then [(b.1, b.2 - 1)] else []) ++ [(b.1, 1)]
theorem morB_exp (b : Blk) (h : WB b) : expB (morB b) = (List.replicate b.2 b.1).flatten := by
  obtain ⟨t, n⟩ := b
  obtain ⟨w1, w2, w3⟩ := h
  have w3 : 1 ≤ n := w3
  unfold morB
  rw [expB_append, expB_one]
  have e : expB (if 1 < n then [(t, n - 1)] else []) = (List.replicate (n - 1) t).flatten := by
    split
    · rw [expB_one]
    · rw [show n - 1 = 0 by omega]
      rfl
  rw [e]
  obtain ⟨m, rfl⟩ : ∃ m, n = m + 1 := ⟨n - 1, by omega⟩
  show (List.replicate m t).flatten ++ (List.replicate 1 t).flatten = (List.replicate (m + 1) t).flatten
  rw [← List.flatten_append, List.replicate_append_replicate]
theorem mor_exp : ∀ (bs : List Blk), (∀ b ∈ bs, WB b) → expB (bs.flatMap morB) = expB bs
  | [], _ => rfl
  | b :: bs, h => by
    rw [List.flatMap_cons, expB_append, mor_exp bs fun x hx => h x (List.mem_cons_of_mem _ hx), morB_exp b (h b List.mem_cons_self), expB_cons]
theorem morB_len (b : Blk) : (morB b).length ≤ 2 := by
  unfold morB
  split <;> simp
theorem mor_len : ∀ (bs : List Blk), (bs.flatMap morB).length ≤ 2 * bs.length
  | [] => Nat.le_refl _
  | b :: bs => by
    rw [List.flatMap_cons, List.length_append, List.length_cons]
    have := mor_len bs
    have := morB_len b
    omega
theorem mor_ok {bs : List Blk} (h : ∀ b ∈ bs, WB b) : ∀ b ∈ bs.flatMap morB, WB b := fun b hb => by
  obtain ⟨c, hc, hb⟩ := List.mem_flatMap.mp hb
  obtain ⟨w1, w2, w3⟩ := h c hc
  unfold morB at hb
  rcases List.mem_append.mp hb with hb | hb
  · split at hb
    · rename_i q
      rw [List.mem_singleton.mp hb]
      exact ⟨w1, w2, by show 1 ≤ c.2 - 1; omega⟩
    · cases hb
  · rw [List.mem_singleton.mp hb]
    exact ⟨w1, w2, Nat.le_refl _⟩
theorem mor_take {bs : List Blk} {i : Nat} {b : Blk} (h : bs[i]? = some b) : (bs.take (i + 1)).flatMap morB = (bs.take i).flatMap morB ++ morB b := by
  rw [take_snoc h, List.flatMap_append]
  simp
theorem index_at {tb : List Nat} {k : Nat} (h : k ∈ tb) : (tb.map vN)[plc tb k]? = some (vN k) ∧ eqV (vN k) (vN k) = true ∧ ∀ (m : Nat) (z' : V), m < plc tb k → (tb.map vN)[m]? = some z' → eqV z' (vN k) = false := by
  obtain ⟨h1, h2⟩ := plc_at h
  refine ⟨at_vN h1, by show ((k : Int) == (k : Int)) = true; simp, fun m z' hm hz => ?_⟩
  obtain ⟨n, hn, rfl⟩ := get_vN hz
  have := h2 m n hm hn
  show ((n : Int) == (k : Int)) = false
  rw [beq_eq_false_iff_ne]
  omega
section
variable {P : Program} {w : World} {K : PySem.W.Frag} {mg : Str → Option Value} {base : Heap}
def sp__law_renamed_right : Sp := fun vs H Q _ => ∃ (a : Addr) (u l v : V) (cs : List Nat) (L : Bool → List Nat) (bs : List Blk), vs = [.ref a, u, l, v] ∧ SrcAt a H ∧ TupN H u cs ∧ LsR H l L ∧ SeqR H v bs ∧ cs.length ≤ 60 ∧ WL cs.length L ∧ WS bs ∧ bs.length ≤ 100 ∧ lenB bs = cs.sum ∧ ∀ H', Dr a H H' → Q (.bl true) H'
theorem ok__law_renamed_right (T : Blt K mg) (dF : Df K mg "_law_renamed_right" st__law_renamed_right ["_law_source_here", "_law_supply_here", "_law_lists_here", "_law_blocks_here"]) (c_end_of : C8.Cal P w K mg base 7 "end_of" sp_end_of []) (c__law_shuffled : C8.Cal P w K mg base 2 "_law_shuffled" sp__law_shuffled []) : C8.Cal P w K mg base 8 "_law_renamed_right" sp__law_renamed_right [] := by
  have nd := sc__law_renamed_right.nd
  refine cal_of dF sc__law_renamed_right (fun vs H Q E h => ?_) (fun cdv A outer s H vs Q E hr h => ?_)
  · obtain ⟨a, u, l, v, cs, L, bs, rfl, _⟩ := h
    rfl
  · obtain ⟨a, u, l, v, cs, L, bs, rfl, hs, hu, hl, hv, h60, hL, hw, h100, hsum, q⟩ := h
    refine ⟨_, pss_cons (ps_set (i := 4) nd rfl (Or.inl rfl) (C8.pe_c c_end_of hr (by decide) (by rfl) (pa_cons (pv 1) (pa_cons (pv 2) (pa_cons (pv 3) pa_nil)))))
      (pss_cons (ps_set (i := 5) nd rfl (Or.inr rfl) (C8.pe_c c__law_shuffled hr (by decide) (by rfl) (pa_cons (pv 0) (pa_cons (pe_listRg rfl (by rfl) T.list_ (prg_1 (by rfl) T.range_ (pe_callB (call_len_seqK (K := K) rfl) (by rfl) T.len_ bb_len (pa_cons (pv 1) pa_nil)))) pa_nil))))
      (pss_cons (ps_set (i := 6) nd rfl (Or.inl rfl) (pe_callTy (call_tuple_ofK (K := K) rfl) (by rfl) T.tuple_ bt_tuple (pa_cons (pe_lc (own := [("_law_k", 15)]) (g := gName 15) (tt := tYes) rfl nd (pi_range1 (by rfl) T.range_ (pa_cons (pe_callB (call_len_seqK (K := K) rfl) (by rfl) T.len_ bb_len (pa_cons (pv 1) pa_nil)) pa_nil)) (blkOk_by (N := N__law_renamed_right) (sc := C8.fnScope st__law_renamed_right) (by decide +kernel))
        (fun _ _ _ _ _ => pg_name (i := 15) nd rfl (Or.inl rfl)) (fun _ _ _ _ _ => pts_nil)
        (fun _ _ _ _ _ => pe_ix (ix_tupK (K := K) rfl) (pv 1) (pe_toK (K := K) rfl (pe_bm PySem.F.plainAttrs_list PySem.F.slot_list_index PySem.F.type_list_index (mt_indexK (K := K) rfl) (pv 5) (pa_cons (pv 15) pa_nil))) (fun _ _ => rfl))) pa_nil)))
      (pss_cons (ps_set (i := 7) nd rfl (Or.inl rfl) (pe_callTy (call_tuple_ofK (K := K) rfl) (by rfl) T.tuple_ bt_tuple (pa_cons (pe_lc (own := [("_law_row", 16)]) (g := gName 16) (tt := tYes) rfl nd (pi_tup (pv 2)) (blkOk_by (N := N__law_renamed_right) (sc := C8.fnScope st__law_renamed_right) (by decide +kernel))
        (fun _ _ _ _ _ => pg_name (i := 16) nd rfl (Or.inl rfl)) (fun _ _ _ _ _ => pts_nil)
        (fun _ _ _ _ _ => pe_callTy (call_tuple_ofK (K := K) rfl) (by rfl) T.tuple_ bt_tuple (pa_cons (pe_lc (own := [("_law_one", 17)]) (g := gName 17) (tt := tYes) rfl nd (pi_tupK (K := K) rfl (pv 16)) (blkOk_by (N := N__law_renamed_right) (sc := rowScope) (by decide +kernel))
          (fun _ _ _ _ _ => pg_name (i := 17) nd rfl (Or.inl rfl)) (fun _ _ _ _ _ => pts_nil)
          (fun _ _ _ _ _ => pe_ix (ix_listK (K := K) rfl) (pv 5) (pv 17) (fun _ _ => rfl))) pa_nil))) pa_nil)))
      (pss_cons (ps_set (i := 8) nd rfl (Or.inl rfl) (pe_lst (pa_nil)))
      (pss_cons (ps_for PassesOwn.never rfl (pi_list (pv 3)) (pg_tup rfl (pgs_cons (pg_name (i := 9) nd rfl (Or.inl rfl)) (pgs_cons (pg_name (i := 10) nd rfl (Or.inl rfl)) pgs_nil)))
        (pss_one (ps_expr (pe_bm PySem.F.plainAttrs_list PySem.F.slot_list_extend PySem.F.type_list_extend mt_extend (pv 8) (pa_cons (pe_op op_cat (pe_op op_rep (pe_lst (pa_cons (pe_tup (pa_cons (pv 9) (pa_cons (pe_op op_sub (pv 10) (pe_int)) pa_nil))) pa_nil)) (pe_callTy call_int1 (by rfl) T.int_ bt_int (pa_cons (pe_cmpR op_gt (pv 10) (pe_int) (nomark _)) pa_nil))) (pe_lst (pa_cons (pe_tup (pa_cons (pv 9) (pa_cons (pe_int) pa_nil))) pa_nil))) pa_nil)))))
      (pss_cons (ps_setLc (i := 11) (own := [("_law_k", 15)]) (g := gName 15) (tt := tYes) rfl nd rfl rfl (sw_true rfl rfl rfl (by decide +kernel)) (pi_range1 (by rfl) T.range_ (pa_cons (pe_callB (call_len_seqK (K := K) rfl) (by rfl) T.len_ bb_len (pa_cons (pv 1) pa_nil)) pa_nil)) (blkOk_by (N := N__law_renamed_right) (sc := C8.fnScope st__law_renamed_right) (by decide +kernel))
        (fun _ _ _ _ _ => pg_name (i := 15) nd rfl (Or.inl rfl)) (fun _ _ _ _ _ => pts_nil)
        (fun _ _ _ _ _ => pe_toK (K := K) rfl (pe_bm PySem.F.plainAttrs_list PySem.F.slot_list_index PySem.F.type_list_index (mt_indexK (K := K) rfl) (pv 5) (pa_cons (pv 15) pa_nil))))
      (pss_cons (ps_asg (pv 4) (pg_tup rfl (pgs_cons (pg_name (i := 12) nd rfl (Or.inr rfl)) (pgs_cons (pg_name (i := 13) nd rfl (Or.inr rfl)) pgs_nil))))
      (pss_cons (ps_set (i := 14) nd rfl (Or.inl rfl) (C8.pe_c c_end_of hr (by decide) (by rfl) (pa_cons (pv 6) (pa_cons (pv 7) (pa_cons (pv 8) pa_nil)))))
      (pss_one (ps_ret (pe_cmpR (op_eqD hr.units) (pv 14) (pe_tup (pa_cons (pe_callTy (call_tuple_ofK (K := K) rfl) (by rfl) T.tuple_ bt_tuple (pa_cons (pe_lc (own := [("_law_k", 15)]) (g := gName 15) (tt := tYes) rfl nd (pi_list (pv 11)) (blkOk_by (N := N__law_renamed_right) (sc := C8.fnScope st__law_renamed_right) (by decide +kernel))
        (fun _ _ _ _ _ => pg_name (i := 15) nd rfl (Or.inl rfl)) (fun _ _ _ _ _ => pts_nil)
        (fun _ _ _ _ _ => pe_ix (ix_tupK (K := K) rfl) (pv 12) (pv 15) (fun _ _ => rfl))) pa_nil)) (pa_cons (pe_callTy (call_tuple_ofK (K := K) rfl) (by rfl) T.tuple_ bt_tuple (pa_cons (pe_lc (own := [("_law_k", 15)]) (g := gName 15) (tt := tYes) rfl nd (pi_list (pv 11)) (blkOk_by (N := N__law_renamed_right) (sc := C8.fnScope st__law_renamed_right) (by decide +kernel))
        (fun _ _ _ _ _ => pg_name (i := 15) nd rfl (Or.inl rfl)) (fun _ _ _ _ _ => pts_nil)
        (fun _ _ _ _ _ => pe_ix (ix_tupK (K := K) rfl) (pv 13) (pv 15) (fun _ _ => rfl))) pa_nil)) pa_nil))) (nomark _)))))))))))), ?_⟩
    refine ⟨u, rfl, l, rfl, v, rfl, u, l, v, cs, L, bs, rfl, hu, hl, hv, h60, hL, hw, hsum, fun due H1 s1 hdue => ?_⟩
    obtain ⟨au, rfl, hau⟩ := hu
    have hau1 := s1 _ _ hau
    refine ⟨.ref a, rfl, .ref au, rfl, au, _, rfl, .inr (SqT.of hau1), ((cs.map vN).length : Int), rfl, ?_, fun r hr2 => ?_⟩
    · rw [List.length_map]
      exact RgOk.of_le (by omega) (by omega) (by omega) (by omega)
    have e1 : rgV 0 ((cs.map vN).length : Int) = (List.range cs.length).map vN := by
      unfold rgV
      have : (((cs.map vN).length : Int) - 0).toNat = cs.length := by rw [List.length_map]; omega
      rw [this]
      refine List.map_congr_left fun i _ => ?_
      unfold vN
      congr 1
      omega
    rw [e1]
    have t1 := same_new (o := .lst ((List.range cs.length).map vN)) hr2
    have d1 := Dr.of hs (s1.trans t1)
    refine ⟨a, r, List.range cs.length, rfl, d1.2, upd_same, by rw [List.length_range]; omega, fun pt tb H2 d2 npt hpt htb => ?_⟩
    have d02 := d1.trans d2
    have tp02 := d02.tp hs
    have hdue2 := (hdue.tp t1.tp).tp (d2.tp d1.2)
    have hl2 := hl.tp tp02
    have hv2 := hv.dr hs d02
    have hau2 := tp02.at hau
    have hlen := tb_len htb
    have flat_tb := flat_nats tb
    -- the moved supply
    refine ⟨.ref au, rfl, au, _, rfl, .inr (SqT.of hau2), ((cs.map vN).length : Int), rfl, by rw [List.length_map]; omega, by rw [List.length_map]; omega, fun D1 hD1 => ?_⟩
    have hn1 : ((cs.map vN).length : Int).toNat = cs.length := by rw [List.length_map]; omega
    rw [hn1]
    refine lc_same (walk_range (lo := 0)) (fun i v _ => v = vN (fn cs (plc tb i))) (by omega) hD1 (fun _ _ _ _ _ e => e) (fun _ _ => trivial) (fun i x H3 H' kk hi s3 y hkk => ?_) (fun H3 acc s3 eD el eE => ?_)
    · obtain ⟨rfl, rfl⟩ := y
      have hmi : i ∈ tb := (tb_mem htb).mpr hi
      obtain ⟨ix1, ix2, ix3⟩ := index_at hmi
      have hpl := (plc_lt htb hi).1
      refine ⟨rfl, ?_⟩
      have e0 : (0 : Int) + (i : Int) = (i : Int) := by omega
      refine ⟨.ref au, rfl, .ref pt, rfl, .inl ⟨rfl, _, SqL.of (s3 _ _ hpt)⟩, _, rfl, pt, tb.map vN, .int (0 + (i : Int)), plc tb i, vN i, rfl, rfl, SqL.of (s3 _ _ hpt), rfl, flat_tb, ix1, ?_, ?_, au, _, ((plc tb i : Nat) : Int), vN (fn cs (plc tb i)), rfl, rfl, SqT.of (s3 _ _ hau2), atI_nat (at_vN (fn_at hpl)), hkk _ _ (Same.refl _) rfl⟩
      · rw [e0]
        exact ix2
      · rw [e0]
        exact ix3
    have eacc : acc = (movd tb cs).map vN := by
      rw [list_of el eE]
      unfold movd
      rw [List.map_map]
      rfl
    refine ⟨D1, acc, rfl, .inl ⟨SqL.of eD, fun am nam => ?_⟩⟩
    rw [eacc]
    have t4 := same_new (o := .tup ((movd tb cs).map vN)) nam
    have s04 := s3.trans t4
    have ham : (upd H3 am (.tup ((movd tb cs).map vN))) am = some (.tup ((movd tb cs).map vN)) := upd_same
    generalize upd H3 am (.tup ((movd tb cs).map vN)) = H4 at *
    -- the lists by their new names
    obtain ⟨al, xl, yl, rfl, hal, hxl, hyl⟩ := hl2.mono s04
    have hpt4 := s04 _ _ hpt
    refine ⟨.ref al, rfl, al, rfl, ⟨_, SqT.of hal⟩, fun D2 hD2 => ?_⟩
    refine lc_same (walk_tup (K := K) (a := al) (xs := [xl, yl])) (fun j v Hx => (j = 0 → TupN Hx v ((L true).map (fn tb))) ∧ (j = 1 → TupN Hx v ((L false).map (fn tb)))) (by simp) hD2 (fun _ _ _ _ t e => ⟨fun z => (e.1 z).tp t, fun z => (e.2 z).tp t⟩) (fun H' s => SqT.of (s _ _ hal)) (fun j x H5 H' kk hj s5 y hkk => ?_) (fun H5 acc2 s5 eD2 el2 eE2 => ?_)
    · obtain ⟨rfl, hxj⟩ := y
      obtain ⟨p, hjp, hxp⟩ : ∃ p, j = pix p ∧ TupN H' x (L p) := by
        match j, hxj with
        | 0, h => exact ⟨true, rfl, by rw [← Option.some.inj h]; exact hxl.mono s5⟩
        | 1, h => exact ⟨false, rfl, by rw [← Option.some.inj h]; exact hyl.mono s5⟩
        | n + 2, h => simp at h
      obtain ⟨ar, rfl, har⟩ := hxp
      refine ⟨rfl, ?_⟩
      refine ⟨.ref ar, rfl, ar, rfl, ⟨_, SqT.of har⟩, fun D3 hD3 => ?_⟩
      refine lc_same (walk_tup (K := K) (a := ar) (xs := (L p).map vN)) (fun i v _ => ∃ k, (L p)[i]? = some k ∧ v = vN (fn tb k)) (by rw [List.length_map, (hL p).length_eq, List.length_range]; omega) hD3 (fun _ _ _ _ _ e => e) (fun H' s => SqT.of (s _ _ har)) (fun i x H6 H' kk2 hi s6 y hkk2 => ?_) (fun H6 acc3 s6 eD3 el3 eE3 => ?_)
      · obtain ⟨rfl, hxi⟩ := y
        obtain ⟨k, hk, rfl⟩ := get_vN hxi
        have hkK : k < cs.length := (wl_has hL p k).mp (List.mem_of_getElem? hk)
        refine ⟨rfl, ?_⟩
        refine ⟨.ref pt, rfl, vN k, rfl, pt, _, (k : Int), vN (fn tb k), rfl, rfl, SqL.of ((s5.trans s6) _ _ hpt4), atI_nat (at_vN (fn_at (by omega))), hkk2 _ _ (Same.refl _) ⟨k, hk, rfl⟩⟩
      · have ea : acc3 = ((L p).map (fn tb)).map vN := by
          refine List.ext_getElem? fun i => ?_
          by_cases hi : i < acc3.length
          · obtain ⟨b, eb, ev⟩ := eE3 i _ (List.getElem?_eq_getElem hi)
            rw [List.getElem?_eq_getElem hi, ev, List.getElem?_map, List.getElem?_map, eb]
            rfl
          · rw [List.getElem?_eq_none (by omega), List.getElem?_eq_none (by rw [List.length_map] at el3; simp; omega)]
        refine ⟨D3, acc3, rfl, .inl ⟨SqL.of eD3, fun l1 hl1 => ?_⟩⟩
        have hnew : TupN (upd H6 l1 (.tup acc3)) (.ref l1) ((L p).map (fn tb)) := ⟨l1, rfl, by rw [upd_same, ea]⟩
        refine hkk _ _ (s6.trans (same_new hl1)) ⟨fun z => ?_, fun z => ?_⟩
        · have : p = true := by
            cases p
            · rw [hjp] at z; cases z
            · rfl
          subst this
          exact hnew
        · have : p = false := by
            cases p
            · rfl
            · rw [hjp] at z; cases z
          subst this
          exact hnew
    obtain ⟨n0, n1, eacc2, hn0, hn1'⟩ : ∃ n0 n1, acc2 = [n0, n1] ∧ TupN H5 n0 ((L true).map (fn tb)) ∧ TupN H5 n1 ((L false).map (fn tb)) := by
      match acc2, el2, eE2 with
      | [a0, a1], _, eE2 => exact ⟨a0, a1, rfl, (eE2 0 a0 rfl).1 rfl, (eE2 1 a1 rfl).2 rfl⟩
    refine ⟨D2, acc2, rfl, .inl ⟨SqL.of eD2, fun an nan => ?_⟩⟩
    rw [eacc2]
    have t6 := same_new (o := .tup [n0, n1]) nan
    have hnam : LsR (upd H5 an (.tup [n0, n1])) (.ref an) (fun p => (L p).map (fn tb)) := ⟨an, n0, n1, rfl, upd_same, hn0.mono t6, hn1'.mono t6⟩
    have s46 := s5.trans t6
    generalize upd H5 an (.tup [n0, n1]) = H6 at *
    -- each block as two
    refine ⟨(show 0 ≤ sizeLine from line (by decide)), fun pm npm => ?_⟩
    have t7 := same_new (o := .lst []) npm
    have s07 := (s04.trans s46).trans t7
    have hv7 := hv2.mono s07
    obtain ⟨av, xs, rfl, hav, hxs⟩ := hv7
    have npm2 : H2 pm = none := by
      cases e : H2 pm with
      | none => rfl
      | some o => rw [(s04.trans s46) _ _ e] at npm; cases npm
    refine ⟨.ref av, rfl, av, rfl, ⟨_, SqL.of hav⟩, ?_⟩
    have hpm0 : upd H6 pm (.lst []) pm = some (.lst []) := upd_same
    have hal7 := t7
    have ham7 := (s46.trans t7) _ _ ham
    have hnam7 := hnam.mono t7
    generalize upd H6 pm (.lst []) = H7 at *
    have avpm : av ≠ pm := fun z => by
      obtain ⟨q0, vs0, e0, h0, _⟩ := hv2
      cases e0
      rw [z, npm2] at h0
      cases h0
    refine for_it (walk_list (K := K) (a := av) (xs := xs)) (fun i σ H' => (Same H2 H' ∧ Tp H7 H' ∧ H' av = some (.lst xs) ∧ H' pt = some (.lst (tb.map vN))) ∧ (∃ vs, H' pm = some (.lst vs) ∧ All2 (BlkR H') vs ((bs.take i).flatMap morB)) ∧ ∃ z9 z10 z11 z12 z13 z14 z15 z16 z17, σ = [some (.ref a), some (.ref au), some (.ref al), some (.ref av), some due, some (.ref pt), some (.ref am), some (.ref an), some (.ref pm), z9, z10, z11, z12, z13, z14, z15, z16, z17]) ⟨⟨s07, Tp.refl _, hav, s07 _ _ hpt⟩, ⟨[], hpm0, All2.nil⟩, _, _, _, _, _, _, _, _, _, rfl⟩ (fun i σ H' _ p => SqL.of p.1.2.2.1) (fun i x σ H8 H' hi pp y => ?_) (fun σ H' pp => ?_)
    · obtain ⟨⟨s8, t8, a8, p8⟩, ⟨vs, hvs, hall⟩, z9, z10, z11, z12, z13, z14, z15, z16, z17, rfl⟩ := pp
      obtain ⟨rfl, hxi⟩ := y
      obtain ⟨⟨t, n⟩, eb, rb⟩ := hxs.getV hxi
      obtain ⟨c, rfl, hc⟩ := rb.tp t8
      have hc : H' c = some (.tup [.str (txt t), vN n]) := hc
      have hvl : vs.length ≤ 1000 := by
        rw [hall.1]
        have h1 := mor_len (bs.take i)
        have h2 : (bs.take i).length ≤ bs.length := by rw [List.length_take]; omega
        omega
      refine ⟨c, _, rfl, SqT.of hc, rfl, _, _, rfl, _, _, rfl, rfl, ?_⟩
      refine ⟨.ref pm, rfl, .inl ⟨rfl, _, SqL.of hvs⟩, .str (txt t), rfl, vN n, rfl, (n : Int), 1, rfl, rfl, (show 2 ≤ sizeLine from line (by decide)), fun q1 m1 => ⟨(show 1 ≤ sizeLine from line (by decide)), fun q2 m2 => ?_⟩⟩
      refine ⟨vN n, rfl, (n : Int), 1, rfl, rfl, .inr ⟨decide ((1 : Int) < (n : Int)), rfl, q2, (if decide ((1 : Int) < (n : Int)) = true then 1 else 0), [.ref q1], rfl, rfl, upd_same, (rep_small _).1, (rep_small _).2.1, (rep_small _).2.2 _, fun q3 m3 => ?_⟩⟩
      rw [rep_bl]
      have r1 := same_new (o := .tup [.str (txt t), .int ((n : Int) - 1)]) m1
      have r2 := same_new (o := .lst [.ref q1]) m2
      have r3 := same_new (o := .lst (if decide ((1 : Int) < (n : Int)) = true then [.ref q1] else [])) m3
      have hq1 := (r2.trans r3) _ _ (upd_same (H := H') (a := q1) (o := .tup [.str (txt t), .int ((n : Int) - 1)]))
      have hq3 := upd_same (H := upd (upd H' q1 (.tup [.str (txt t), .int ((n : Int) - 1)])) q2 (.lst [.ref q1])) (a := q3) (o := .lst (if decide ((1 : Int) < (n : Int)) = true then [.ref q1] else []))
      have r13 := (r1.trans r2).trans r3
      refine ⟨.str (txt t), rfl, (show 2 ≤ sizeLine from line (by decide)), fun q4 m4 => ⟨(show 1 ≤ sizeLine from line (by decide)), fun q5 m5 => ?_⟩⟩
      have r4 := same_new (o := .tup [.str (txt t), .int 1]) m4
      have r5 := same_new (o := .lst [.ref q4]) m5
      have hq4 := r5 _ _ (upd_same (H := upd (upd (upd H' q1 (.tup [.str (txt t), .int ((n : Int) - 1)])) q2 (.lst [.ref q1])) q3 (.lst (if decide ((1 : Int) < (n : Int)) = true then [.ref q1] else []))) (a := q4) (o := .tup [.str (txt t), .int 1]))
      refine ⟨q3, q5, _, _, rfl, rfl, (r4.trans r5) _ _ hq3, upd_same, ?_, fun q6 m6 => ?_⟩
      · split <;> exact line (by simp)
      have r6 := same_new (o := .lst ((if decide ((1 : Int) < (n : Int)) = true then [.ref q1] else []) ++ [.ref q4])) m6
      have r46 := (r4.trans r5).trans r6
      have r16 := r13.trans r46
      have hqf := upd_same (H := upd (upd (upd (upd (upd H' q1 (.tup [.str (txt t), .int ((n : Int) - 1)])) q2 (.lst [.ref q1])) q3 (.lst (if decide ((1 : Int) < (n : Int)) = true then [.ref q1] else []))) q4 (.tup [.str (txt t), .int 1])) q5 (.lst [.ref q4])) (a := q6) (o := .lst ((if decide ((1 : Int) < (n : Int)) = true then [.ref q1] else []) ++ [.ref q4]))
      have hq1' := r46 _ _ hq1
      have hq4' := r6 _ _ hq4
      generalize upd (upd (upd (upd (upd (upd H' q1 (.tup [.str (txt t), .int ((n : Int) - 1)])) q2 (.lst [.ref q1])) q3 (.lst (if decide ((1 : Int) < (n : Int)) = true then [.ref q1] else []))) q4 (.tup [.str (txt t), .int 1])) q5 (.lst [.ref q4])) q6 (.lst ((if decide ((1 : Int) < (n : Int)) = true then [.ref q1] else []) ++ [.ref q4])) = H9 at *
      have hvs9 := r16 _ _ hvs
      refine ⟨pm, q6, _, _, rfl, rfl, hvs9, hqf, ?_, ?_⟩
      · split <;> exact line (by simp; omega)
      have tpm : Tp H9 (upd H9 pm (.lst (vs ++ ((if decide ((1 : Int) < (n : Int)) = true then [V.ref q1] else []) ++ [V.ref q4])))) := Tp.lst hvs9
      have hnepm : ∀ p o, p ≠ pm → H9 p = some o → upd H9 pm (.lst (vs ++ ((if decide ((1 : Int) < (n : Int)) = true then [V.ref q1] else []) ++ [V.ref q4]))) p = some o := fun p o hp e => by
        rw [upd_ne hp]
        exact e
      have ptpm : pt ≠ pm := fun z => by rw [z, npm2] at hpt; cases hpt
      refine ⟨⟨(s8.trans r16).app npm2, (t8.trans r16.tp).trans tpm, hnepm _ _ avpm (r16 _ _ a8), hnepm _ _ ptpm (r16 _ _ p8)⟩, ⟨_, upd_same, ?_⟩, _, _, _, _, _, _, _, _, _, rfl⟩
      generalize upd H9 pm (.lst (vs ++ ((if decide ((1 : Int) < (n : Int)) = true then [V.ref q1] else []) ++ [V.ref q4]))) = Hx at tpm ⊢
      rw [mor_take eb]
      have em : morB (t, n) = (if decide ((1 : Int) < (n : Int)) = true then [(t, n - 1)] else []) ++ [(t, 1)] := by
        unfold morB
        have c1 : (decide ((1 : Int) < (n : Int)) = true) = (1 < n) := by rw [decide_eq_true_iff]; exact propext (by omega)
        simp only [c1]
      rw [em, ← List.append_assoc, ← List.append_assoc]
      refine All2.snoc ?_ ⟨q4, rfl, tpm.at hq4'⟩
      by_cases hc1 : decide ((1 : Int) < (n : Int)) = true
      · rw [if_pos hc1, if_pos hc1]
        refine All2.snoc (hall.mono fun _ _ z => (z.mono r16).tp tpm) ⟨q1, rfl, (tpm.at hq1').trans ?_⟩
        have : ((n - 1 : Nat) : Int) = (n : Int) - 1 := by
          have := of_decide_eq_true hc1
          omega
        unfold vN
        rw [this]
      · rw [if_neg hc1, if_neg hc1, List.append_nil, List.append_nil]
        exact hall.mono fun _ _ z => (z.mono r16).tp tpm
    · obtain ⟨⟨s8, t8, a8, p8⟩, ⟨vs, hvs, hall⟩, z9, z10, z11, z12, z13, z14, z15, z16, z17, rfl⟩ := pp
      rw [hxs.1, List.take_length] at hall
      have hmore : SeqR H' (.ref pm) (bs.flatMap morB) := ⟨pm, vs, rfl, hvs, hall⟩
      have hau8 := s8 _ _ hau2
      have ham8 := t8.at ham7
      have hnam8 := hnam7.tp t8
      have hdue8 := hdue2.mono s8
      -- the places
      refine ⟨.ref au, rfl, au, _, rfl, .inr (SqT.of hau8), ((cs.map vN).length : Int), rfl, by rw [List.length_map]; omega, by rw [List.length_map]; omega, fun D4 hD4 => ?_⟩
      rw [hn1]
      refine lc_same (walk_range (lo := 0)) (fun i v _ => v = vN (plc tb i)) (by omega) hD4 (fun _ _ _ _ _ e => e) (fun _ _ => trivial) (fun i x H3 H' kk hi s3 y hkk => ?_) (fun H9 acc4 s9 eD4 el4 eE4 => ?_)
      · obtain ⟨rfl, rfl⟩ := y
        have hmi : i ∈ tb := (tb_mem htb).mpr hi
        obtain ⟨ix1, ix2, ix3⟩ := index_at hmi
        refine ⟨rfl, ?_⟩
        have e0 : (0 : Int) + (i : Int) = (i : Int) := by omega
        refine ⟨.ref pt, rfl, .inl ⟨rfl, _, SqL.of (s3 _ _ p8)⟩, _, rfl, pt, tb.map vN, .int (0 + (i : Int)), plc tb i, vN i, rfl, rfl, SqL.of (s3 _ _ p8), rfl, flat_tb, ix1, ?_, ?_, hkk _ _ (Same.refl _) rfl⟩
        · rw [e0]
          exact ix2
        · rw [e0]
          exact ix3
      have eacc4 : acc4 = ((List.range cs.length).map (plc tb)).map vN := by
        rw [list_of el4 eE4, List.map_map]
        rfl
      have s89 := s8.trans s9
      obtain ⟨ad, xd, yd, rfl, had, hxd, hyd⟩ := hdue8.mono s9
      refine ⟨.ref ad, rfl, ad, _, rfl, SqT.of had, rfl, _, _, rfl, _, _, rfl, rfl, ?_⟩
      refine ⟨.ref am, rfl, .ref an, rfl, .ref pm, rfl, .ref am, .ref an, .ref pm, movd tb cs, fun p => (L p).map (fn tb), bs.flatMap morB, rfl, ⟨am, rfl, s9 _ _ ham8⟩, hnam8.mono s9, hmore.mono s9, by rw [movd_len]; omega, by rw [movd_len]; exact named_ok htb hL, ⟨by have := mor_len bs; omega, mor_ok hw.2⟩, by rw [← expB_len, mor_exp bs hw.2, expB_len, hsum, movd_sum htb], fun told H10 s10 htold => ?_⟩
      rw [mor_exp bs hw.2] at htold
      have s810 := s89.trans s10
      obtain ⟨axd, rfl, haxd⟩ := hxd.mono s10
      obtain ⟨ayd, rfl, hayd⟩ := hyd.mono s10
      have eD4' := s10 _ _ eD4
      have hpk : ∀ v' i, acc4[i]? = some v' → ∃ k, i < cs.length ∧ k = plc tb i ∧ k < cs.length ∧ v' = vN k := fun v' i hv' => by
        have hi : i < acc4.length := (List.getElem?_eq_some_iff.mp hv').1
        rw [el4] at hi
        exact ⟨plc tb i, hi, rfl, (plc_lt htb hi).1, eE4 i v' hv'⟩
      have hel : ∀ p, (endL cs L (expB bs) p).length = cs.length := fun p => bun_len _ _ _
      refine ⟨told, rfl, .ref D4, rfl, D4, rfl, ⟨_, SqL.of eD4'⟩, fun D5 hD5 => ?_⟩
      refine lc_same (walk_list (K := K) (a := D4) (xs := acc4)) (fun i v _ => v = vN (fn (endL cs L (expB bs) true) (plc tb i))) (by omega) hD5 (fun _ _ _ _ _ e => e) (fun H' s => SqL.of (s _ _ eD4')) (fun i x H3 H' kk hi s3 y hkk => ?_) (fun H11 acc5 s11 eD5 el5 eE5 => ?_)
      · obtain ⟨rfl, hxi⟩ := y
        obtain ⟨k, hk0, hk1, hk2, rfl⟩ := hpk _ _ hxi
        refine ⟨rfl, ?_⟩
        exact ⟨.ref axd, rfl, vN k, rfl, axd, _, (k : Int), vN (fn (endL cs L (expB bs) true) k), rfl, rfl, SqT.of (s3 _ _ haxd), atI_nat (at_vN (fn_at (by rw [hel]; exact hk2))), hkk _ _ (Same.refl _) (by rw [hk1])⟩
      refine ⟨D5, acc5, rfl, .inl ⟨SqL.of eD5, fun f1 hf1 => ?_⟩⟩
      have t11 := same_new (o := .tup acc5) hf1
      have s12 := s11.trans t11
      have ea5 : acc5 = ((List.range cs.length).map fun k => fn (endL cs L (expB bs) true) (plc tb k)).map vN := by
        rw [list_of el5 eE5, el4, List.map_map]
        rfl
      have hf1' : upd H11 f1 (.tup acc5) f1 = some (.tup acc5) := upd_same
      generalize upd H11 f1 (.tup acc5) = H12 at *
      have eD4'' := s12 _ _ eD4'
      refine ⟨.ref D4, rfl, D4, rfl, ⟨_, SqL.of eD4''⟩, fun D6 hD6 => ?_⟩
      refine lc_same (walk_list (K := K) (a := D4) (xs := acc4)) (fun i v _ => v = vN (fn (endL cs L (expB bs) false) (plc tb i))) (by omega) hD6 (fun _ _ _ _ _ e => e) (fun H' s => SqL.of (s _ _ eD4'')) (fun i x H3 H' kk hi s3 y hkk => ?_) (fun H13 acc6 s13 eD6 el6 eE6 => ?_)
      · obtain ⟨rfl, hxi⟩ := y
        obtain ⟨k, hk0, hk1, hk2, rfl⟩ := hpk _ _ hxi
        refine ⟨rfl, ?_⟩
        exact ⟨.ref ayd, rfl, vN k, rfl, ayd, _, (k : Int), vN (fn (endL cs L (expB bs) false) k), rfl, rfl, SqT.of ((s12.trans s3) _ _ hayd), atI_nat (at_vN (fn_at (by rw [hel]; exact hk2))), hkk _ _ (Same.refl _) (by rw [hk1])⟩
      refine ⟨D6, acc6, rfl, .inl ⟨SqL.of eD6, fun f2 hf2 => ?_⟩⟩
      have t13 := same_new (o := .tup acc6) hf2
      have ea6 : acc6 = ((List.range cs.length).map fun k => fn (endL cs L (expB bs) false) (plc tb k)).map vN := by
        rw [list_of el6 eE6, el4, List.map_map]
        rfl
      refine ⟨(show 2 ≤ sizeLine from line (by decide)), fun f3 hf3 => ?_⟩
      have t14 := same_new (o := .tup [.ref f1, .ref f2]) hf3
      have s14 := (s13.trans t13).trans t14
      have hres : LsR (upd (upd H13 f2 (.tup acc6)) f3 (.tup [.ref f1, .ref f2])) (.ref f3) (endL (movd tb cs) (fun p => (L p).map (fn tb)) (expB bs)) := by
        refine ⟨f3, _, _, rfl, upd_same, ⟨f1, rfl, ?_⟩, ⟨f2, rfl, ?_⟩⟩
        · rw [renamed_end htb hL, ← ea5]
          exact s14 _ _ hf1'
        · rw [renamed_end htb hL, ← ea6]
          exact t14 _ _ upd_same
      refine ⟨TG.d2 _, TG.d2 _, (htold.mono (s12.trans s14)).dp, hres.dp, sh2 _, sh2 _, ?_⟩
      rw [eq_self (sh2 _)]
      exact q _ (d02.same ((s810.trans s12).trans s14))
end
end TG
namespace TG
open PySem PySem.Spec PyProof.Rows L2 TGZ
abbrev st__law_large_blocks : Stmt := topS 69
abbrev N__law_large_blocks : List Str := ["_law_source_here", "_law_many", "_law_supply_here", "_law_blocks_here", "_law_room", "_law_share", "_law_k", "_law_letters"]
theorem sc__law_large_blocks : FnScope N__law_large_blocks ["_law_source_here", "_law_many"] (C8.fnScope st__law_large_blocks) := C8.fnScope_by (by decide +kernel)
abbrev st__law_long_blocks : Stmt := topS 70
abbrev N__law_long_blocks : List Str := ["_law_source_here", "_law_blocks_here", "_law_result", "_law_k", "_law_letters", "_law_room", "_law_j", "_law_times_here"]
theorem sc__law_long_blocks : FnScope N__law_long_blocks ["_law_source_here"] (C8.fnScope st__law_long_blocks) := C8.fnScope_by (by decide +kernel)
theorem pick_six {i : Nat} {v : V} (h : [V.str (Str.ofString "A"), V.str (Str.ofString "B"), V.str (Str.ofString "AB"), V.str (Str.ofString "BA"), V.str (Str.ofString "ABB"), V.str (Str.ofString "BAAB")][i]? = some v) : ∃ t : List Bool, v = .str (txt t) ∧ 1 ≤ t.length ∧ t.length ≤ 4 := by
  match i, h with
  | 0, h => exact ⟨[true], by rw [← Option.some.inj h, key_A], by decide, by decide⟩
  | 1, h => exact ⟨[false], by rw [← Option.some.inj h, key_B], by decide, by decide⟩
  | 2, h => exact ⟨[true, false], by rw [← Option.some.inj h, key_AB], by decide, by decide⟩
  | 3, h => exact ⟨[false, true], by rw [← Option.some.inj h, key_BA], by decide, by decide⟩
  | 4, h => exact ⟨[true, false, false], by rw [← Option.some.inj h, key_ABB], by decide, by decide⟩
  | 5, h => exact ⟨[false, true, true, false], by rw [← Option.some.inj h, key_BAAB], by decide, by decide⟩
  | n + 6, h => simp at h
theorem pick_one {v : V} (h : v = ltr true ∨ v = ltr false) : ∃ p, v = ltr p := by
  rcases h with h | h
  · exact ⟨_, h⟩
  · exact ⟨_, h⟩
theorem sum_low {w : Nat} : ∀ cs : List Nat, (∀ c ∈ cs, w ≤ c) → cs.length * w ≤ cs.sum
  | [], _ => by simp
  | c :: cs, h => by
    have h1 := h c List.mem_cons_self
    have h2 := sum_low cs fun x hx => h x (List.mem_cons_of_mem _ hx)
    rw [List.sum_cons, List.length_cons, Nat.add_mul, Nat.one_mul]
    omega
theorem nats_of {Pr : Nat → Prop} : ∀ {acc : List V}, (∀ (j : Nat) v, acc[j]? = some v → ∃ c, v = vN c ∧ Pr c) → ∃ cs : List Nat, acc = cs.map vN ∧ ∀ c ∈ cs, Pr c
  | [], _ => ⟨[], rfl, fun c h => by simp at h⟩
  | v :: vs, h => by
    obtain ⟨cs, e, hc⟩ := nats_of fun j v h2 => h (j + 1) v (by simpa using h2)
    obtain ⟨c, ec, hc2⟩ := h 0 v rfl
    refine ⟨c :: cs, by rw [e, ec]; rfl, fun x hx => ?_⟩
    rcases List.mem_cons.mp hx with rfl | hx
    · exact hc2
    · exact hc x hx
section
variable {P : Program} {w : World} {K : PySem.W.Frag} {mg : Str → Option Value} {base : Heap}
def sp__law_large_blocks : Sp := fun vs H Q _ => ∃ (a : Addr) (m : Nat), vs = [.ref a, vN m] ∧ SrcAt a H ∧ 5 ≤ m ∧ m ≤ 60 ∧ ∀ g u v (cs : List Nat) (bs : List Blk) (p : Bool) H', Dr a H H' → H' g = some (.tup [u, v]) → TupN H' u cs → SeqR H' v (([p], 1) :: bs) → cs.length = m → WS (([p], 1) :: bs) → lenB (([p], 1) :: bs) = cs.sum → cs.sum < 2 ^ 200 → (∀ k, k < m → 0 < fn cs k) → Q (.ref g) H'
theorem ok__law_large_blocks (T : Blt K mg) (dF : Df K mg "_law_large_blocks" st__law_large_blocks ["_law_source_here", "_law_many"]) (c__law_pick : C8.Cal P w K mg base 2 "_law_pick" sp__law_pick []) (c__law_take : C8.Cal P w K mg base 1 "_law_take" sp__law_take []) : C8.Cal P w K mg base 3 "_law_large_blocks" sp__law_large_blocks [] := by
  have nd := sc__law_large_blocks.nd
  refine cal_of dF sc__law_large_blocks (fun vs H Q E h => ?_) (fun cdv A outer s H vs Q E hr h => ?_)
  · obtain ⟨a, m, rfl, _⟩ := h
    rfl
  · obtain ⟨a, m, rfl, hs, h5, h60, q⟩ := h
    refine ⟨_, pss_cons (ps_set (i := 2) nd rfl (Or.inl rfl) (pe_callTy (call_tuple_ofK (K := K) rfl) (by rfl) T.tuple_ bt_tuple (pa_cons (pe_lc (own := [("_law_k", 6)]) (g := gName 6) (tt := tYes) rfl nd (pi_range1 (by rfl) T.range_ (pa_cons (pv 1) pa_nil)) (blkOk_by (N := N__law_large_blocks) (sc := C8.fnScope st__law_large_blocks) (by decide +kernel))
        (fun _ _ _ _ _ => pg_name (i := 6) nd rfl (Or.inl rfl)) (fun _ _ _ _ _ => pts_nil)
        (fun _ _ _ _ _ => pe_op op_add (pe_op op_pow (pe_int) (pe_int)) (C8.pe_c c__law_take hr (by decide) (by rfl) (pa_cons (pv 0) (pa_cons (pe_op op_pow (pe_int) (pe_int)) pa_nil))))) pa_nil)))
      (pss_cons (ps_set (i := 3) nd rfl (Or.inl rfl) (pe_lst (pa_cons (pe_tup (pa_cons (C8.pe_c c__law_pick hr (by decide) (by rfl) (pa_cons (pv 0) (pa_cons (pe_lst (pa_cons (pe_str) (pa_cons (pe_str) pa_nil))) pa_nil))) (pa_cons (pe_int) pa_nil))) pa_nil)))
      (pss_cons (ps_par (i := 4) (j := 5) rfl nd rfl rfl (by decide) rfl rfl (pa_cons (pe_op op_sub (pe_callB (cr_sumT rfl) (by rfl) T.sum_ bb_sum (pa_cons (pv 2) pa_nil)) (pe_int)) (pa_cons (pe_op op_fdiv (pe_callB (cr_sumT rfl) (by rfl) T.sum_ bb_sum (pa_cons (pv 2) pa_nil)) (pe_int)) pa_nil)) (by first | rfl | decide +kernel))
      (pss_cons (ps_for PassesOwn.never rfl (pi_range1 (by rfl) T.range_ (pa_cons (pe_int) pa_nil)) (pg_name (i := 6) nd rfl (Or.inl rfl))
        (pss_cons (ps_set (i := 7) nd rfl (Or.inl rfl) (C8.pe_c c__law_pick hr (by decide) (by rfl) (pa_cons (pv 0) (pa_cons (pe_lst (pa_cons (pe_str) (pa_cons (pe_str) (pa_cons (pe_str) (pa_cons (pe_str) (pa_cons (pe_str) (pa_cons (pe_str) pa_nil))))))) pa_nil))))
        (pss_cons (ps_expr (pe_bm PySem.F.plainAttrs_list PySem.F.slot_list_append PySem.F.type_list_append mt_append (pv 3) (pa_cons (pe_tup (pa_cons (pv 7) (pa_cons (pe_op op_add (pe_int) (C8.pe_c c__law_take hr (by decide) (by rfl) (pa_cons (pv 0) (pa_cons (pv 5) pa_nil)))) pa_nil))) pa_nil)))
        (pss_one (ps_set (i := 4) nd rfl (Or.inl rfl) (pe_op op_sub (pv 4) (pe_op op_mul (pe_callB call_len_str (by rfl) T.len_ bb_len (pa_cons (pv 7) pa_nil)) (pe_ix ix_tup (pe_ix ix_list (pv 3) (pe_un un_neg (pe_int)) (fun _ _ => rfl)) (pe_int) (fun _ _ => rfl)))))))))
      (pss_cons (ps_expr (pe_bm PySem.F.plainAttrs_list PySem.F.slot_list_append PySem.F.type_list_append mt_append (pv 3) (pa_cons (pe_tup (pa_cons (C8.pe_c c__law_pick hr (by decide) (by rfl) (pa_cons (pv 0) (pa_cons (pe_lst (pa_cons (pe_str) (pa_cons (pe_str) pa_nil))) pa_nil))) (pa_cons (pv 4) pa_nil))) pa_nil)))
      (pss_one (ps_ret (pe_tup (pa_cons (pv 2) (pa_cons (pv 3) pa_nil))))))))), ?_⟩
    refine ⟨vN m, rfl, (m : Int), rfl, by omega, by omega, fun D hD => ?_⟩
    refine lc_dr (walk_range (lo := 0)) a (fun _ v => ∃ c : Nat, v = vN c ∧ (10 ^ 4 ≤ c ∧ c ≤ 10 ^ 4 + 10 ^ 9)) hs (by omega) hD (fun _ _ => trivial) (fun i x H2 H' kk hi d2 y hkk => ?_) (fun H1 acc d1 eD el eE => ?_)
    · obtain ⟨rfl, rfl⟩ := y
      refine ⟨rfl, ?_⟩
      refine ⟨10, 4, rfl, rfl, ⟨by decide, by decide, by decide⟩, .ref a, rfl, 10, 9, rfl, rfl, ⟨by decide, by decide, by decide⟩, a, 10 ^ 9, rfl, d2.2, by decide, by decide, fun r H3 hr d3 => ?_⟩
      refine ⟨_, (r : Int), rfl, rfl, hkk _ _ d3 ⟨10 ^ 4 + r, ?_, by omega, by omega⟩⟩
      show V.int ((10 : Int) ^ (4 : Int).toNat + (r : Int)) = V.int ((10 ^ 4 + r : Nat) : Int)
      congr 1
    obtain ⟨cs, rfl, hcs⟩ := nats_of eE
    have hcl : cs.length = m := by
      rw [List.length_map] at el
      omega
    have hup : cs.sum ≤ 60 * (10 ^ 4 + 10 ^ 9) := Nat.le_trans (sum_bound cs fun c hc => (hcs c hc).2) (Nat.mul_le_mul (by omega) (Nat.le_refl _))
    have hlow : 5 * 10 ^ 4 ≤ cs.sum := Nat.le_trans (Nat.mul_le_mul (by omega) (Nat.le_refl _)) (sum_low cs fun c hc => (hcs c hc).1)
    refine ⟨D, _, rfl, .inl ⟨SqL.of eD, fun au nau => ?_⟩⟩
    have t1 := same_new (o := .tup (cs.map vN)) nau
    have d01 := d1.same t1
    have hau : upd H1 au (.tup (cs.map vN)) au = some (.tup (cs.map vN)) := upd_same
    generalize upd H1 au (.tup (cs.map vN)) = H2 at *
    refine ⟨.ref a, rfl, (show 2 ≤ sizeLine from line (by decide)), fun p1 n1 => ?_⟩
    have t2 := same_new (o := .lst [V.str (Str.ofString "A"), V.str (Str.ofString "B")]) n1
    refine ⟨a, p1, _, rfl, d01.2.same t2, d01.2.ne n1, upd_same, by simp, by simp, fun i v H3 hv d3 => ?_⟩
    obtain ⟨p, rfl⟩ := pick_one (pick_AB hv)
    have d03 := (d01.same t2).trans d3
    have hau3 := (d3.tp (d01.2.same t2)).at (t2 _ _ hau)
    refine ⟨(show 2 ≤ sizeLine from line (by decide)), fun q1 m1 => ⟨(show 1 ≤ sizeLine from line (by decide)), fun pf npf => ?_⟩⟩
    have t4 := same_new (o := .tup [ltr p, .int 1]) m1
    have t5 := same_new (o := .lst [.ref q1]) npf
    have hq1 := t5 _ _ (upd_same (H := H3) (a := q1) (o := .tup [ltr p, .int 1]))
    have d05 := d03.same (t4.trans t5)
    have hau5 := (t4.trans t5) _ _ hau3
    have npf3 : H3 pf = none := by
      cases e : H3 pf with
      | none => rfl
      | some o => rw [t4 _ _ e] at npf; cases npf
    have npf0 := d03.fr' npf3
    have npfa := hs.ne npf0
    have hpf5 : upd (upd H3 q1 (.tup [ltr p, .int 1])) pf (.lst [.ref q1]) pf = some (.lst [.ref q1]) := upd_same
    have hx5 : All2 (BlkR (upd (upd H3 q1 (.tup [ltr p, .int 1])) pf (.lst [.ref q1]))) [.ref q1] [([p], 1)] := All2.snoc All2.nil ⟨q1, rfl, hq1⟩
    generalize upd (upd H3 q1 (.tup [ltr p, .int 1])) pf (.lst [.ref q1]) = H5 at *
    have sumT : ∀ Hx : Hp, Hx au = some (.tup (cs.map vN)) → SqT K Hx au ((cs.map zi).map V.int) := fun Hx e => by
      rw [ints_map]
      exact SqT.of e
    refine ⟨.ref au, rfl, au, cs.map zi, rfl, sumT _ hau5, _, 1, rfl, rfl, .ref au, rfl, au, cs.map zi, rfl, sumT _ hau5, _, 1000, rfl, rfl, ⟨by decide, by decide⟩, _, _, rfl, ?_⟩
    have eS : (cs.map zi).sum = ((cs.sum : Nat) : Int) := sum_int cs
    rw [eS]
    have e198 : (198 : Int).toNat = 198 := rfl
    refine ⟨198, rfl, by decide, by decide, ?_⟩
    refine for_it (walk_range (lo := 0)) (fun i σ H' => Dr a H H' ∧ H' au = some (.tup (cs.map vN)) ∧ ∃ (r : Nat) (z6 z7 : Option V) (ds : List Blk) (vs : List V), σ = [some (.ref a), some (vN m), some (.ref au), some (.ref pf), some (vN r), some (.int ((cs.sum : Int) / 1000)), z6, z7] ∧ H' pf = some (.lst vs) ∧ All2 (BlkR H') vs (([p], 1) :: ds) ∧ (∀ b ∈ ds, WB b) ∧ ds.length = i ∧
      lenB ds + 1 + r = cs.sum ∧ cs.sum ≤ r + 1 + i * 4 * (cs.sum / 1000)) ⟨d05, hau5, cs.sum - 1, none, none, [], [.ref q1], ?_, hpf5, hx5, fun b h => by simp at h, rfl, by simp [lenB]; omega, by omega⟩ (fun i σ H' _ p => trivial) (fun i x σ H6 H' hi pp y => ?_) (fun σ H' pp => ?_)
    · have er : V.int ((cs.sum : Int) - 1) = vN (cs.sum - 1) := by
        unfold vN
        congr 1
        omega
      rw [← er]
      rfl
    · obtain ⟨d6, hau6, r, z6, z7, ds, vs, rfl, i1, i2, i3, i4, i5, i6⟩ := pp
      obtain ⟨rfl, rfl⟩ := y
      have hi198 : i < 198 := hi
      have hsh : 1000 * (cs.sum / 1000) ≤ cs.sum := Nat.mul_div_le _ _
      have hsh50 : 50 ≤ cs.sum / 1000 := by omega
      have hi4 : i * 4 * (cs.sum / 1000) ≤ 788 * (cs.sum / 1000) := Nat.mul_le_mul_right _ (by omega)
      generalize hshv : cs.sum / 1000 = sh at *
      refine ⟨.ref a, rfl, (show 6 ≤ sizeLine from line (by decide)), fun p3 n3 => ?_⟩
      have s6 := same_new (o := .lst [V.str (Str.ofString "A"), V.str (Str.ofString "B"), V.str (Str.ofString "AB"), V.str (Str.ofString "BA"), V.str (Str.ofString "ABB"), V.str (Str.ofString "BAAB")]) n3
      refine ⟨a, p3, _, rfl, d6.2.same s6, d6.2.ne n3, upd_same, by simp, by simp, fun j v H7 hv d7 => ?_⟩
      obtain ⟨t, rfl, t1, t4'⟩ := pick_six hv
      have hline : (txt t).length ≤ sizeLine := line (by rw [txt_len]; omega)
      have d67 := (Dr.of d6.2 s6).trans d7
      have i1' := d67.1 _ _ npfa i1
      refine ⟨.ref pf, rfl, .inl ⟨rfl, _, SqL.of i1'⟩, .str (txt t), rfl, .ref a, rfl, _, rfl, a, sh, ?_, d67.2, by omega, ?_, fun rr H8 hrr d8 => ?_⟩
      · show [V.ref a, V.int ((cs.sum : Int) / 1000)] = [V.ref a, vN sh]
        unfold vN
        congr 3
        omega
      · exact Nat.lt_of_le_of_lt (show sh ≤ 60 * (10 ^ 4 + 10 ^ 9) by omega) (by decide)
      have d68 := d67.trans d8
      have d08 := d6.trans d68
      have i1'' := d68.1 _ _ npfa i1
      have i2'' : All2 (BlkR H8) vs (([p], 1) :: ds) := i2.mono fun _ _ z => z.tp (d68.tp d6.2)
      have hvl : vs.length = ds.length + 1 := by rw [i2.1]; rfl
      refine ⟨1, (rr : Int), rfl, rfl, (show 2 ≤ sizeLine from line (by decide)), fun q2 m2 => ?_⟩
      obtain ⟨b0, b1, b2, b3, b4⟩ := put_drw (t := t) (n := 1 + rr) (x := .tup [.str (txt t), .int (1 + (rr : Int))]) hs d08 npf0 m2 i1'' i2'' (by rw [vN]; congr 4)
      refine ⟨pf, vs, _, rfl, rfl, b0, lineL (by omega), ?_⟩
      have hau8 := b2.at ((d68.tp d6.2).at hau6)
      have hq2 := (Tp.lst (o := .lst (vs ++ [.ref q2])) b0).at (upd_same (H := H8) (a := q2) (o := .tup [.str (txt t), .int (1 + (rr : Int))]))
      have hmul : t.length * (1 + rr) ≤ 4 * sh := Nat.mul_le_mul t4' (by omega)
      refine ⟨vN r, rfl, .str (txt t), rfl, txt t, rfl, hline, .ref pf, rfl, 1, rfl, pf, _, -1, _, rfl, rfl, SqL.of b3, atI_last _ _, q2, _, 1, _, rfl, rfl, SqT.of hq2, atI_nat (j := 1) rfl, ((txt t).length : Int), (1 + (rr : Int)), rfl, rfl, .inl ⟨by omega, by rw [txt_len]; omega⟩, (r : Int), _, rfl, rfl, ?_⟩
      have er : V.int ((r : Int) - ((txt t).length : Int) * (1 + (rr : Int))) = vN (r - t.length * (1 + rr)) := by
        unfold vN
        congr 1
        rw [txt_len]
        have : ((t.length * (1 + rr) : Nat) : Int) = (t.length : Int) * (1 + (rr : Int)) := by
          rw [Int.natCast_mul, Int.natCast_add]
          rfl
        omega
      refine ⟨b1, hau8, r - t.length * (1 + rr), some (.int (0 + (i : Int))), some (.str (txt t)), ds ++ [(t, 1 + rr)], vs ++ [.ref q2], ?_, b3, b4, fun b hb => ?_, ?_, ?_, ?_⟩
      · rw [← er]
        rfl
      · rcases List.mem_append.mp hb with z | z
        · exact i3 b z
        · rw [List.mem_singleton.mp z]
          exact ⟨t1, by show t.length ≤ 20; omega, by show 1 ≤ 1 + rr; omega⟩
      · rw [List.length_append, i4]
        rfl
      · rw [lenB_append]
        have : lenB [(t, 1 + rr)] = t.length * (1 + rr) := by simp [lenB]
        rw [this]
        omega
      · have : (i + 1) * 4 * sh = i * 4 * sh + 4 * sh := by rw [Nat.add_mul, Nat.add_mul, Nat.one_mul]
        rw [this]
        omega
    · obtain ⟨d6, hau6, r, z6, z7, ds, vs, rfl, i1, i2, i3, i4, i5, i6⟩ := pp
      have i4 : ds.length = 198 := i4
      have hsh : 1000 * (cs.sum / 1000) ≤ cs.sum := Nat.mul_div_le _ _
      have hi6 : cs.sum ≤ r + 1 + 792 * (cs.sum / 1000) := i6
      have hvl : vs.length = ds.length + 1 := by rw [i2.1]; rfl
      refine ⟨.ref pf, rfl, .inl ⟨rfl, _, SqL.of i1⟩, .ref a, rfl, (show 2 ≤ sizeLine from line (by decide)), fun p3 n3 => ?_⟩
      have s6 := same_new (o := .lst [V.str (Str.ofString "A"), V.str (Str.ofString "B")]) n3
      refine ⟨a, p3, _, rfl, d6.2.same s6, d6.2.ne n3, upd_same, by simp, by simp, fun j v H7 hv d7 => ?_⟩
      obtain ⟨p', rfl⟩ := pick_one (pick_AB hv)
      have d67 := (Dr.of d6.2 s6).trans d7
      have i1' := d67.1 _ _ npfa i1
      have i2' : All2 (BlkR H7) vs (([p], 1) :: ds) := i2.mono fun _ _ z => z.tp (d67.tp d6.2)
      refine ⟨vN r, rfl, (show 2 ≤ sizeLine from line (by decide)), fun q2 m2 => ?_⟩
      obtain ⟨b0, b1, b2, b3, b4⟩ := put_drw (t := [p']) (n := r) (x := .tup [ltr p', vN r]) hs (d6.trans d67) npf0 m2 i1' i2' rfl
      refine ⟨pf, vs, _, rfl, rfl, b0, lineL (by omega), ?_⟩
      have hau8 := b2.at ((d67.tp d6.2).at hau6)
      refine ⟨.ref au, rfl, .ref pf, rfl, (show 2 ≤ sizeLine from line (by decide)), fun g hg => ?_⟩
      have s9 := same_new (o := .tup [.ref au, .ref pf]) hg
      refine q g _ _ cs (ds ++ [([p'], r)]) p _ (b1.same s9) upd_same ⟨au, rfl, s9 _ _ hau8⟩ (SeqR.mono s9 ⟨pf, _, rfl, b3, b4⟩) hcl ⟨?_, fun b hb => ?_⟩ ?_ (Nat.lt_of_le_of_lt hup (by decide)) fun k hk => ?_
      · rw [List.length_cons, List.length_append, i4]
        simp
      · rcases List.mem_cons.mp hb with z | z
        · rw [z]
          exact ⟨Nat.le_refl _, by show 1 ≤ 20; decide, Nat.le_refl _⟩
        · rcases List.mem_append.mp z with z | z
          · exact i3 b z
          · rw [List.mem_singleton.mp z]
            exact ⟨Nat.le_refl _, by show 1 ≤ 20; decide, by show 1 ≤ r; omega⟩
      · have h1 : lenB (([p], 1) :: (ds ++ [([p'], r)])) = 1 + (lenB ds + r) := by
          simp [lenB]
        rw [h1]
        omega
      · have hk2 : k < cs.length := by omega
        have := (hcs _ (List.getElem_mem hk2)).1
        rw [fn_lt hk2]
        omega
def sp__law_long_blocks : Sp := fun vs H Q _ => ∃ (a : Addr), vs = [.ref a] ∧ SrcAt a H ∧ ∀ g u v (cs : List Nat) (bs : List Blk) H', Dr a H H' → H' g = some (.tup [u, v]) → TupN H' u cs → SeqR H' v bs → cs.length = 12 → WS bs → lenB bs = cs.sum → cs.sum < 2 ^ 200 → Q (.ref g) H'
theorem lenB_small : ∀ bs : List Blk, (∀ b ∈ bs, b.1.length * b.2 ≤ 20) → lenB bs ≤ bs.length * 20
  | [], _ => by simp [lenB]
  | b :: bs, h => by
    have h1 := h b List.mem_cons_self
    have h2 := lenB_small bs fun x hx => h x (List.mem_cons_of_mem _ hx)
    unfold lenB at h2 ⊢
    rw [List.map_cons, List.sum_cons, List.length_cons, Nat.add_mul, Nat.one_mul]
    omega
theorem ok__law_long_blocks (T : Blt K mg) (dF : Df K mg "_law_long_blocks" st__law_long_blocks ["_law_source_here"]) (c__law_take : C8.Cal P w K mg base 1 "_law_take" sp__law_take []) (c__law_pick : C8.Cal P w K mg base 2 "_law_pick" sp__law_pick []) : C8.Cal P w K mg base 3 "_law_long_blocks" sp__law_long_blocks [] := by
  have nd := sc__law_long_blocks.nd
  refine cal_of dF sc__law_long_blocks (fun vs H Q E h => ?_) (fun cdv A outer s H vs Q E hr h => ?_)
  · obtain ⟨a, rfl, _⟩ := h
    rfl
  · obtain ⟨a, rfl, hs, q⟩ := h
    refine ⟨_, pss_cons (ps_par (i := 1) (j := 2) rfl nd rfl rfl (by decide) rfl rfl (pa_cons (pe_lst (pa_nil)) (pa_cons (pe_lst (pa_nil)) pa_nil)) (by first | rfl | decide +kernel))
      (pss_cons (ps_for PassesOwn.never rfl (pi_range1 (by rfl) T.range_ (pa_cons (pe_int) pa_nil)) (pg_name (i := 3) nd rfl (Or.inl rfl))
        (pss_cons (ps_set (i := 4) nd rfl (Or.inl rfl) (pe_join (pe_str) (pe_lc (own := [("_law_j", 6)]) (g := gName 6) (tt := tYes) rfl nd (pi_range1 (by rfl) T.range_ (pa_cons (pe_op op_add (pe_int) (C8.pe_c c__law_take hr (by decide) (by rfl) (pa_cons (pv 0) (pa_cons (pe_int) pa_nil)))) pa_nil)) (blkOk_by (N := N__law_long_blocks) (sc := C8.fnScope st__law_long_blocks) (by decide +kernel))
          (fun _ _ _ _ _ => pg_name (i := 6) nd rfl (Or.inl rfl)) (fun _ _ _ _ _ => pts_nil)
          (fun _ _ _ _ _ => C8.pe_c c__law_pick hr (by decide) (by rfl) (pa_cons (pv 0) (pa_cons (pe_lst (pa_cons (pe_str) (pa_cons (pe_str) pa_nil))) pa_nil))))))
        (pss_one (ps_expr (pe_bm PySem.F.plainAttrs_list PySem.F.slot_list_append PySem.F.type_list_append mt_append (pv 1) (pa_cons (pe_tup (pa_cons (pv 4) (pa_cons (pe_op op_add (pe_int) (C8.pe_c c__law_take hr (by decide) (by rfl) (pa_cons (pv 0) (pa_cons (pe_int) pa_nil)))) pa_nil))) pa_nil))))))
      (pss_cons (ps_set (i := 5) nd rfl (Or.inl rfl) (pe_callB (cr_sum rfl) (by rfl) T.sum_ bb_sum (pa_cons (pe_lc (own := [("_law_letters", 4), ("_law_times_here", 7)]) (g := gTup K 2 (gCons (gName 4) (gCons (gName 7) gNil))) (tt := tYes) rfl nd (pi_list (pv 1)) (blkOk_by (N := N__law_long_blocks) (sc := C8.fnScope st__law_long_blocks) (by decide +kernel))
        (fun _ _ _ _ _ => pg_tup rfl (pgs_cons (pg_name (i := 4) nd rfl (Or.inl rfl)) (pgs_cons (pg_name (i := 7) nd rfl (Or.inl rfl)) pgs_nil))) (fun _ _ _ _ _ => pts_nil)
        (fun _ _ _ _ _ => pe_op op_mul (pe_callB call_len_str (by rfl) T.len_ bb_len (pa_cons (pv 4) pa_nil)) (pv 7))) pa_nil)))
      (pss_cons (ps_for PassesOwn.never rfl (pi_range1 (by rfl) T.range_ (pa_cons (pe_int) pa_nil)) (pg_name (i := 3) nd rfl (Or.inl rfl))
        (pss_cons (ps_expr (pe_bm PySem.F.plainAttrs_list PySem.F.slot_list_append PySem.F.type_list_append mt_append (pv 2) (pa_cons (C8.pe_c c__law_take hr (by decide) (by rfl) (pa_cons (pv 0) (pa_cons (pe_callB (call_max2 rfl) (by rfl) T.max_ bb_max (pa_cons (pe_int) (pa_cons (pe_op op_fdiv (pe_op op_mul (pe_int) (pv 5)) (pe_op op_sub (pe_int) (pv 3))) pa_nil))) pa_nil))) pa_nil)))
        (pss_one (ps_set (i := 5) nd rfl (Or.inl rfl) (pe_op op_sub (pv 5) (pe_ix ix_list (pv 2) (pe_un un_neg (pe_int)) (fun _ _ => rfl)))))))
      (pss_one (ps_ret (pe_tup (pa_cons (pe_callTy (call_tuple_ofK (K := K) rfl) (by rfl) T.tuple_ bt_tuple (pa_cons (pe_op op_cat (pv 2) (pe_lst (pa_cons (pv 5) pa_nil))) pa_nil)) (pa_cons (pv 1) pa_nil)))))))), ?_⟩
    refine ⟨(show 0 ≤ sizeLine from line (by decide)), fun pf npf => ⟨(show 0 ≤ sizeLine from line (by decide)), fun pr npr => ⟨_, _, rfl, ?_⟩⟩⟩
    have s1 := same_new (o := .lst []) npf
    have s2 := s1.trans (same_new (o := .lst []) npr)
    have npr0 : H pr = none := by
      cases e : H pr with
      | none => rfl
      | some o => rw [s1 _ _ e] at npr; cases npr
    have nfr : pf ≠ pr := fun z => by rw [← z, upd_same] at npr; cases npr
    have nfa := hs.ne npf
    have nra := hs.ne npr0
    refine ⟨200, rfl, by decide, by decide, ?_⟩
    refine for_it (walk_range (lo := 0)) (fun i σ H' => Dr a H H' ∧ H' pr = some (.lst []) ∧ ∃ (z3 z4 z5 z6 z7 : Option V) (ds : List Blk) (vs : List V), σ = [some (.ref a), some (.ref pf), some (.ref pr), z3, z4, z5, z6, z7] ∧ H' pf = some (.lst vs) ∧ All2 (BlkR H') vs ds ∧ (∀ b ∈ ds, WB b ∧ b.1.length * b.2 ≤ 20) ∧ ds.length = i) ⟨Dr.of hs s2, upd_same, none, none, none, none, none, [], [], rfl, ?_, All2.nil, fun b h => by simp at h, rfl⟩ (fun i σ H' _ p => trivial) (fun i x σ H3 H' hi pp y => ?_) (fun σ H' pp => ?_)
    · rw [upd_ne nfr, upd_same]
    · obtain ⟨d, hpr, z3, z4, z5, z6, z7, ds, vs, rfl, i1, i2, i3, i4⟩ := pp
      obtain ⟨rfl, rfl⟩ := y
      have hi200 : i < 200 := hi
      refine ⟨⟨_, rfl⟩, ?_⟩
      refine ⟨.ref a, rfl, a, 10, rfl, d.2, by decide, by decide, fun sz H4 hsz d4 => ?_⟩
      refine ⟨1, (sz : Int), rfl, rfl, (1 + (sz : Int)), rfl, by omega, by omega, fun D hD => ?_⟩
      refine lc_dr (walk_range (lo := 0)) a (fun _ v => v = ltr true ∨ v = ltr false) d4.2 (by omega) hD (fun _ _ => trivial) (fun j x H6 H' kk hj d6 y hkk => ?_) (fun H6 acc d6 eD el eE => ?_)
      · obtain ⟨rfl, rfl⟩ := y
        refine ⟨rfl, ?_⟩
        refine ⟨.ref a, rfl, (show 2 ≤ sizeLine from line (by decide)), fun p2 n2 => ?_⟩
        have s7 := same_new (o := .lst [.str (Str.ofString "A"), .str (Str.ofString "B")]) n2
        refine ⟨a, p2, [.str (Str.ofString "A"), .str (Str.ofString "B")], rfl, d6.2.same s7, d6.2.ne n2, upd_same, by simp, by simp, fun k v H7 hv d7 => ?_⟩
        exact hkk _ _ ((Dr.of d6.2 s7).trans d7) (pick_AB hv)
      obtain ⟨t, rfl⟩ := ltrs_of eE
      have elt : t.length = sz + 1 := by
        rw [List.length_map, List.length_map] at el
        omega
      refine ⟨_, D, t.map (fun b => txt [b]), rfl, rfl, .inl (SqL.of eD), ?_, ?_⟩
      · rw [sizes_txt]
        omega
      rw [join_ltr]
      have d46 := d4.trans d6
      have i1' := d46.1 _ _ nfa i1
      refine ⟨.ref pf, rfl, .inl ⟨rfl, _, SqL.of i1'⟩, .str (txt t), rfl, .ref a, rfl, a, 2, rfl, d6.2, by decide, by decide, fun rr H8 hrr d8 => ?_⟩
      have d48 := d46.trans d8
      have i1'' := d48.1 _ _ nfa i1
      have i2'' : All2 (BlkR H8) vs ds := i2.mono fun _ _ z => z.tp (d48.tp d.2)
      refine ⟨1, (rr : Int), rfl, rfl, (show 2 ≤ sizeLine from line (by decide)), fun q2 m2 => ?_⟩
      obtain ⟨b0, b1, b2, b3, b4⟩ := put_drw (t := t) (n := 1 + rr) (x := .tup [.str (txt t), .int (1 + (rr : Int))]) hs (d.trans d48) npf m2 i1'' i2'' (by rw [vN]; congr 4)
      have hpr8 := d48.1 _ _ nra hpr
      refine ⟨pf, vs, _, rfl, rfl, b0, lineL (by rw [i2.1]; omega), b1, ?_, some (.int (0 + (i : Int))), some (.str (txt t)), z5, z6, z7, ds ++ [(t, 1 + rr)], vs ++ [.ref q2], rfl, b3, b4, fun b hb => ?_, ?_⟩
      · rw [upd_ne (Ne.symm nfr)]
        exact (same_new m2) _ _ hpr8
      · rcases List.mem_append.mp hb with z | z
        · exact i3 b z
        · rw [List.mem_singleton.mp z]
          refine ⟨⟨by show 1 ≤ t.length; omega, by show t.length ≤ 20; omega, by show 1 ≤ 1 + rr; omega⟩, ?_⟩
          show t.length * (1 + rr) ≤ 20
          exact Nat.le_trans (Nat.mul_le_mul (show t.length ≤ 10 by omega) (show 1 + rr ≤ 2 by omega)) (by decide)
      · rw [List.length_append, i4]
        rfl
    · obtain ⟨d, hpr, z3, z4, z5, z6, z7, ds, vs, rfl, i1, i2, i3, i4⟩ := pp
      have i4 : ds.length = 200 := i4
      have hvl : vs.length = 200 := by rw [i2.1]; exact i4
      refine ⟨.ref pf, rfl, pf, rfl, ⟨_, SqL.of i1⟩, fun D hD => ?_⟩
      refine lc_same (walk_list (K := K) (a := pf) (xs := vs)) (fun i v _ => ∃ b, ds[i]? = some b ∧ v = vN (b.1.length * b.2)) (by omega) hD (fun _ _ _ _ _ e => e) (fun H' s => SqL.of (s _ _ i1)) (fun i x H1 H' kk hi s y hkk => ?_) (fun H5 acc s5 eD el eE => ?_)
      · obtain ⟨rfl, hxi⟩ := y
        obtain ⟨b, eb, rb⟩ := i2.getV hxi
        obtain ⟨c, rfl, hc⟩ := rb.mono s
        obtain ⟨⟨h1, h2, h3⟩, _⟩ := i3 b (List.mem_of_getElem? eb)
        refine ⟨c, _, rfl, SqT.of hc, rfl, _, _, rfl, _, _, rfl, rfl, rfl, ?_⟩
        refine ⟨_, rfl, txt b.1, rfl, line (by rw [txt_len]; omega), _, rfl, _, (b.2 : Int), rfl, rfl, .inl ⟨by omega, by rw [txt_len]; omega⟩, hkk _ _ (Same.refl _) ⟨b, eb, ?_⟩⟩
        unfold vN
        rw [txt_len, Int.natCast_mul]
      have e : acc = (ds.map fun b => b.1.length * b.2).map vN := by
        refine List.ext_getElem? fun i => ?_
        by_cases hi : i < acc.length
        · obtain ⟨b, eb, ev⟩ := eE i _ (List.getElem?_eq_getElem hi)
          rw [List.getElem?_eq_getElem hi, ev, List.getElem?_map, List.getElem?_map, eb]
          rfl
        · rw [List.getElem?_eq_none (by omega), List.getElem?_eq_none (by simp; omega)]
      refine ⟨D, (ds.map fun b => b.1.length * b.2).map zi, rfl, ?_, ?_⟩
      · rw [ints_map, ← e]
        exact SqL.of eD
      rw [sum_int]
      have hR : (ds.map fun b => b.1.length * b.2).sum = lenB ds := rfl
      rw [hR]
      have hRs : lenB ds ≤ 4000 := by
        have := lenB_small ds fun b hb => (i3 b hb).2
        omega
      have d5 := d.same s5
      have hpf5 := s5 _ _ i1
      have hpr5 := s5 _ _ hpr
      have hx5 : All2 (BlkR H5) vs ds := i2.mono fun _ _ z => z.mono s5
      generalize hRd : lenB ds = R at *
      refine ⟨11, rfl, by decide, by decide, ?_⟩
      refine for_it (walk_range (lo := 0)) (fun i σ H' => (Dr a H H' ∧ Tp H5 H' ∧ H' pf = some (.lst vs)) ∧ ∃ (r : Nat) (rs : List Nat) (z3 z4 z6 z7 : Option V), σ = [some (.ref a), some (.ref pf), some (.ref pr), z3, z4, some (vN r), z6, z7] ∧ H' pr = some (.lst (rs.map vN)) ∧ rs.length = i ∧ rs.sum + r = R) ⟨⟨d5, Tp.refl _, hpf5⟩, R, [], z3, z4, z6, z7, rfl, hpr5, rfl, by simp⟩ (fun i σ H' _ p => trivial) (fun i x σ H3 H' hi pp y => ?_) (fun σ H' pp => ?_)
      · obtain ⟨⟨d6, t6, h6⟩, r, rs, z3, z4, z6, z7, rfl, j1, j2, j3⟩ := pp
        obtain ⟨rfl, rfl⟩ := y
        have hi11 : i < 11 := hi
        have hb : (if ((2 : Int) * (r : Int) / (12 - (0 + (i : Int)))) > (1 : Int) then ((2 : Int) * (r : Int) / (12 - (0 + (i : Int)))) else (1 : Int)) = ((max 1 (2 * r / (12 - i)) : Nat) : Int) := by
          have e1 : (12 : Int) - (0 + (i : Int)) = ((12 - i : Nat) : Int) := by omega
          have e2 : (2 : Int) * (r : Int) / ((12 - i : Nat) : Int) = ((2 * r / (12 - i) : Nat) : Int) := by
            rw [Int.natCast_ediv, Int.natCast_mul]
            rfl
          rw [e1, e2]
          split <;> omega
        have hdv : 2 * r / (12 - i) ≤ r := by
          refine Nat.div_le_of_le_mul ?_
          exact Nat.mul_le_mul_right r (by omega)
        refine ⟨.ref pr, rfl, .inl ⟨rfl, _, SqL.of j1⟩, .ref a, rfl, vN r, rfl, 2, (r : Int), rfl, rfl, .inl ⟨by decide, by decide⟩, .int (0 + (i : Int)), rfl, 12, (0 + (i : Int)), rfl, rfl, _, _, rfl, rfl, ⟨by omega, by omega⟩, 1, _, rfl, ?_⟩
        dsimp only
        rw [hb]
        generalize hbb : max 1 (2 * r / (12 - i)) = bb at *
        refine ⟨a, bb, rfl, d6.2, by omega, Nat.lt_of_le_of_lt (show bb ≤ 4001 by omega) (by decide), fun rr H7 hrr d7 => ?_⟩
        have j1' := d7.1 _ _ nra j1
        refine ⟨pr, _, vN rr, rfl, rfl, j1', lineL (by rw [List.length_map]; omega), ?_⟩
        have enew : rs.map vN ++ [vN rr] = (rs ++ [rr]).map vN := by rw [List.map_append]; rfl
        have hlast : upd H7 pr (.lst (rs.map vN ++ [vN rr])) pr = some (.lst (rs.map vN ++ [vN rr])) := upd_same
        refine ⟨vN r, rfl, .ref pr, rfl, 1, rfl, pr, _, -1, _, rfl, rfl, SqL.of hlast, atI_last _ _, (r : Int), (rr : Int), rfl, rfl, ?_⟩
        have hrr2 : rr ≤ r := by omega
        have er : V.int ((r : Int) - (rr : Int)) = vN (r - rr) := by
          unfold vN
          congr 1
          omega
        refine ⟨⟨(d6.trans d7).app hs npr0, (t6.trans (d7.tp d6.2)).trans (Tp.lst j1'), by rw [upd_ne nfr]; exact d7.1 _ _ nfa h6⟩, r - rr, rs ++ [rr], some (.int (0 + (i : Int))), z4, z6, z7, ?_, by rw [← enew]; exact hlast, by rw [List.length_append, j2]; rfl, by rw [List.sum_append]; simp; omega⟩
        rw [← er]
        rfl
      · obtain ⟨⟨d6, t6, h6⟩, r, rs, z3, z4, z6, z7, rfl, j1, j2, j3⟩ := pp
        have j2 : rs.length = 11 := j2
        refine ⟨.ref pr, rfl, vN r, rfl, (show 1 ≤ sizeLine from line (by decide)), fun p7 n7 => ?_⟩
        have s7 := same_new (o := .lst [vN r]) n7
        refine ⟨pr, p7, _, _, rfl, rfl, s7 _ _ j1, upd_same, line (by simp; omega), fun p8 n8 => ?_⟩
        have s8 := same_new (o := .lst (rs.map vN ++ [vN r])) n8
        refine ⟨p8, _, rfl, .inl ⟨SqL.of upd_same, fun p9 n9 => ?_⟩⟩
        have s9 := same_new (o := .tup (rs.map vN ++ [vN r])) n9
        refine ⟨.ref pf, rfl, (show 2 ≤ sizeLine from line (by decide)), fun g hg => ?_⟩
        have s10 := same_new (o := .tup [.ref p9, .ref pf]) hg
        have sAll := ((s7.trans s8).trans s9).trans s10
        have enew : rs.map vN ++ [vN r] = (rs ++ [r]).map vN := by rw [List.map_append]; rfl
        refine q g _ _ (rs ++ [r]) ds _ (d6.same sAll) upd_same ⟨p9, rfl, (s10 _ _ upd_same).trans (by rw [enew])⟩ ⟨pf, vs, rfl, sAll _ _ h6, hx5.mono fun _ _ z => (z.tp t6).mono sAll⟩ ?_ ⟨by omega, fun b hb => (i3 b hb).1⟩ ?_ ?_
        · rw [List.length_append, j2]
          rfl
        · rw [hRd, List.sum_append]
          simp
          omega
        · rw [List.sum_append]
          simp
          have : rs.sum + r < 4001 := by omega
          exact Nat.lt_trans this (by decide)
end
end TG
namespace TG
open PySem PySem.Spec PyProof.Rows L2 TGZ
abbrev st__law_wide_right : Stmt := topS 72
abbrev N__law_wide_right : List Str := ["_law_source_here", "_law_supply_here", "_law_blocks_here", "_law_lists_here", "_law_due", "_law_firsts", "_law_side", "_law_one", "_law_fewer", "_law_later", "_law_is_best"]
theorem sc__law_wide_right : FnScope N__law_wide_right ["_law_source_here"] (C8.fnScope st__law_wide_right) := C8.fnScope_by (by decide +kernel)
abbrev st_law : Stmt := topS 74
abbrev N_law : List Str := ["_law_script", "_law_cell", "_law_source_here", "_law_supply_here", "_law_lists_here", "_law_blocks_here"]
theorem sc_law : FnScope N_law ["_law_script"] (C8.fnScope st_law) := C8.fnScope_by (by decide +kernel)
/-- a game: a supply and blocks that pick it whole -/
def WG (H : Hp) (g : Addr) (u v : V) (cs : List Nat) (bs : List Blk) : Prop := H g = some (.tup [u, v]) ∧ TupN H u cs ∧ SeqR H v bs ∧ cs.length ≤ 60 ∧ WS bs ∧ lenB bs = cs.sum
section
variable {a g : Addr} {H H' : Hp} {u v : V} {cs : List Nat} {bs : List Blk}
theorem WG.dr (h : WG H g u v cs bs) (s : SrcAt a H) (d : Dr a H H') : WG H' g u v cs bs := ⟨(d.tp s).at h.1, h.2.1.tp (d.tp s), h.2.2.1.dr s d, h.2.2.2⟩
end
section
variable {P : Program} {w : World} {K : PySem.W.Frag} {mg : Str → Option Value} {base : Heap}
def sp__law_wide_right : Sp := fun vs H Q _ => ∃ (a : Addr), vs = [.ref a] ∧ SrcAt a H ∧ ∀ H', Dr a H H' → Q (.bl true) H'
theorem ok__law_wide_right (T : Blt K mg) (dF : Df K mg "_law_wide_right" st__law_wide_right ["_law_source_here"]) (c__law_long_blocks : C8.Cal P w K mg base 3 "_law_long_blocks" sp__law_long_blocks []) (c__law_large_blocks : C8.Cal P w K mg base 3 "_law_large_blocks" sp__law_large_blocks []) (c__law_lists : C8.Cal P w K mg base 4 "_law_lists" sp__law_lists []) (c_end_of : C8.Cal P w K mg base 7 "end_of" sp_end_of []) (c_best_first_picks : C8.Cal P w K mg base 7 "best_first_picks" sp_best_first_picks []) (c__law_course_leads : C8.Cal P w K mg base 8 "_law_course_leads" sp__law_course_leads []) (c_end_course : C8.Cal P w K mg base 7 "end_course" sp_end_course []) : C8.Cal P w K mg base 9 "_law_wide_right" sp__law_wide_right [] := by
  have nd := sc__law_wide_right.nd
  refine cal_of dF sc__law_wide_right (fun vs H Q E h => ?_) (fun cdv A outer s H vs Q E hr h => ?_)
  · obtain ⟨a, rfl, _⟩ := h
    rfl
  · obtain ⟨a, rfl, hs, q⟩ := h
    refine ⟨_, pss_cons (ps_for PassesOwn.never rfl (pi_list (pe_lst (pa_cons (C8.pe_c c__law_long_blocks hr (by decide) (by rfl) (pa_cons (pv 0) pa_nil)) (pa_cons (C8.pe_c c__law_large_blocks hr (by decide) (by rfl) (pa_cons (pv 0) (pa_cons (pe_int) pa_nil))) (pa_cons (C8.pe_c c__law_large_blocks hr (by decide) (by rfl) (pa_cons (pv 0) (pa_cons (pe_int) pa_nil))) pa_nil))))) (pg_tup rfl (pgs_cons (pg_name (i := 1) nd rfl (Or.inl rfl)) (pgs_cons (pg_name (i := 2) nd rfl (Or.inl rfl)) pgs_nil)))
        (pss_cons (ps_set (i := 3) nd rfl (Or.inl rfl) (C8.pe_c c__law_lists hr (by decide) (by rfl) (pa_cons (pv 0) (pa_cons (pe_callB (call_len_seqK (K := K) rfl) (by rfl) T.len_ bb_len (pa_cons (pv 1) pa_nil)) pa_nil))))
        (pss_cons (ps_set (i := 4) nd rfl (Or.inl rfl) (C8.pe_c c_end_of hr (by decide) (by rfl) (pa_cons (pv 1) (pa_cons (pv 3) (pa_cons (pv 2) pa_nil)))))
        (pss_one (ps_if (pt_not (pt_val (C8.pe_c c__law_course_leads hr (by decide) (by rfl) (pa_cons (pv 1) (pa_cons (pv 3) (pa_cons (pv 2) (pa_cons (pv 4) pa_nil)))))))
          (pss_one (ps_ret (pe_bl)))
          (pss_nil))))))
      (pss_cons (ps_par (i := 5) (j := 6) rfl nd rfl rfl (by decide) rfl rfl (pa_cons (C8.pe_c c_best_first_picks hr (by decide) (by rfl) (pa_cons (pv 1) (pa_cons (pv 3) (pa_cons (pv 2) pa_nil)))) (pa_cons (pe_bm PySem.F.plainAttrs_str PySem.F.slot_str_index PySem.F.type_str_index mt_sindex (pe_str) (pa_cons (pe_ix ix_tup (pe_ix ix_list (pv 2) (pe_int) (fun _ _ => rfl)) (pe_int) (fun _ _ => rfl)) pa_nil)) pa_nil)) (by first | rfl | decide +kernel))
      (pss_cons (ps_for PassesOwn.never rfl (pi_range1 (by rfl) T.range_ (pa_cons (pe_int) pa_nil)) (pg_name (i := 7) nd rfl (Or.inl rfl))
        (pss_cons (ps_set (i := 8) nd rfl (Or.inl rfl) (pe_op op_catA (pe_op op_catA (pe_slice sl_tupA (pv 1) po_none (po_some (pv 7))) (pe_tup (pa_cons (pe_op op_sub (pe_ix ix_tup (pv 1) (pv 7) (fun _ _ => rfl)) (pe_int)) pa_nil))) (pe_slice sl_tupA (pv 1) (po_some (pe_op op_add (pv 7) (pe_int))) po_none)))
        (pss_cons (ps_set (i := 9) nd rfl (Or.inl rfl) (pe_ix ix_tup (C8.pe_c c_end_of hr (by decide) (by rfl) (pa_cons (pv 8) (pa_cons (pv 3) (pa_cons (pe_slice sl_list (pv 2) (po_some (pe_int)) po_none) pa_nil)))) (pv 6) (fun _ _ => rfl)))
        (pss_cons (ps_set (i := 10) nd rfl (Or.inl rfl) (pe_cmpR (op_eqD hr.units) (pe_op op_catA (pe_op op_catA (pe_slice sl_tupA (pv 9) po_none (po_some (pv 7))) (pe_tup (pa_cons (pe_op op_add (pe_ix ix_tup (pv 9) (pv 7) (fun _ _ => rfl)) (pe_int)) pa_nil))) (pe_slice sl_tupA (pv 9) (po_some (pe_op op_add (pv 7) (pe_int))) po_none)) (pe_ix ix_tup (pv 4) (pv 6) (fun _ _ => rfl)) (nomark _)))
        (pss_one (ps_if (pt_cmpR op_ne (pv 10) (pe_cmpR op_in_seq (pv 7) (pv 5) (by rfl)) (nomark _))
          (pss_one (ps_ret (pe_bl)))
          (pss_nil)))))))
      (pss_one (ps_ret (pe_and (pe_cmpR (op_neD hr.units) (pv 5) (pe_lst (pa_nil)) (nomark _)) (pe_one (pe_cmpR op_in_seq (pe_ix ix_tup (pe_ix ix_tup (pe_ix ix_list (C8.pe_c c_end_course hr (by decide) (by rfl) (pa_cons (pv 1) (pa_cons (pv 3) (pa_cons (pv 2) pa_nil)))) (pe_int) (fun _ _ => rfl)) (pe_int) (fun _ _ => rfl)) (pe_int) (fun _ _ => rfl)) (pv 5) (by rfl)))))))), ?_⟩
    refine ⟨.ref a, rfl, a, rfl, hs, fun g0 u0 v0 cs0 bs0 H1 d1 hg0 hu0 hv0 hc0 hw0 hl0 hb0 => ?_⟩
    have W0 : WG H1 g0 u0 v0 cs0 bs0 := ⟨hg0, hu0, hv0, by omega, hw0, hl0⟩
    refine ⟨.ref a, rfl, a, 60, rfl, d1.2, by decide, by decide, fun g1 u1 v1 cs1 bs1 p1 H2 d2 hg1 hu1 hv1 hc1 hw1 hl1 hb1 _ => ?_⟩
    have W1 : WG H2 g1 u1 v1 cs1 (([p1], 1) :: bs1) := ⟨hg1, hu1, hv1, by omega, hw1, hl1⟩
    refine ⟨.ref a, rfl, a, 5, rfl, d2.2, by decide, by decide, fun g2 u2 v2 cs2 bs2 p H3 d3 hg2 hu2 hv2 hc2 hw2 hl2 hb2 hpos => ?_⟩
    have W2 : WG H3 g2 u2 v2 cs2 (([p], 1) :: bs2) := ⟨hg2, hu2, hv2, by omega, hw2, hl2⟩
    refine ⟨(show 3 ≤ sizeLine from line (by decide)), fun pl npl => ?_⟩
    have s4 := same_new (o := .lst [.ref g0, .ref g1, .ref g2]) npl
    have dd4 := Dr.of d3.2 s4
    have W0' := (W0.dr d1.2 (d2.trans d3)).dr d3.2 dd4
    have W1' := (W1.dr d2.2 d3).dr d3.2 dd4
    have W2' := W2.dr d3.2 dd4
    have hpl : upd H3 pl (.lst [.ref g0, .ref g1, .ref g2]) pl = some (.lst [.ref g0, .ref g1, .ref g2]) := upd_same
    have npla := d3.2.ne npl
    have d4 := (d1.trans (d2.trans d3)).same s4
    generalize upd H3 pl (.lst [.ref g0, .ref g1, .ref g2]) = H4 at *
    have hG : ∀ (i : Nat) x, [V.ref g0, V.ref g1, V.ref g2][i]? = some x → ∃ g u v cs bs, x = .ref g ∧ WG H4 g u v cs bs ∧ (i = 2 → u = u2 ∧ v = v2 ∧ cs = cs2 ∧ bs = ([p], 1) :: bs2) := fun i x h => by
      match i, h with
      | 0, h => exact ⟨g0, u0, v0, cs0, bs0, (Option.some.inj h).symm, W0', fun z => (nomatch z)⟩
      | 1, h => exact ⟨g1, u1, v1, cs1, _, (Option.some.inj h).symm, W1', fun z => (nomatch z)⟩
      | 2, h => exact ⟨g2, u2, v2, cs2, _, (Option.some.inj h).symm, W2', fun _ => ⟨rfl, rfl, rfl, rfl⟩⟩
      | n + 3, h => simp at h
    refine ⟨pl, rfl, ⟨_, SqL.of hpl⟩, ?_⟩
    refine for_it (walk_list (K := K) (a := pl) (xs := [.ref g0, .ref g1, .ref g2])) (fun i σ H' => Dr a H4 H' ∧ ∃ z1 z2 z3 z4, σ = [some (.ref a), z1, z2, z3, z4, none, none, none, none, none, none] ∧ (i = 3 → ∃ l d L, z1 = some u2 ∧ z2 = some v2 ∧ z3 = some l ∧ z4 = some d ∧ LsR H' l L ∧ WL cs2.length L ∧ LsR H' d (endL cs2 L (expB (([p], 1) :: bs2))))) ⟨Dr.refl d4.2, none, none, none, none, rfl, fun z => (nomatch z)⟩ (fun i σ H' _ p => SqL.of (p.1.1 _ _ npla hpl)) (fun i x σ H5 H' hi pp y => ?_) (fun σ H' pp => ?_)
    · obtain ⟨d5, z1, z2, z3, z4, rfl, _⟩ := pp
      obtain ⟨rfl, hxi⟩ := y
      obtain ⟨g, u, v, cs, bs, rfl, WGi, hi2⟩ := hG i x hxi
      obtain ⟨hg, hu, hv, h60, hw, hsum⟩ := WGi.dr d4.2 d5
      refine ⟨g, _, rfl, SqT.of hg, rfl, _, _, rfl, _, _, rfl, rfl, ?_⟩
      obtain ⟨au, rfl, hau⟩ := hu
      refine ⟨.ref a, rfl, .ref au, rfl, au, _, rfl, .inr (SqT.of hau), a, cs.length, by rw [List.length_map]; rfl, d5.2, by omega, fun l L H6 d6 hl hL => ?_⟩
      have hau6 := (d6.tp d5.2).at hau
      have hu6 : TupN H6 (.ref au) cs := ⟨au, rfl, hau6⟩
      have hv6 := hv.dr d5.2 d6
      refine ⟨.ref au, rfl, l, rfl, v, rfl, .ref au, l, v, cs, L, bs, rfl, hu6, hl, hv6, h60, hL, hw, hsum, fun d H7 s7 hd => ?_⟩
      refine ⟨.ref au, rfl, l, rfl, v, rfl, d, rfl, .ref au, l, v, d, cs, L, bs, rfl, hu6.mono s7, hl.mono s7, hv6.mono s7, hd, h60, hL, hw, hsum, fun H8 s8 => ⟨true, rfl, ?_⟩⟩
      refine ⟨(d5.trans d6).same (s7.trans s8), some (.ref au), some v, some l, some d, rfl, fun hi3 => ?_⟩
      obtain ⟨e1, e2, e3, e4⟩ := hi2 (by omega)
      refine ⟨l, d, L, by rw [e1], by rw [e2], rfl, rfl, (hl.mono s7).mono s8, by rw [← e3]; exact hL, ?_⟩
      rw [← e3, ← e4]
      exact hd.mono s8
    · obtain ⟨d5, z1, z2, z3, z4, rfl, hend⟩ := pp
      obtain ⟨l, due, L, rfl, rfl, rfl, rfl, hl, hL, hdue⟩ := hend rfl
      obtain ⟨hg, hu, hv, h60, hw, hsum⟩ := W2'.dr d4.2 d5
      have d05 := d4.trans d5
      have hT : expB (([p], 1) :: bs2) = p :: expB bs2 := by
        rw [expB_cons]
        rfl
      have hTl : (expB bs2).length + 1 = cs2.sum := by
        rw [← hsum, ← expB_len, hT]
        rfl
      rw [hT] at hdue
      refine ⟨u2, rfl, l, rfl, v2, rfl, u2, l, v2, cs2, L, ([p], 1) :: bs2, rfl, hu, hl, hv, h60, hL, hw, hsum, fun told H1 s1 htold => ?_⟩
      rw [hT] at htold
      have hwr : WS bs2 := ⟨by have := hw.1; rw [List.length_cons] at this; omega, fun b hb => hw.2 b (List.mem_cons_of_mem _ hb)⟩
      generalize hT0 : expB bs2 = T0 at *
      obtain ⟨av, xs, rfl, hav, hxs⟩ := hv.mono s1
      obtain ⟨x0, ex0, c, rfl, hc⟩ := hxs.get (i := 0) rfl
      have hc : H1 c = some (.tup [.str (txt [p]), vN 1]) := hc
      obtain ⟨ro, hro⟩ := occ_AB p
      refine ⟨rfl, .ref av, rfl, av, _, 0, _, rfl, rfl, SqL.of hav, atI_nat (j := 0) ex0, c, _, 0, _, rfl, rfl, SqT.of hc, atI_nat (j := 0) rfl, ?_⟩
      refine ⟨Str.ofString "AB", txt [p], pix p, ro, rfl, rfl, hro, _, _, rfl, ?_⟩
      have hdue4 := hdue.mono s1
      obtain ⟨ad, xd, yd, zd, rfl, had, hzd, hdz⟩ := lsr_at hdue4 p
      have hdz : TupN H1 zd (bun cs2.length p (TG.E cs2 L (p :: T0))) := hdz
      obtain ⟨au, rfl, hau⟩ := hu.mono s1
      have hu4 : TupN H1 (.ref au) cs2 := ⟨au, rfl, hau⟩
      have hl4 := hl.mono s1
      refine ⟨5, rfl, by decide, by decide, ?_⟩
      refine for_it (walk_range (lo := 0)) (fun i σ Hx => Same H1 Hx ∧ ∃ z7 z8 z9 z10, σ = [some (.ref a), some (.ref au), some (.ref av), some l, some (.ref ad), some (.ref told), some (.int (pix p)), z7, z8, z9, z10]) ⟨Same.refl _, none, none, none, none, rfl⟩ (fun i σ Hx _ p => trivial) (fun k x σ H6 Hy hi pp y => ?_) (fun σ Hy pp => ?_)
      · obtain ⟨s6, z7, z8, z9, z10, rfl⟩ := pp
        obtain ⟨ey, hx0⟩ := y
        subst ey
        have hx : x = vN k := hx0.trans (by show V.int (0 + (k : Int)) = V.int (k : Int); congr 1; omega)
        subst hx
        have hk5 : k < 5 := hi
        have hkK : k < cs2.length := by omega
        have h0 := hpos k hk5
        refine wi (k := k) (m := fn cs2 k - 1) rfl rfl (hu4.mono s6) hkK (by omega) (by show V.int ((fn cs2 k : Int) - 1) = V.int ((fn cs2 k - 1 : Nat) : Int); congr 1; omega) fun fv H7 s7 hfv => ?_
        have s47 := s6.trans s7
        have hds := decr_sum h0
        have hdl := decr_len cs2 k
        refine ⟨fv, rfl, l, rfl, .ref av, rfl, 1, rfl, av, _, rfl, SqL.of (s47 _ _ hav), fun pr npr => ?_⟩
        have s8 := same_new (o := .lst (cutV xs (some 1) none)) npr
        have s48 := s47.trans s8
        have e8 : cutV xs (some 1) none = xs.drop 1 := cut_lo xs 1
        have hr : SeqR (upd H7 pr (.lst (cutV xs (some 1) none))) (.ref pr) bs2 := by
          refine ⟨pr, _, rfl, upd_same, ?_⟩
          have hd : All2 (BlkR H1) (xs.drop 1) bs2 := hxs.drop 1
          rw [← e8] at hd
          exact hd.mono fun _ _ z => z.mono s48
        have hlr : lenB bs2 = (decr cs2 k).sum := by rw [← expB_len, hT0]; omega
        refine ⟨fv, l, .ref pr, decr cs2 k, L, bs2, rfl, hfv.mono s8, hl4.mono s48, hr, by omega, by rw [hdl]; exact hL, hwr, hlr, fun lv H8 s9 hlv => ?_⟩
        obtain ⟨al, x', y', zl, rfl, hal, hzl, hlat⟩ := lsr_at hlv p
        have hlat : TupN H8 zl (bun (decr cs2 k).length p (TG.E (decr cs2 k) L (expB bs2))) := hlat
        rw [hdl, hT0] at hlat
        refine ⟨.int (pix p), rfl, al, _, (pix p : Int), zl, rfl, rfl, SqT.of hal, atI_nat hzl, ?_⟩
        refine wi (k := k) (m := fn (bun cs2.length p (TG.E (decr cs2 k) L T0)) k + 1) rfl rfl hlat (by rw [bun_len]; exact hkK) (by rw [bun_len]; omega) rfl fun iv H9 s10 hiv => ?_
        have hiv : TupN H9 iv (incr (bun cs2.length p (TG.E (decr cs2 k) L T0)) k) := hiv
        have s49 := (s48.trans s9).trans s10
        refine ⟨.ref ad, rfl, .int (pix p), rfl, ad, _, (pix p : Int), zd, rfl, rfl, SqT.of (s49 _ _ had), atI_nat hzd, dT _, dT _, hiv.dp, (hdz.mono s49).dp, shT _, shT _, ?_⟩
        rw [eqT, firsts_mem hL hkK h0]
        refine ⟨_, rfl, vN k, rfl, .ref told, rfl, told, _, rfl, .inl (SqL.of (s49 _ _ htold)), rfl, flat_nats _, ?_⟩
        refine ⟨rfl, false, ?_, s49, _, _, _, _, rfl⟩
        show V.bl (!decide (V.bl (decide (k ∈ firsts cs2.length cs2 L (p :: T0))) = V.bl (inV (vN k) ((firsts cs2.length cs2 L (p :: T0)).map vN)))) = V.bl false
        rw [inV_nat, decide_eq_true rfl]
        rfl
      · obtain ⟨s6, z7, z8, z9, z10, rfl⟩ := pp
        refine ⟨.ref told, rfl, (show 0 ≤ sizeLine from line (by decide)), fun p9 n9 => ?_⟩
        have s7 := same_new (o := .lst []) n9
        have s47 := s6.trans s7
        refine ⟨dL _, .list [], dp_lst (s47 _ _ htold), .lst (SqL.of upd_same) .nil, shL _, dl_empty, ?_⟩
        rw [dL_nil]
        obtain ⟨k1, hk1, _⟩ : ∃ k, k ∈ firsts cs2.length cs2 L (p :: T0) ∧ True := by
          obtain ⟨k, e, _, _⟩ := E_cons (wl_has hL) (cs := cs2) (p := p) (T := T0) rfl hTl
          exact ⟨_, (firsts_last (wl_has hL) rfl hTl e).2, trivial⟩
        have hne : ¬ firsts cs2.length cs2 L (p :: T0) = [] := fun z => by rw [z] at hk1; cases hk1
        rw [decide_eq_false hne]
        generalize upd Hy p9 (.lst []) = H7 at *
        refine ⟨true, rfl, ?_⟩
        refine ⟨.ref au, rfl, l, rfl, .ref av, rfl, .ref au, l, .ref av, cs2, L, ([p], 1) :: bs2, rfl, hu4.mono s47, hl4.mono s47, SeqR.mono s47 ⟨av, xs, rfl, hav, hxs⟩, h60, hL, hw, hsum, fun cv rs H8 s8 hcv hwc hexp => ?_⟩
        rw [hT] at hexp
        obtain ⟨r0, k0, hr0, hk0, hkf⟩ := course_first hL hTl hwc.2 hexp
        obtain ⟨ac, ys, rfl, hac, hys⟩ := hcv
        obtain ⟨y0, hy0, ra, kb, rfl, hra, hkb⟩ := hys.get hr0
        refine ⟨ac, _, 0, _, rfl, rfl, SqL.of hac, atI_nat (j := 0) hy0, ra, _, 1, _, rfl, rfl, SqT.of hra, atI_nat (j := 1) rfl, kb, _, 0, vN k0, rfl, rfl, rdT hkb, atI_nat (j := 0) (at_vN hk0), .ref told, rfl, told, _, rfl, .inl (SqL.of ((s47.trans s8) _ _ htold)), rfl, flat_nats _, ?_⟩
        have e5 : inV (vN k0) ((firsts cs2.length cs2 L (p :: T0)).map vN) = true := by
          rw [inV_nat]
          exact decide_eq_true hkf
        have res := q _ (d05.same ((s1.trans s47).trans s8))
        rw [← e5] at res
        exact res
theorem same_dr {H0 H1 H2 : Hp} {a : Addr} (s : Same H0 H1) (n : H0 a = none) (d : Dr a H1 H2) : Same H0 H2 := fun p o e => d.1 p o (fun z => by rw [z, n] at e; cases e) (s p o e)
theorem sql_same {H H' : Hp} {p : Addr} {xs : List V} (h : SqL K H p xs) (s : Same H H') : SqL K H' p xs := by
  rcases h with h | h
  · rcases h with h | ⟨o, h⟩
    · exact .inl (.inl (s _ _ h))
    · exact .inl (.inr ⟨o, s _ _ h⟩)
  · exact .inr h
def sp_law (K : PySem.W.Frag) : Sp := fun vs H Q _ => ∃ (p : Addr) (zs : List Int), vs = [.ref p] ∧ SqL K H p (zs.map V.int) ∧ zs.length ≤ 63 ∧ ∀ H', Q (.bl true) H'
theorem ok_law {f : Addr} {fd : FuncData} (T : Blt K mg) (F : C8.Fun K "law" "law" st_law f fd) (c__law_wide_right : C8.Cal P w K mg base 9 "_law_wide_right" sp__law_wide_right []) (c__law_source : C8.Cal P w K mg base 1 "_law_source" sp__law_source []) (c__law_whole_game : C8.Cal P w K mg base 5 "_law_whole_game" sp__law_whole_game []) (c__law_cell_at : C8.Cal P w K mg base 1 "_law_cell_at" (sp__law_cell_at K) []) (c__law_turned_right : C8.Cal P w K mg base 8 "_law_turned_right" sp__law_turned_right []) (c__law_first_right : C8.Cal P w K mg base 8 "_law_first_right" sp__law_first_right []) (c__law_course_right : C8.Cal P w K mg base 8 "_law_course_right" sp__law_course_right []) (c__law_renamed_right : C8.Cal P w K mg base 8 "_law_renamed_right" sp__law_renamed_right []) : FnOk P w K mg base C8.CX0 10 f fd ["_law_script"] (sp_law K) := by
  have nd := sc_law.nd
  refine C8.fn0 F sc_law (fun vs H Q E h => ?_) (fun cdv A outer s H vs Q E hr h => ?_)
  · obtain ⟨p, zs, rfl, _⟩ := h
    rfl
  · obtain ⟨p, zs, rfl, hz, h63, q⟩ := h
    refine ⟨_, pss_cons (ps_for PassesOwn.never rfl (pi_list (pe_op op_cat (pe_lst (pa_cons (C8.pe_c c__law_cell_at hr (by decide) (by rfl) (pa_cons (pv 0) (pa_cons (pe_int) pa_nil))) pa_nil)) (pe_slice sl_list (pv 0) (po_some (pe_int)) (po_some (pe_int))))) (pg_name (i := 1) nd rfl (Or.inl rfl))
        (pss_cons (ps_set (i := 2) nd rfl (Or.inl rfl) (C8.pe_c c__law_source hr (by decide) (by rfl) (pa_cons (pv 1) pa_nil)))
        (pss_cons (ps_asg (C8.pe_c c__law_whole_game hr (by decide) (by rfl) (pa_cons (pv 2) pa_nil)) (pg_tup rfl (pgs_cons (pg_name (i := 3) nd rfl (Or.inl rfl)) (pgs_cons (pg_name (i := 4) nd rfl (Or.inl rfl)) (pgs_cons (pg_name (i := 5) nd rfl (Or.inl rfl)) pgs_nil)))))
        (pss_cons (ps_if (pt_not (pt_val (C8.pe_c c__law_turned_right hr (by decide) (by rfl) (pa_cons (pv 3) (pa_cons (pv 4) (pa_cons (pv 5) pa_nil))))))
          (pss_one (ps_ret (pe_bl)))
          (pss_nil))
        (pss_cons (ps_if (pt_not (pt_val (C8.pe_c c__law_first_right hr (by decide) (by rfl) (pa_cons (pv 3) (pa_cons (pv 4) (pa_cons (pv 5) pa_nil))))))
          (pss_one (ps_ret (pe_bl)))
          (pss_nil))
        (pss_cons (ps_if (pt_not (pt_val (C8.pe_c c__law_course_right hr (by decide) (by rfl) (pa_cons (pv 2) (pa_cons (pv 3) (pa_cons (pv 4) (pa_cons (pv 5) pa_nil)))))))
          (pss_one (ps_ret (pe_bl)))
          (pss_nil))
        (pss_one (ps_if (pt_not (pt_val (C8.pe_c c__law_renamed_right hr (by decide) (by rfl) (pa_cons (pv 2) (pa_cons (pv 3) (pa_cons (pv 4) (pa_cons (pv 5) pa_nil)))))))
          (pss_one (ps_ret (pe_bl)))
          (pss_nil)))))))))
      (pss_one (ps_ret (C8.pe_c c__law_wide_right hr (by decide) (by rfl) (pa_cons (C8.pe_c c__law_source hr (by decide) (by rfl) (pa_cons (C8.pe_c c__law_cell_at hr (by decide) (by rfl) (pa_cons (pv 0) (pa_cons (pe_int) pa_nil))) pa_nil)) pa_nil)))), ?_⟩
    refine ⟨.ref p, rfl, p, zs, rfl, hz, fun z0 => ⟨(show 1 ≤ sizeLine from line (by decide)), fun p1 n1 => ?_⟩⟩
    have s1 := same_new (o := .lst [.int z0]) n1
    refine ⟨.ref p, rfl, 1, rfl, 5, rfl, p, _, rfl, sql_same hz s1, fun p2 n2 => ?_⟩
    have s2 := same_new (o := .lst (cutV (zs.map V.int) (some 1) (some 5))) n2
    have ecut : ∃ ys : List Int, cutV (zs.map V.int) (some 1) (some 5) = ys.map V.int ∧ ys.length ≤ 63 := by
      refine ⟨(zs.drop 1).take (5 - 1), ?_, ?_⟩
      · rw [List.map_take, List.map_drop]
        exact cut_mid (zs.map V.int) 1 5
      · rw [List.length_take, List.length_drop]
        omega
    obtain ⟨ys, ey, hy⟩ := ecut
    refine ⟨p1, p2, _, _, rfl, rfl, s2 _ _ upd_same, upd_same, ?_, fun p3 n3 => ?_⟩
    · rw [ey, List.length_map]
      exact line (by simp; omega)
    have s3 := same_new (o := .lst ([.int z0] ++ cutV (zs.map V.int) (some 1) (some 5))) n3
    have s03 := (s1.trans s2).trans s3
    have hp3 := upd_same (H := upd (upd H p1 (.lst [.int z0])) p2 (.lst (cutV (zs.map V.int) (some 1) (some 5)))) (a := p3) (o := .lst ([.int z0] ++ cutV (zs.map V.int) (some 1) (some 5)))
    have exs : [V.int z0] ++ cutV (zs.map V.int) (some 1) (some 5) = (z0 :: ys).map V.int := by rw [ey]; rfl
    have hz3 := sql_same hz s03
    generalize upd (upd (upd H p1 (.lst [.int z0])) p2 (.lst (cutV (zs.map V.int) (some 1) (some 5)))) p3 (.lst ([.int z0] ++ cutV (zs.map V.int) (some 1) (some 5))) = H3 at *
    rw [exs] at hp3
    refine ⟨p3, rfl, ⟨_, SqL.of hp3⟩, ?_⟩
    refine for_it (walk_list (K := K) (a := p3) (xs := (z0 :: ys).map V.int)) (fun i σ H' => Same H3 H' ∧ ∃ z1 z2 z3 z4 z5, σ = [some (.ref p), z1, z2, z3, z4, z5]) ⟨Same.refl _, _, _, _, _, _, rfl⟩ (fun i σ H' _ p => SqL.of (p.1 _ _ hp3)) (fun i x σ H4 H' hi pp y => ?_) (fun σ H' pp => ?_)
    · obtain ⟨s4, z1, z2, z3, z4, z5, rfl⟩ := pp
      obtain ⟨rfl, hxi⟩ := y
      obtain ⟨c, rfl⟩ : ∃ c, x = V.int c := by
        rw [List.getElem?_map] at hxi
        obtain ⟨c, _, e⟩ := Option.map_eq_some_iff.mp hxi
        exact ⟨c, e.symm⟩
      refine ⟨.int c, rfl, c, rfl, fun a H5 s5 na hs => ?_⟩
      have s45 := s4.trans s5
      have na3 : H3 a = none := by
        cases e : H3 a with
        | none => rfl
        | some o => rw [s4 _ _ e] at na; cases na
      refine ⟨.ref a, rfl, a, rfl, hs, fun g u l v cs L bs H6 d6 hg hu hl hv h8 hL h7 hwb hsum hbig => ?_⟩
      have hw : WS bs := ⟨by omega, hwb⟩
      refine ⟨g, _, rfl, SqT.of hg, rfl, _, _, rfl, _, _, rfl, _, _, rfl, rfl, ?_⟩
      refine ⟨u, rfl, l, rfl, v, rfl, u, l, v, cs, L, bs, rfl, hu, hl, hv, by omega, hL, hw, hsum, fun H7 s7 => ⟨true, rfl, ?_⟩⟩
      refine ⟨u, rfl, l, rfl, v, rfl, u, l, v, cs, L, bs, rfl, hu.mono s7, hl.mono s7, hv.mono s7, by omega, hL, hw, by omega, hsum, fun H8 s8 => ⟨true, rfl, ?_⟩⟩
      have s78 := s7.trans s8
      have d8 := d6.same s78
      refine ⟨.ref a, rfl, u, rfl, l, rfl, v, rfl, a, u, l, v, cs, L, bs, rfl, d8.2, hu.mono s78, hl.mono s78, hv.mono s78, by omega, hL, hw, by omega, hsum, hbig, fun H9 d9 => ⟨true, rfl, ?_⟩⟩
      have d69 := (Dr.of d6.2 s78).trans d9
      have d09 := d6.trans d69
      refine ⟨.ref a, rfl, u, rfl, l, rfl, v, rfl, a, u, l, v, cs, L, bs, rfl, d09.2, hu.tp (d69.tp d6.2), hl.tp (d69.tp d6.2), hv.dr d6.2 d69, by omega, hL, hw, by omega, hsum, fun H10 d10 => ⟨true, rfl, ?_⟩⟩
      exact ⟨same_dr s45 na3 (d09.trans d10), _, _, _, _, _, rfl⟩
    · obtain ⟨s4, z1, z2, z3, z4, z5, rfl⟩ := pp
      refine ⟨.ref p, rfl, p, zs, rfl, sql_same hz3 s4, fun z => ?_⟩
      refine ⟨z, rfl, fun a H5 s5 na hs => ?_⟩
      exact ⟨a, rfl, hs, fun H6 _ => q H6⟩
end
end TG
namespace TG
open PySem PySem.Spec PyProof.Rows L2 TGZ
theorem df_of {K : PySem.W.Frag} {h : Heap} {mg : Str → Option Value} {x : Str} {st : Stmt} {ps : List Str} {f1 : Addr} (X : K.In h) (G : h.Ns mainGlobals mg) {od an : Option Addr} {sl : Array (Option Value)} {oc kV dc pm cd0 ct : Value}
    (a : PySem.W.nsIn K mainGlobals x = some (some (.ref f1))) (l : K.lookup f1 = some ⟨oc, od, .func (PySem.W.fnOf x x (C8.fnArgs st) (C8.fnBody st) (C8.fnScope st) .none kV dc pm an cd0 ct), sl⟩) (c : PySem.W.codeIn K cd0 x = true) (k : PySem.W.keepIn K (.ref f1) = true)
    (b : ∀ (kV doc pm : Value) (an : Option Addr) (cdv ct : Value) (us : List Value), us.length = ps.length → bindArgs (PySem.W.fnOf x x (C8.fnArgs st) (C8.fnBody st) (C8.fnScope st) .none kV doc pm an cdv ct) ⟨us, []⟩ = pure (ps.zip us)) : Df K mg x st ps := by
  have F : C8.Fun K x x st f1 _ := ⟨⟨_, _, _, _, _, _, _, _, _, _, rfl, l, c⟩⟩
  exact ⟨f1, _, ⟨F, PySem.W.mg_of X G a, k⟩, F.binds rfl b⟩
abbrev BltIn {K : PySem.W.Frag} {h : Heap} (_ : K.In h) (mg : Str → Option Value) : Prop := Blt K mg
abbrev DfIn {K : PySem.W.Frag} {h : Heap} (_ : K.In h) (mg : Str → Option Value) (x : Str) (st : Stmt) (ps : List Str) : Prop := Df K mg x st ps
theorem blt_of {K : PySem.W.Frag} {h : Heap} {mg : Str → Option Value} (X : K.In h) (G : h.Ns mainGlobals mg) {t1 t2 t3 t4 : Tok} {pa : Addr} {o : Obj} {its : Array Value} {n : Nat}
    (z0 : PySem.W.nsIn K mainGlobals "len" = some none) (z1 : PySem.W.nsIn K mainGlobals "sum" = some none) (z2 : PySem.W.nsIn K mainGlobals "min" = some none) (z3 : PySem.W.nsIn K mainGlobals "max" = some none)
    (z4 : PySem.W.nsIn K mainGlobals "all" = some none) (z5 : PySem.W.nsIn K mainGlobals "sorted" = some none) (z6 : PySem.W.nsIn K mainGlobals "isinstance" = some none) (z7 : PySem.W.nsIn K mainGlobals "int" = some none)
    (z8 : PySem.W.nsIn K mainGlobals "bool" = some none) (z9 : PySem.W.nsIn K mainGlobals "str" = some none) (z10 : PySem.W.nsIn K mainGlobals "list" = some none) (z11 : PySem.W.nsIn K mainGlobals "tuple" = some none)
    (z12 : PySem.W.nsIn K mainGlobals "range" = some none) (z13 : PySem.W.nsIn K mainGlobals "reversed" = some none) (z14 : PySem.W.nsIn K mainGlobals "enumerate" = some none) (z15 : PySem.W.nsIn K mainGlobals "zip" = some none)
    (k1 : PySem.W.nsIn K mainGlobals "MAX_KINDS" = some (some (.int 60 t1))) (k2 : PySem.W.nsIn K mainGlobals "MAX_BLOCKS" = some (some (.int 200 t2))) (k3 : PySem.W.nsIn K mainGlobals "MAX_TURNS" = some (some (.int 20 t3))) (k4 : PySem.W.nsIn K mainGlobals "MAX_ROWS" = some (some (.int 1000 t4)))
    (p0 : PySem.W.nsIn K mainGlobals "PLAYERS" = some (some (.ref pa))) (pl : K.lookup pa = some o) (p1 : o.cls = .type "tuple") (p2 : o.dict = none) (p3 : o.data = .seq its n) (p4 : its.size ≤ 1000000) (p5 : Vals [ltr true, ltr false] its.toList) : Blt K mg :=
  { len_ := PySem.W.mg_none_of X G z0, sum_ := PySem.W.mg_none_of X G z1, min_ := PySem.W.mg_none_of X G z2, max_ := PySem.W.mg_none_of X G z3, all_ := PySem.W.mg_none_of X G z4, sorted_ := PySem.W.mg_none_of X G z5, isinstance_ := PySem.W.mg_none_of X G z6, int_ := PySem.W.mg_none_of X G z7,
    bool_ := PySem.W.mg_none_of X G z8, str_ := PySem.W.mg_none_of X G z9, list_ := PySem.W.mg_none_of X G z10, tuple_ := PySem.W.mg_none_of X G z11, range_ := PySem.W.mg_none_of X G z12, reversed_ := PySem.W.mg_none_of X G z13, enumerate_ := PySem.W.mg_none_of X G z14, zip_ := PySem.W.mg_none_of X G z15,
    MAX_KINDS := ⟨_, PySem.W.mg_of X G k1, _, rfl⟩, MAX_BLOCKS := ⟨_, PySem.W.mg_of X G k2, _, rfl⟩, MAX_TURNS := ⟨_, PySem.W.mg_of X G k3, _, rfl⟩, MAX_ROWS := ⟨_, PySem.W.mg_of X G k4, _, rfl⟩,
    pl := ⟨pa, PySem.W.mg_of X G p0, o, its, n, pl, p1, p2, p3, line p4, p5⟩ }
theorem law_mk {P : Program} {w : World} {K : PySem.W.Frag} {h : Heap} {mg : Str → Option Value} {fa f1 : Addr} (X : K.In h) (G : h.Ns mainGlobals mg) (hfa : mg "law" = some (.ref fa)) {od an : Option Addr} {sl : Array (Option Value)} {oc kV dc pm cd0 ct : Value}
    (a : PySem.W.nsIn K mainGlobals "law" = some (some (.ref f1))) (l : K.lookup f1 = some ⟨oc, od, .func (PySem.W.fnOf "law" "law" (C8.fnArgs st_law) (C8.fnBody st_law) (C8.fnScope st_law) .none kV dc pm an cd0 ct), sl⟩) (c : PySem.W.codeIn K cd0 "law" = true) (k : PySem.W.keepIn K (.ref f1) = true) (T : Blt K mg) (d__law_take : Df K mg "_law_take" st__law_take ["_law_source_here", "_law_bound"]) (d__law_pick : Df K mg "_law_pick" st__law_pick ["_law_source_here", "_law_items"]) (d__law_long_blocks : Df K mg "_law_long_blocks" st__law_long_blocks ["_law_source_here"]) (d__law_large_blocks : Df K mg "_law_large_blocks" st__law_large_blocks ["_law_source_here", "_law_many"]) (d__law_shuffled : Df K mg "_law_shuffled" st__law_shuffled ["_law_source_here", "_law_items"]) (d__law_ranking : Df K mg "_law_ranking" st__law_ranking ["_law_source_here", "_law_many"]) (d__law_lists : Df K mg "_law_lists" st__law_lists ["_law_source_here", "_law_many"]) (d_is_integer : Df K mg "is_integer" st_is_integer ["value"]) (d_is_at_least : Df K mg "is_at_least" st_is_at_least ["value", "low"]) (d_is_bundle : Df K mg "is_bundle" st_is_bundle ["value", "many"]) (d_require_counts : Df K mg "require_counts" st_require_counts ["counts"]) (d_is_between : Df K mg "is_between" st_is_between ["value", "low", "high"]) (d_is_list : Df K mg "is_list" st_is_list ["value", "many"]) (d_require_lists : Df K mg "require_lists" st_require_lists ["lists", "many"]) (d_is_turns : Df K mg "is_turns" st_is_turns ["value"]) (d_is_block : Df K mg "is_block" st_is_block ["value"]) (d_require_sequence : Df K mg "require_sequence" st_require_sequence ["sequence"]) (d_require_game : Df K mg "require_game" st_require_game ["counts", "lists", "sequence"]) (d_picks_of : Df K mg "picks_of" st_picks_of ["sequence"]) (d_require_whole : Df K mg "require_whole" st_require_whole ["counts", "lists", "sequence"]) (d_bundles_of : Df K mg "bundles_of" st_bundles_of ["counts", "course"]) (d_best_left : Df K mg "best_left" st_best_left ["left", "ranking"]) (d_own_list : Df K mg "own_list" st_own_list ["lists", "player"]) (d_one_repetition : Df K mg "one_repetition" st_one_repetition ["left", "lists", "turns"]) (d_like_repetitions : Df K mg "like_repetitions" st_like_repetitions ["left", "kinds", "times"]) (d_plain_rows : Df K mg "plain_rows" st_plain_rows ["counts", "lists", "sequence"]) (d_turned_lists : Df K mg "turned_lists" st_turned_lists ["lists"]) (d_turned_rows : Df K mg "turned_rows" st_turned_rows ["counts", "lists", "blocks"]) (d_end_bundles : Df K mg "end_bundles" st_end_bundles ["counts", "lists", "blocks"]) (d_end_of : Df K mg "end_of" st_end_of ["counts", "lists", "sequence"]) (d_without_first : Df K mg "without_first" st_without_first ["sequence"]) (d_with_item : Df K mg "with_item" st_with_item ["bundle", "kind", "number"]) (d_best_first_picks : Df K mg "best_first_picks" st_best_first_picks ["counts", "lists", "sequence"]) (d_end_course : Df K mg "end_course" st_end_course ["counts", "lists", "sequence"]) (d_reversed_sequence : Df K mg "reversed_sequence" st_reversed_sequence ["sequence"]) (d_turned : Df K mg "turned" st_turned ["counts", "lists", "sequence"]) (d_is_row : Df K mg "is_row" st_is_row ["value", "many"]) (d_require_course : Df K mg "require_course" st_require_course ["course", "many"]) (d_play_course : Df K mg "play_course" st_play_course ["counts", "course"]) (d_require_fits : Df K mg "require_fits" st_require_fits ["counts", "sequence"]) (d_plain_game : Df K mg "plain_game" st_plain_game ["counts", "lists", "sequence"]) (d__law_course_leads : Df K mg "_law_course_leads" st__law_course_leads ["_law_supply_here", "_law_lists_here", "_law_blocks_here", "_law_due"]) (d__law_wide_right : Df K mg "_law_wide_right" st__law_wide_right ["_law_source_here"]) (d__law_source : Df K mg "_law_source" st__law_source ["_law_cell"]) (d__law_supply : Df K mg "_law_supply" st__law_supply ["_law_source_here", "_law_most", "_law_wide"]) (d__law_blocks : Df K mg "_law_blocks" st__law_blocks ["_law_source_here", "_law_room", "_law_wide"]) (d__law_whole_game : Df K mg "_law_whole_game" st__law_whole_game ["_law_source_here"]) (d__law_cell_at : Df K mg "_law_cell_at" st__law_cell_at ["_law_script", "_law_k"]) (d_first_unlike : Df K mg "first_unlike" st_first_unlike ["one", "other"]) (d_first_difference : Df K mg "first_difference" st_first_difference ["one", "other"]) (d__law_turned_right : Df K mg "_law_turned_right" st__law_turned_right ["_law_supply_here", "_law_lists_here", "_law_blocks_here"]) (d_rest_of : Df K mg "rest_of" st_rest_of ["sequence", "picks"]) (d__law_first_right : Df K mg "_law_first_right" st__law_first_right ["_law_supply_here", "_law_lists_here", "_law_blocks_here"]) (d__law_course_right : Df K mg "_law_course_right" st__law_course_right ["_law_source_here", "_law_supply_here", "_law_lists_here", "_law_blocks_here"]) (d__law_renamed_right : Df K mg "_law_renamed_right" st__law_renamed_right ["_law_source_here", "_law_supply_here", "_law_lists_here", "_law_blocks_here"]) :
    ∃ fd : FuncData, (∀ (s : Shared) (v : Value), BindsTo s fd ⟨[v], []⟩ [("_law_script", v)]) ∧ ∀ base : Heap, K.In base → base.Ns mainGlobals mg → FnOk P w K mg base C8.CX0 10 fa fd ["_law_script"] (sp_law K) := by
  have e := hfa.symm.trans (PySem.W.mg_of X G a)
  cases e
  refine ⟨PySem.W.fnOf "law" "law" (C8.fnArgs st_law) (C8.fnBody st_law) (C8.fnScope st_law) .none kV dc pm an cd0 ct, fun s v => .of_eq rfl, fun base _ _ => ?_⟩
  have c__law_take := ok__law_take (P := P) (w := w) (base := base) T d__law_take
  have c__law_pick := ok__law_pick (P := P) (w := w) (base := base) T d__law_pick c__law_take
  have c__law_long_blocks := ok__law_long_blocks (P := P) (w := w) (base := base) T d__law_long_blocks c__law_take c__law_pick
  have c__law_large_blocks := ok__law_large_blocks (P := P) (w := w) (base := base) T d__law_large_blocks c__law_pick c__law_take
  have c__law_shuffled := ok__law_shuffled (P := P) (w := w) (base := base) T d__law_shuffled c__law_take
  have c__law_ranking := ok__law_ranking (P := P) (w := w) (base := base) T d__law_ranking c__law_shuffled
  have c__law_lists := ok__law_lists (P := P) (w := w) (base := base) T d__law_lists c__law_ranking c__law_take
  have c_is_integer := ok_is_integer (P := P) (w := w) (base := base) T d_is_integer
  have c_is_at_least := ok_is_at_least (P := P) (w := w) (base := base) T d_is_at_least c_is_integer
  have c_is_bundle := ok_is_bundle (P := P) (w := w) (base := base) T d_is_bundle c_is_at_least
  have c_require_counts := ok_require_counts (P := P) (w := w) (base := base) T d_require_counts c_is_bundle
  have c_is_between := ok_is_between (P := P) (w := w) (base := base) T d_is_between c_is_integer
  have c_is_list := ok_is_list (P := P) (w := w) (base := base) T d_is_list c_is_between
  have c_require_lists := ok_require_lists (P := P) (w := w) (base := base) T d_require_lists c_is_list
  have c_is_turns := ok_is_turns (P := P) (w := w) (base := base) T d_is_turns
  have c_is_block := ok_is_block (P := P) (w := w) (base := base) T d_is_block c_is_turns c_is_at_least
  have c_require_sequence := ok_require_sequence (P := P) (w := w) (base := base) T d_require_sequence c_is_block
  have c_require_game := ok_require_game (P := P) (w := w) (base := base) T d_require_game c_require_counts c_require_lists c_require_sequence
  have c_picks_of := ok_picks_of (P := P) (w := w) (base := base) T d_picks_of
  have c_require_whole := ok_require_whole (P := P) (w := w) (base := base) T d_require_whole c_require_game c_picks_of
  have c_bundles_of := ok_bundles_of (P := P) (w := w) (base := base) T d_bundles_of
  have c_best_left := ok_best_left (P := P) (w := w) (base := base) T d_best_left
  have c_own_list := ok_own_list (P := P) (w := w) (base := base) T d_own_list
  have c_one_repetition := ok_one_repetition (P := P) (w := w) (base := base) T d_one_repetition c_best_left c_own_list
  have c_like_repetitions := ok_like_repetitions (P := P) (w := w) (base := base) T d_like_repetitions
  have c_plain_rows := ok_plain_rows (P := P) (w := w) (base := base) T d_plain_rows c_one_repetition c_like_repetitions
  have c_turned_lists := ok_turned_lists (P := P) (w := w) (base := base) T d_turned_lists
  have c_turned_rows := ok_turned_rows (P := P) (w := w) (base := base) T d_turned_rows c_plain_rows c_turned_lists
  have c_end_bundles := ok_end_bundles (P := P) (w := w) (base := base) T d_end_bundles c_bundles_of c_turned_rows
  have c_end_of := ok_end_of (P := P) (w := w) (base := base) T d_end_of c_require_whole c_end_bundles
  have c_without_first := ok_without_first (P := P) (w := w) (base := base) T d_without_first
  have c_with_item := ok_with_item (P := P) (w := w) (base := base) T d_with_item
  have c_best_first_picks := ok_best_first_picks (P := P) (w := w) (base := base) T d_best_first_picks c_require_whole c_own_list c_picks_of c_without_first c_end_bundles c_with_item
  have c_end_course := ok_end_course (P := P) (w := w) (base := base) T d_end_course c_require_whole c_turned_rows
  have c_reversed_sequence := ok_reversed_sequence (P := P) (w := w) (base := base) T d_reversed_sequence c_require_sequence
  have c_turned := ok_turned (P := P) (w := w) (base := base) T d_turned c_require_whole c_turned_lists c_reversed_sequence
  have c_is_row := ok_is_row (P := P) (w := w) (base := base) T d_is_row c_is_turns c_is_at_least c_is_between
  have c_require_course := ok_require_course (P := P) (w := w) (base := base) T d_require_course c_is_row
  have c_play_course := ok_play_course (P := P) (w := w) (base := base) T d_play_course c_require_counts c_require_course c_bundles_of
  have c_require_fits := ok_require_fits (P := P) (w := w) (base := base) T d_require_fits c_picks_of
  have c_plain_game := ok_plain_game (P := P) (w := w) (base := base) T d_plain_game c_require_game c_require_fits c_bundles_of c_plain_rows
  have c__law_course_leads := ok__law_course_leads (P := P) (w := w) (base := base) T d__law_course_leads c_end_course c_turned c_play_course c_plain_game
  have c__law_wide_right := ok__law_wide_right (P := P) (w := w) (base := base) T d__law_wide_right c__law_long_blocks c__law_large_blocks c__law_lists c_end_of c_best_first_picks c__law_course_leads c_end_course
  have c__law_source := ok__law_source (P := P) (w := w) (base := base) T d__law_source
  have c__law_supply := ok__law_supply (P := P) (w := w) (base := base) T d__law_supply c__law_take c__law_pick
  have c__law_blocks := ok__law_blocks (P := P) (w := w) (base := base) T d__law_blocks c__law_take c__law_pick
  have c__law_whole_game := ok__law_whole_game (P := P) (w := w) (base := base) T d__law_whole_game c__law_pick c__law_supply c__law_blocks c__law_lists
  have c__law_cell_at := ok__law_cell_at (P := P) (w := w) (base := base) T d__law_cell_at
  have c_first_unlike := ok_first_unlike (P := P) (w := w) (base := base) T d_first_unlike
  have c_first_difference := ok_first_difference (P := P) (w := w) (base := base) T d_first_difference c_require_sequence c_first_unlike
  have c__law_turned_right := ok__law_turned_right (P := P) (w := w) (base := base) T d__law_turned_right c_end_of c_turned c_end_course c_first_difference c_plain_game c_play_course c_reversed_sequence
  have c_rest_of := ok_rest_of (P := P) (w := w) (base := base) T d_rest_of c_require_sequence c_is_between c_picks_of
  have c__law_first_right := ok__law_first_right (P := P) (w := w) (base := base) T d__law_first_right c_end_of c_best_first_picks c_rest_of c_end_course
  have c__law_course_right := ok__law_course_right (P := P) (w := w) (base := base) T d__law_course_right c_end_course c__law_take c_play_course c_best_first_picks c_rest_of
  have c__law_renamed_right := ok__law_renamed_right (P := P) (w := w) (base := base) T d__law_renamed_right c_end_of c__law_shuffled
  exact ok_law T ⟨⟨_, _, _, _, _, _, _, _, _, _, rfl, l, c⟩⟩ c__law_wide_right c__law_source c__law_whole_game c__law_cell_at c__law_turned_right c__law_first_right c__law_course_right c__law_renamed_right
end TG
open PySem PySem.W PyProof.Rows
set_option maxHeartbeats 0 in
theorem PySem.Challenge.cw_turnpicks_k39_whole_the_turned_game_holds : PySem.Challenge.rw_turnpicks_k39_whole_the_turned_game.Holds := by
  w_on; o_law; k_head; (case hw => w_witness2)
  k_fill
  refine L2.walk_ofB (l := PySem.Challenge.rw_turnpicks_k39_whole_the_turned_game) (n := 63) (k := 10) (x := "_law_script") (CX := fun _ => C8.CX0) (sp := fun w => TG.sp_law _) rfl (by decide) rfl ⟨rfl, by decide, by decide⟩ (fun w h Y => PySem.W.kIn_of Y) ?F (fun _ _ a ns hl _ _ hS => ⟨a, ns, rfl, hS, hl, fun _ => rfl⟩) (fun _ _ _ _ _ h => h)
  case F =>
    intro w mg fa h KX G hmg
    have T : TG.BltIn KX mg := by
      refine' TG.blt_of KX G ?z0 ?z1 ?z2 ?z3 ?z4 ?z5 ?z6 ?z7 ?z8 ?z9 ?z10 ?z11 ?z12 ?z13 ?z14 ?z15 ?k1 ?k2 ?k3 ?k4 ?pa ?pl ?p1 ?p2 ?p3 ?p4 ?p5
      (case z0 => k_is)
      (case z1 => k_is)
      (case z2 => k_is)
      (case z3 => k_is)
      (case z4 => k_is)
      (case z5 => k_is)
      (case z6 => k_is)
      (case z7 => k_is)
      (case z8 => k_is)
      (case z9 => k_is)
      (case z10 => k_is)
      (case z11 => k_is)
      (case z12 => k_is)
      (case z13 => k_is)
      (case z14 => k_is)
      (case z15 => k_is)
      (case k1 => k_is)
      (case k2 => k_is)
      (case k3 => k_is)
      (case k4 => k_is)
      (case pa => k_is)
      (case pl => k_is)
      (case p1 => rfl)
      (case p2 => rfl)
      (case p3 => rfl)
      (case p4 => decide)
      (case p5 => exact .cons ⟨_, rfl⟩ (.cons ⟨_, rfl⟩ .nil))
    have d__law_take : TG.DfIn KX mg "_law_take" TG.st__law_take ["_law_source_here", "_law_bound"] := by
      refine' TG.df_of KX G ?a ?l ?c ?k ?b
      (case a => k_is); (case l => k_is); (case c => k_is); (case k => k_is)
      (case b => exact fun _ _ _ _ _ _ us hl => match us, hl with | [_, _], _ => rfl)
    have d__law_pick : TG.DfIn KX mg "_law_pick" TG.st__law_pick ["_law_source_here", "_law_items"] := by
      refine' TG.df_of KX G ?a ?l ?c ?k ?b
      (case a => k_is); (case l => k_is); (case c => k_is); (case k => k_is)
      (case b => exact fun _ _ _ _ _ _ us hl => match us, hl with | [_, _], _ => rfl)
    have d__law_long_blocks : TG.DfIn KX mg "_law_long_blocks" TG.st__law_long_blocks ["_law_source_here"] := by
      refine' TG.df_of KX G ?a ?l ?c ?k ?b
      (case a => k_is); (case l => k_is); (case c => k_is); (case k => k_is)
      (case b => exact fun _ _ _ _ _ _ us hl => match us, hl with | [_], _ => rfl)
    have d__law_large_blocks : TG.DfIn KX mg "_law_large_blocks" TG.st__law_large_blocks ["_law_source_here", "_law_many"] := by
      refine' TG.df_of KX G ?a ?l ?c ?k ?b
      (case a => k_is); (case l => k_is); (case c => k_is); (case k => k_is)
      (case b => exact fun _ _ _ _ _ _ us hl => match us, hl with | [_, _], _ => rfl)
    have d__law_shuffled : TG.DfIn KX mg "_law_shuffled" TG.st__law_shuffled ["_law_source_here", "_law_items"] := by
      refine' TG.df_of KX G ?a ?l ?c ?k ?b
      (case a => k_is); (case l => k_is); (case c => k_is); (case k => k_is)
      (case b => exact fun _ _ _ _ _ _ us hl => match us, hl with | [_, _], _ => rfl)
    have d__law_ranking : TG.DfIn KX mg "_law_ranking" TG.st__law_ranking ["_law_source_here", "_law_many"] := by
      refine' TG.df_of KX G ?a ?l ?c ?k ?b
      (case a => k_is); (case l => k_is); (case c => k_is); (case k => k_is)
      (case b => exact fun _ _ _ _ _ _ us hl => match us, hl with | [_, _], _ => rfl)
    have d__law_lists : TG.DfIn KX mg "_law_lists" TG.st__law_lists ["_law_source_here", "_law_many"] := by
      refine' TG.df_of KX G ?a ?l ?c ?k ?b
      (case a => k_is); (case l => k_is); (case c => k_is); (case k => k_is)
      (case b => exact fun _ _ _ _ _ _ us hl => match us, hl with | [_, _], _ => rfl)
    have d_is_integer : TG.DfIn KX mg "is_integer" TG.st_is_integer ["value"] := by
      refine' TG.df_of KX G ?a ?l ?c ?k ?b
      (case a => k_is); (case l => k_is); (case c => k_is); (case k => k_is)
      (case b => exact fun _ _ _ _ _ _ us hl => match us, hl with | [_], _ => rfl)
    have d_is_at_least : TG.DfIn KX mg "is_at_least" TG.st_is_at_least ["value", "low"] := by
      refine' TG.df_of KX G ?a ?l ?c ?k ?b
      (case a => k_is); (case l => k_is); (case c => k_is); (case k => k_is)
      (case b => exact fun _ _ _ _ _ _ us hl => match us, hl with | [_, _], _ => rfl)
    have d_is_bundle : TG.DfIn KX mg "is_bundle" TG.st_is_bundle ["value", "many"] := by
      refine' TG.df_of KX G ?a ?l ?c ?k ?b
      (case a => k_is); (case l => k_is); (case c => k_is); (case k => k_is)
      (case b => exact fun _ _ _ _ _ _ us hl => match us, hl with | [_, _], _ => rfl)
    have d_require_counts : TG.DfIn KX mg "require_counts" TG.st_require_counts ["counts"] := by
      refine' TG.df_of KX G ?a ?l ?c ?k ?b
      (case a => k_is); (case l => k_is); (case c => k_is); (case k => k_is)
      (case b => exact fun _ _ _ _ _ _ us hl => match us, hl with | [_], _ => rfl)
    have d_is_between : TG.DfIn KX mg "is_between" TG.st_is_between ["value", "low", "high"] := by
      refine' TG.df_of KX G ?a ?l ?c ?k ?b
      (case a => k_is); (case l => k_is); (case c => k_is); (case k => k_is)
      (case b => exact fun _ _ _ _ _ _ us hl => match us, hl with | [_, _, _], _ => rfl)
    have d_is_list : TG.DfIn KX mg "is_list" TG.st_is_list ["value", "many"] := by
      refine' TG.df_of KX G ?a ?l ?c ?k ?b
      (case a => k_is); (case l => k_is); (case c => k_is); (case k => k_is)
      (case b => exact fun _ _ _ _ _ _ us hl => match us, hl with | [_, _], _ => rfl)
    have d_require_lists : TG.DfIn KX mg "require_lists" TG.st_require_lists ["lists", "many"] := by
      refine' TG.df_of KX G ?a ?l ?c ?k ?b
      (case a => k_is); (case l => k_is); (case c => k_is); (case k => k_is)
      (case b => exact fun _ _ _ _ _ _ us hl => match us, hl with | [_, _], _ => rfl)
    have d_is_turns : TG.DfIn KX mg "is_turns" TG.st_is_turns ["value"] := by
      refine' TG.df_of KX G ?a ?l ?c ?k ?b
      (case a => k_is); (case l => k_is); (case c => k_is); (case k => k_is)
      (case b => exact fun _ _ _ _ _ _ us hl => match us, hl with | [_], _ => rfl)
    have d_is_block : TG.DfIn KX mg "is_block" TG.st_is_block ["value"] := by
      refine' TG.df_of KX G ?a ?l ?c ?k ?b
      (case a => k_is); (case l => k_is); (case c => k_is); (case k => k_is)
      (case b => exact fun _ _ _ _ _ _ us hl => match us, hl with | [_], _ => rfl)
    have d_require_sequence : TG.DfIn KX mg "require_sequence" TG.st_require_sequence ["sequence"] := by
      refine' TG.df_of KX G ?a ?l ?c ?k ?b
      (case a => k_is); (case l => k_is); (case c => k_is); (case k => k_is)
      (case b => exact fun _ _ _ _ _ _ us hl => match us, hl with | [_], _ => rfl)
    have d_require_game : TG.DfIn KX mg "require_game" TG.st_require_game ["counts", "lists", "sequence"] := by
      refine' TG.df_of KX G ?a ?l ?c ?k ?b
      (case a => k_is); (case l => k_is); (case c => k_is); (case k => k_is)
      (case b => exact fun _ _ _ _ _ _ us hl => match us, hl with | [_, _, _], _ => rfl)
    have d_picks_of : TG.DfIn KX mg "picks_of" TG.st_picks_of ["sequence"] := by
      refine' TG.df_of KX G ?a ?l ?c ?k ?b
      (case a => k_is); (case l => k_is); (case c => k_is); (case k => k_is)
      (case b => exact fun _ _ _ _ _ _ us hl => match us, hl with | [_], _ => rfl)
    have d_require_whole : TG.DfIn KX mg "require_whole" TG.st_require_whole ["counts", "lists", "sequence"] := by
      refine' TG.df_of KX G ?a ?l ?c ?k ?b
      (case a => k_is); (case l => k_is); (case c => k_is); (case k => k_is)
      (case b => exact fun _ _ _ _ _ _ us hl => match us, hl with | [_, _, _], _ => rfl)
    have d_bundles_of : TG.DfIn KX mg "bundles_of" TG.st_bundles_of ["counts", "course"] := by
      refine' TG.df_of KX G ?a ?l ?c ?k ?b
      (case a => k_is); (case l => k_is); (case c => k_is); (case k => k_is)
      (case b => exact fun _ _ _ _ _ _ us hl => match us, hl with | [_, _], _ => rfl)
    have d_best_left : TG.DfIn KX mg "best_left" TG.st_best_left ["left", "ranking"] := by
      refine' TG.df_of KX G ?a ?l ?c ?k ?b
      (case a => k_is); (case l => k_is); (case c => k_is); (case k => k_is)
      (case b => exact fun _ _ _ _ _ _ us hl => match us, hl with | [_, _], _ => rfl)
    have d_own_list : TG.DfIn KX mg "own_list" TG.st_own_list ["lists", "player"] := by
      refine' TG.df_of KX G ?a ?l ?c ?k ?b
      (case a => k_is); (case l => k_is); (case c => k_is); (case k => k_is)
      (case b => exact fun _ _ _ _ _ _ us hl => match us, hl with | [_, _], _ => rfl)
    have d_one_repetition : TG.DfIn KX mg "one_repetition" TG.st_one_repetition ["left", "lists", "turns"] := by
      refine' TG.df_of KX G ?a ?l ?c ?k ?b
      (case a => k_is); (case l => k_is); (case c => k_is); (case k => k_is)
      (case b => exact fun _ _ _ _ _ _ us hl => match us, hl with | [_, _, _], _ => rfl)
    have d_like_repetitions : TG.DfIn KX mg "like_repetitions" TG.st_like_repetitions ["left", "kinds", "times"] := by
      refine' TG.df_of KX G ?a ?l ?c ?k ?b
      (case a => k_is); (case l => k_is); (case c => k_is); (case k => k_is)
      (case b => exact fun _ _ _ _ _ _ us hl => match us, hl with | [_, _, _], _ => rfl)
    have d_plain_rows : TG.DfIn KX mg "plain_rows" TG.st_plain_rows ["counts", "lists", "sequence"] := by
      refine' TG.df_of KX G ?a ?l ?c ?k ?b
      (case a => k_is); (case l => k_is); (case c => k_is); (case k => k_is)
      (case b => exact fun _ _ _ _ _ _ us hl => match us, hl with | [_, _, _], _ => rfl)
    have d_turned_lists : TG.DfIn KX mg "turned_lists" TG.st_turned_lists ["lists"] := by
      refine' TG.df_of KX G ?a ?l ?c ?k ?b
      (case a => k_is); (case l => k_is); (case c => k_is); (case k => k_is)
      (case b => exact fun _ _ _ _ _ _ us hl => match us, hl with | [_], _ => rfl)
    have d_turned_rows : TG.DfIn KX mg "turned_rows" TG.st_turned_rows ["counts", "lists", "blocks"] := by
      refine' TG.df_of KX G ?a ?l ?c ?k ?b
      (case a => k_is); (case l => k_is); (case c => k_is); (case k => k_is)
      (case b => exact fun _ _ _ _ _ _ us hl => match us, hl with | [_, _, _], _ => rfl)
    have d_end_bundles : TG.DfIn KX mg "end_bundles" TG.st_end_bundles ["counts", "lists", "blocks"] := by
      refine' TG.df_of KX G ?a ?l ?c ?k ?b
      (case a => k_is); (case l => k_is); (case c => k_is); (case k => k_is)
      (case b => exact fun _ _ _ _ _ _ us hl => match us, hl with | [_, _, _], _ => rfl)
    have d_end_of : TG.DfIn KX mg "end_of" TG.st_end_of ["counts", "lists", "sequence"] := by
      refine' TG.df_of KX G ?a ?l ?c ?k ?b
      (case a => k_is); (case l => k_is); (case c => k_is); (case k => k_is)
      (case b => exact fun _ _ _ _ _ _ us hl => match us, hl with | [_, _, _], _ => rfl)
    have d_without_first : TG.DfIn KX mg "without_first" TG.st_without_first ["sequence"] := by
      refine' TG.df_of KX G ?a ?l ?c ?k ?b
      (case a => k_is); (case l => k_is); (case c => k_is); (case k => k_is)
      (case b => exact fun _ _ _ _ _ _ us hl => match us, hl with | [_], _ => rfl)
    have d_with_item : TG.DfIn KX mg "with_item" TG.st_with_item ["bundle", "kind", "number"] := by
      refine' TG.df_of KX G ?a ?l ?c ?k ?b
      (case a => k_is); (case l => k_is); (case c => k_is); (case k => k_is)
      (case b => exact fun _ _ _ _ _ _ us hl => match us, hl with | [_, _, _], _ => rfl)
    have d_best_first_picks : TG.DfIn KX mg "best_first_picks" TG.st_best_first_picks ["counts", "lists", "sequence"] := by
      refine' TG.df_of KX G ?a ?l ?c ?k ?b
      (case a => k_is); (case l => k_is); (case c => k_is); (case k => k_is)
      (case b => exact fun _ _ _ _ _ _ us hl => match us, hl with | [_, _, _], _ => rfl)
    have d_end_course : TG.DfIn KX mg "end_course" TG.st_end_course ["counts", "lists", "sequence"] := by
      refine' TG.df_of KX G ?a ?l ?c ?k ?b
      (case a => k_is); (case l => k_is); (case c => k_is); (case k => k_is)
      (case b => exact fun _ _ _ _ _ _ us hl => match us, hl with | [_, _, _], _ => rfl)
    have d_reversed_sequence : TG.DfIn KX mg "reversed_sequence" TG.st_reversed_sequence ["sequence"] := by
      refine' TG.df_of KX G ?a ?l ?c ?k ?b
      (case a => k_is); (case l => k_is); (case c => k_is); (case k => k_is)
      (case b => exact fun _ _ _ _ _ _ us hl => match us, hl with | [_], _ => rfl)
    have d_turned : TG.DfIn KX mg "turned" TG.st_turned ["counts", "lists", "sequence"] := by
      refine' TG.df_of KX G ?a ?l ?c ?k ?b
      (case a => k_is); (case l => k_is); (case c => k_is); (case k => k_is)
      (case b => exact fun _ _ _ _ _ _ us hl => match us, hl with | [_, _, _], _ => rfl)
    have d_is_row : TG.DfIn KX mg "is_row" TG.st_is_row ["value", "many"] := by
      refine' TG.df_of KX G ?a ?l ?c ?k ?b
      (case a => k_is); (case l => k_is); (case c => k_is); (case k => k_is)
      (case b => exact fun _ _ _ _ _ _ us hl => match us, hl with | [_, _], _ => rfl)
    have d_require_course : TG.DfIn KX mg "require_course" TG.st_require_course ["course", "many"] := by
      refine' TG.df_of KX G ?a ?l ?c ?k ?b
      (case a => k_is); (case l => k_is); (case c => k_is); (case k => k_is)
      (case b => exact fun _ _ _ _ _ _ us hl => match us, hl with | [_, _], _ => rfl)
    have d_play_course : TG.DfIn KX mg "play_course" TG.st_play_course ["counts", "course"] := by
      refine' TG.df_of KX G ?a ?l ?c ?k ?b
      (case a => k_is); (case l => k_is); (case c => k_is); (case k => k_is)
      (case b => exact fun _ _ _ _ _ _ us hl => match us, hl with | [_, _], _ => rfl)
    have d_require_fits : TG.DfIn KX mg "require_fits" TG.st_require_fits ["counts", "sequence"] := by
      refine' TG.df_of KX G ?a ?l ?c ?k ?b
      (case a => k_is); (case l => k_is); (case c => k_is); (case k => k_is)
      (case b => exact fun _ _ _ _ _ _ us hl => match us, hl with | [_, _], _ => rfl)
    have d_plain_game : TG.DfIn KX mg "plain_game" TG.st_plain_game ["counts", "lists", "sequence"] := by
      refine' TG.df_of KX G ?a ?l ?c ?k ?b
      (case a => k_is); (case l => k_is); (case c => k_is); (case k => k_is)
      (case b => exact fun _ _ _ _ _ _ us hl => match us, hl with | [_, _, _], _ => rfl)
    have d__law_course_leads : TG.DfIn KX mg "_law_course_leads" TG.st__law_course_leads ["_law_supply_here", "_law_lists_here", "_law_blocks_here", "_law_due"] := by
      refine' TG.df_of KX G ?a ?l ?c ?k ?b
      (case a => k_is); (case l => k_is); (case c => k_is); (case k => k_is)
      (case b => exact fun _ _ _ _ _ _ us hl => match us, hl with | [_, _, _, _], _ => rfl)
    have d__law_wide_right : TG.DfIn KX mg "_law_wide_right" TG.st__law_wide_right ["_law_source_here"] := by
      refine' TG.df_of KX G ?a ?l ?c ?k ?b
      (case a => k_is); (case l => k_is); (case c => k_is); (case k => k_is)
      (case b => exact fun _ _ _ _ _ _ us hl => match us, hl with | [_], _ => rfl)
    have d__law_source : TG.DfIn KX mg "_law_source" TG.st__law_source ["_law_cell"] := by
      refine' TG.df_of KX G ?a ?l ?c ?k ?b
      (case a => k_is); (case l => k_is); (case c => k_is); (case k => k_is)
      (case b => exact fun _ _ _ _ _ _ us hl => match us, hl with | [_], _ => rfl)
    have d__law_supply : TG.DfIn KX mg "_law_supply" TG.st__law_supply ["_law_source_here", "_law_most", "_law_wide"] := by
      refine' TG.df_of KX G ?a ?l ?c ?k ?b
      (case a => k_is); (case l => k_is); (case c => k_is); (case k => k_is)
      (case b => exact fun _ _ _ _ _ _ us hl => match us, hl with | [_, _, _], _ => rfl)
    have d__law_blocks : TG.DfIn KX mg "_law_blocks" TG.st__law_blocks ["_law_source_here", "_law_room", "_law_wide"] := by
      refine' TG.df_of KX G ?a ?l ?c ?k ?b
      (case a => k_is); (case l => k_is); (case c => k_is); (case k => k_is)
      (case b => exact fun _ _ _ _ _ _ us hl => match us, hl with | [_, _, _], _ => rfl)
    have d__law_whole_game : TG.DfIn KX mg "_law_whole_game" TG.st__law_whole_game ["_law_source_here"] := by
      refine' TG.df_of KX G ?a ?l ?c ?k ?b
      (case a => k_is); (case l => k_is); (case c => k_is); (case k => k_is)
      (case b => exact fun _ _ _ _ _ _ us hl => match us, hl with | [_], _ => rfl)
    have d__law_cell_at : TG.DfIn KX mg "_law_cell_at" TG.st__law_cell_at ["_law_script", "_law_k"] := by
      refine' TG.df_of KX G ?a ?l ?c ?k ?b
      (case a => k_is); (case l => k_is); (case c => k_is); (case k => k_is)
      (case b => exact fun _ _ _ _ _ _ us hl => match us, hl with | [_, _], _ => rfl)
    have d_first_unlike : TG.DfIn KX mg "first_unlike" TG.st_first_unlike ["one", "other"] := by
      refine' TG.df_of KX G ?a ?l ?c ?k ?b
      (case a => k_is); (case l => k_is); (case c => k_is); (case k => k_is)
      (case b => exact fun _ _ _ _ _ _ us hl => match us, hl with | [_, _], _ => rfl)
    have d_first_difference : TG.DfIn KX mg "first_difference" TG.st_first_difference ["one", "other"] := by
      refine' TG.df_of KX G ?a ?l ?c ?k ?b
      (case a => k_is); (case l => k_is); (case c => k_is); (case k => k_is)
      (case b => exact fun _ _ _ _ _ _ us hl => match us, hl with | [_, _], _ => rfl)
    have d__law_turned_right : TG.DfIn KX mg "_law_turned_right" TG.st__law_turned_right ["_law_supply_here", "_law_lists_here", "_law_blocks_here"] := by
      refine' TG.df_of KX G ?a ?l ?c ?k ?b
      (case a => k_is); (case l => k_is); (case c => k_is); (case k => k_is)
      (case b => exact fun _ _ _ _ _ _ us hl => match us, hl with | [_, _, _], _ => rfl)
    have d_rest_of : TG.DfIn KX mg "rest_of" TG.st_rest_of ["sequence", "picks"] := by
      refine' TG.df_of KX G ?a ?l ?c ?k ?b
      (case a => k_is); (case l => k_is); (case c => k_is); (case k => k_is)
      (case b => exact fun _ _ _ _ _ _ us hl => match us, hl with | [_, _], _ => rfl)
    have d__law_first_right : TG.DfIn KX mg "_law_first_right" TG.st__law_first_right ["_law_supply_here", "_law_lists_here", "_law_blocks_here"] := by
      refine' TG.df_of KX G ?a ?l ?c ?k ?b
      (case a => k_is); (case l => k_is); (case c => k_is); (case k => k_is)
      (case b => exact fun _ _ _ _ _ _ us hl => match us, hl with | [_, _, _], _ => rfl)
    have d__law_course_right : TG.DfIn KX mg "_law_course_right" TG.st__law_course_right ["_law_source_here", "_law_supply_here", "_law_lists_here", "_law_blocks_here"] := by
      refine' TG.df_of KX G ?a ?l ?c ?k ?b
      (case a => k_is); (case l => k_is); (case c => k_is); (case k => k_is)
      (case b => exact fun _ _ _ _ _ _ us hl => match us, hl with | [_, _, _, _], _ => rfl)
    have d__law_renamed_right : TG.DfIn KX mg "_law_renamed_right" TG.st__law_renamed_right ["_law_source_here", "_law_supply_here", "_law_lists_here", "_law_blocks_here"] := by
      refine' TG.df_of KX G ?a ?l ?c ?k ?b
      (case a => k_is); (case l => k_is); (case c => k_is); (case k => k_is)
      (case b => exact fun _ _ _ _ _ _ us hl => match us, hl with | [_, _, _, _], _ => rfl)
    refine' TG.law_mk KX G hmg ?a ?l ?c ?k T d__law_take d__law_pick d__law_long_blocks d__law_large_blocks d__law_shuffled d__law_ranking d__law_lists d_is_integer d_is_at_least d_is_bundle d_require_counts d_is_between d_is_list d_require_lists d_is_turns d_is_block d_require_sequence d_require_game d_picks_of d_require_whole d_bundles_of d_best_left d_own_list d_one_repetition d_like_repetitions d_plain_rows d_turned_lists d_turned_rows d_end_bundles d_end_of d_without_first d_with_item d_best_first_picks d_end_course d_reversed_sequence d_turned d_is_row d_require_course d_play_course d_require_fits d_plain_game d__law_course_leads d__law_wide_right d__law_source d__law_supply d__law_blocks d__law_whole_game d__law_cell_at d_first_unlike d_first_difference d__law_turned_right d_rest_of d__law_first_right d__law_course_right d__law_renamed_right
    (case a => k_is); (case l => k_is); (case c => k_is); (case k => k_is)
