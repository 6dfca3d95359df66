import PyProof.Rows.All
import Wide.All
import OpenK.AllK
import Wide.FinOn
import KE.GoesZip
import KE.GoesMore
import KE.KDictZip
import HandS.ForMost
import KE.GoesEnum
import KE.GoesEnumKw
import HandS.Walk
import HandS.Rev
import HandS.Style
import HandS.TupAny
import HandS.Conv
import HandS.IsInst
import HandS.Deep
import HandS.Wide
import HandS.StrMore
import HandS.DictComp
import HandS.CallLocal
import HandS.Text
import HandS.Defaults
import HandS.Lambda
import KE.KTupSum
import KE.KIndexOf
import KE.DataFind
import KE.KRevSl
import PyProof.StrOps2
import PyProof.Rows.SeqMore
import PyProof.Rows.SortShell
import PyProof.Rows.InDataRows
import PyProof.AssignAttr
import HandS.Strs
import HandS.Replace
import HandS.Dict
import KE.KNest
import KE.KStateDown
import HandS.Head0
import HandS.Head1
import HandS.Head2
import HandS.HeadEnd
import HandS.HeadHook1
import HandS.HeadHook2
import HandS.HeadHook4
import HandS.HeadWalk
import PySem.Challenge.RW_turnpicks_k60_whole_players_without_loss
set_option Elab.async false
set_option linter.all false
set_option maxRecDepth 100000
section
set_option maxHeartbeats 4000000
/-! zip over two sources of any kind, strict or not, whatever became of the tuple it gave last; at the library's level. -/
namespace TPZ
open PySem PySem.Spec PyProof.Rows
open PySem.Sem (wp)
/-- the zip object: f0, f1 tell of the tuple it gave last -/
abbrev ZipO (h : Heap) (z TI TO : Addr) (f0 : Value) (f1 st : Bool) : Prop :=
  h.get? z = some { cls := .type "zip", dict := none, data := .fields #[f0, .bool f1, .bool st, .ref TI, .ref TO], slots := #[] }
def Held (f0 : Value) : Prop := f0 = .none ∨ ∃ T : Addr, f0 = rawInt T
def Zst (h : Heap) (z TI TO : Addr) (st : Bool) : Prop := ∃ f0 f1, ZipO h z TI TO f0 f1 st ∧ Held f0
theorem Zst.there {h : Heap} {z TI TO : Addr} {st : Bool} (q : Zst h z TI TO st) : ∃ o, h.get? z = some o := by
  obtain ⟨_, _, e, _⟩ := q
  exact ⟨_, e⟩
theorem Zst.of {h h' : Heap} {z TI TO : Addr} {st : Bool} (q : Zst h z TI TO st) (k : ∀ o, h.get? z = some o → h'.get? z = some o) : Zst h' z TI TO st := by
  obtain ⟨f0, f1, e, hf⟩ := q
  exact ⟨f0, f1, k _ e, hf⟩
/-- how zip draws -/
def drw (st : Bool) (it : Value) : Sem (Option Value) := do
  if st then Builtin.SmallTypes.nextOrEnd it else return some (← Builtin.SmallTypes.nextOf it)
section
variable {prog : Program} {w : World} {A : Around} {E : Value → Shared → Prop} {s : Shared} {z TI TO i1 i2 : Addr} {fp1 fp2 : List Addr} {n n1 n2 i : Nat} {P P1 P2 : Nat → Value → Prop} {St St1 St2 : Nat → Heap → Prop} {a1 a2 : Value} {st f1 : Bool} {f0 : Value} {it : Addr} {fp : List Addr}
theorem alive_any {a : Addr} {Q : Option Obj → Shared → Prop} (h : Q (s.heap.get? a) s) : wpAny (model prog w) A (loadIfAlive a) Q E s := fun _ _ _ => h
theorem zst_free {Q : Bool → Shared → Prop} (hz : Zst s.heap z TI TO st) (h : ∀ b h' f0' f1', ZipO h' z TI TO f0' f1' st → Heap.SameBut z s.heap h' → Held f0' → Q b { s with heap := h' }) :
    wpAny (model prog w) A (Builtin.SmallTypes.ownedTupleIsFree (.ref z)) Q E s := by
  obtain ⟨f0, f1, hz, hf⟩ := hz
  unfold Builtin.SmallTypes.ownedTupleIsFree
  rcases hf with rfl | ⟨T, rfl⟩
  · refine wpAny_bind (wpAny_field hz rfl (x := .none) rfl (wpAny_pure ?_))
    exact h true s.heap _ _ hz (Heap.SameBut.refl _ _) (.inl rfl)
  · refine wpAny_bind (wpAny_field hz rfl (x := rawInt T) rfl ?_)
    show wpAny _ _ (loadIfAlive ((T : Int).toNat) >>= _) _ _ _
    rw [Int.toNat_natCast]
    refine wpAny_bind (alive_any ?_)
    cases hT : s.heap.get? T with
    | none =>
      simp only [Option.isNone_none, if_true]
      exact wpAny_pure (h true s.heap _ _ hz (Heap.SameBut.refl _ _) (.inr ⟨T, rfl⟩))
    | some oT =>
      simp only [Option.isNone_some, Bool.false_eq_true, if_false]
      refine wpAny_bind (wpAny_field hz rfl (x := .bool f1) rfl ?_)
      cases f1 with
      | true =>
        rw [if_neg (show ¬ ((Value.bool true != Value.bool true) = true) from Bool.false_ne_true)]
        exact wpAny_pure (h false s.heap _ _ hz (Heap.SameBut.refl _ _) (.inr ⟨T, rfl⟩))
      | false =>
        rw [if_pos (show (Value.bool false != Value.bool true) = true from rfl)]
        exact wpAny_bind (wpAny_setField_rec hz (by simp) fun h₁ hz₁ hs₁ => wpAny_pure (h false h₁ _ _ hz₁ hs₁ (.inr ⟨T, rfl⟩)))
/-- an item drawn -/
theorem drw_item {Q : Option Value → Shared → Prop} (D : Draws prog w A it fp n P St) (hlt : i < n) (hs : St i s.heap)
    (h : ∀ x h' tk, P i x → St (i + 1) h' → Heap.SameBut it s.heap h' → Q (some x) { s with heap := h', toks := tk }) : wpAny (model prog w) A (drw st (.ref it)) Q E s := by
  unfold drw
  cases st with
  | true =>
    rw [if_pos rfl]
    unfold Builtin.SmallTypes.nextOrEnd
    exact wpAny_bind (wpAny_attempt (D.item i _ _ _ hlt hs fun x h' tk hx s' sb => wpAny_pure (h x h' tk hx s' sb)))
  | false =>
    rw [if_neg Bool.false_ne_true]
    exact wpAny_bind (D.item i _ _ _ hlt hs fun x h' tk hx s' sb => wpAny_pure (h x h' tk hx s' sb))
/-- nothing more: a strict zip is told so -/
theorem drw_endS {Q : Option Value → Shared → Prop} (D : Draws prog w A it fp n P St) (hs : St n s.heap)
    (h : ∀ h', Heap.ExtBut it s.heap h' → Q none { s with heap := h' }) : wpAny (model prog w) A (drw true (.ref it)) Q E s := by
  unfold drw
  rw [if_pos rfl]
  unfold Builtin.SmallTypes.nextOrEnd
  refine wpAny_bind (wpAny_attempt (D.done _ _ _ hs fun h' e sb he => ?_))
  obtain ⟨o, ho, hc⟩ := he
  refine wpAny_bind (wpAny_isInstance (T := "StopIteration") (b := true) ⟨o, ho, hc⟩ isSubtype_stop ?_)
  exact wpAny_pure (h h' sb)
/-- the next pair -/
theorem zip_item {Q : Value → Shared → Prop} (S : ZipSep2 z TI TO i1 i2 fp1 fp2) (D1 : Draws prog w A i1 fp1 n1 P1 St1) (D2 : Draws prog w A i2 fp2 n2 P2 St2)
    (hz : Zst s.heap z TI TO st) (hTI : IsTupOf2 s.heap TI (.ref i1) (.ref i2)) (hTO : IsTupOf2 s.heap TO a1 a2) (st1 : St1 i s.heap) (st2 : St2 i s.heap) (hlt1 : i < n1) (hlt2 : i < n2)
    (hQ : ∀ x1 x2 h' tk, P1 i x1 → P2 i x2 → Zst h' z TI TO st → (∃ b1 b2, IsTupOf2 h' TO b1 b2) → St1 (i + 1) h' → St2 (i + 1) h' → IsTupOf2 h' s.heap.objs.size x1 x2 → h'.objs.size = s.heap.objs.size + 1 →
      (∀ c o, c ≠ z → c ≠ TO → c ≠ i1 → c ≠ i2 → s.heap.get? c = some o → h'.get? c = some o) → Q (.ref s.heap.objs.size) { s with heap := h', toks := tk }) :
    wpAny (model prog w) A (Builtin.«zip.__next__» ⟨[.ref z], []⟩) (fun fin s' => ∃ v, fin = .done (.ret v) ∧ Q v s') E s := by
  obtain ⟨hp, g, d, tk0, os⟩ := s
  obtain ⟨f0, f1, hz0, hf0⟩ := id hz
  show wpAny _ _ (field (.ref z) 2 >>= _) _ _ _
  refine wpAny_bind (wpAny_field hz0 rfl (x := .bool st) rfl ?_)
  have est : (Value.bool st == Value.bool true) = st := by cases st <;> rfl
  show wpAny _ _ (field (.ref z) 3 >>= _) _ _ _
  refine wpAny_bind (wpAny_field hz0 rfl (x := .ref TI) rfl ?_)
  refine wpAny_bind (wpAny_seqItems hTI rfl ?_)
  show wpAny _ _ (Builtin.SmallTypes.ownedTupleIsFree (.ref z) >>= _) _ _ _
  refine wpAny_bind (zst_free hz fun b hp0 f0' f1' hz0 hs0 hf0' => ?_)
  rw [est]
  clear est
  replace hz0 : ZipO hp0 z TI TO f0' f1' st := hz0
  replace hs0 : Heap.SameBut z hp hp0 := hs0
  have hTI0 := hs0.extBut _ _ S.TIz hTI
  have hTO0 : IsTupOf2 hp0 TO a1 a2 := hs0.extBut _ _ S.TOz hTO
  have s10 := D1.over st1 hs0 S.zf1
  have s20 := D2.over st2 hs0 S.zf2
  cases b with
  | true =>
    simp only [if_true]
    refine wpAny_bind (wpAny_rule ?_)
    refine wpAny_bind (wpAny_field hz0 rfl (x := .ref TO) rfl ?_)
    refine wpAny_bind (wpAny_setField_rec hz0 (by simp) fun g0 hz1 hs1 => ?_)
    replace hz1 : ZipO g0 z TI TO .ellipsis f1' st := hz1
    replace hs1 : Heap.SameBut z hp0 g0 := hs1
    have hTO1 : IsTupOf2 g0 TO a1 a2 := hs1.extBut _ _ S.TOz hTO0
    refine wpAny_bind ?_
    simp only [List.zipIdx_cons, List.zipIdx_nil, List.forIn_cons, List.forIn_nil]
    refine wpAny_bind (wpAny_bind (wpAny_onRaise ?_))
    show wpAny _ _ (drw st (.ref i1)) _ _ ⟨g0, g, d, tk0, os⟩
    refine drw_item (s := ⟨g0, g, d, tk0, os⟩) D1 hlt1 (D1.over s10 hs1 S.zf1) fun x1 p1 tk1 hx1 sn1 hp1 => ?_
    replace hp1 : Heap.SameBut i1 g0 p1 := hp1
    have hU1 : IsTupOf2 p1 TO a1 a2 := hp1.extBut _ _ S.Ti1 hTO1
    refine wpAny_bind (wpAny_seqItems (s := ⟨p1, g, d, tk1, os⟩) hU1 rfl ?_)
    refine wpAny_bind (updateSeq_IsTupOf2 (s := ⟨p1, g, d, tk1, os⟩) hU1 fun g1 hT1 hs2 => ?_)
    replace hT1 : IsTupOf2 g1 TO x1 a2 := hT1
    replace hs2 : Heap.SameBut TO p1 g1 := hs2
    refine wpAny_bind (wpAny_letGo (wpAny_pure ?_))
    refine wpAny_bind (wpAny_bind (wpAny_onRaise ?_))
    show wpAny _ _ (drw st (.ref i2)) _ _ ⟨g1, g, d, tk1, os⟩
    refine drw_item (s := ⟨g1, g, d, tk1, os⟩) D2 hlt2 (D2.over (D2.over (D2.over s20 hs1 S.zf2) hp1 S.sep1_2) hs2 S.Tf2) fun x2 p2 tk2 hx2 sn2 hp2 => ?_
    replace hp2 : Heap.SameBut i2 g1 p2 := hp2
    have hU2 : IsTupOf2 p2 TO x1 a2 := hp2.extBut _ _ S.Ti2 hT1
    refine wpAny_bind (wpAny_seqItems (s := ⟨p2, g, d, tk2, os⟩) hU2 rfl ?_)
    refine wpAny_bind (updateSeq_IsTupOf2 (s := ⟨p2, g, d, tk2, os⟩) hU2 fun g2 hT2 hs3 => ?_)
    replace hT2 : IsTupOf2 g2 TO x1 x2 := hT2
    replace hs3 : Heap.SameBut TO p2 g2 := hs3
    refine wpAny_bind (wpAny_letGo (wpAny_pure (wpAny_pure ?_)))
    refine wpAny_bind (wpAny_seqItems (s := ⟨g2, g, d, tk2, os⟩) hT2 rfl ?_)
    refine wpAny_bind (wpAny_newTuple ?_)
    have hsz : g2.objs.size = hp.objs.size := by rw [hs3.1, hp2.1, hs2.1, hp1.1, hs1.1, hs0.1]
    have hzz : ZipO g2 z TI TO .ellipsis f1' st := (hs3.extBut _ _ S.TOz.symm (hp2.extBut _ _ S.zi2 (hs2.extBut _ _ S.TOz.symm (hp1.extBut _ _ S.zi1 hz1))))
    have hkk : ∀ c o, c ≠ z → c ≠ TO → c ≠ i1 → c ≠ i2 → hp.get? c = some o → g2.get? c = some o := fun c o cz cT c1 c2 e =>
      (hs3.extBut _ _ cT (hp2.extBut _ _ c2 (hs2.extBut _ _ cT (hp1.extBut _ _ c1 (hs1.extBut _ _ cz (hs0.extBut _ _ cz e))))))
    have hj1 : St1 (i + 1) g2 := (D1.over (D1.over (D1.over sn1 hs2 S.Tf1) hp2 S.sep2_1) hs3 S.Tf1)
    have hj2 : St2 (i + 1) g2 := (D2.over sn2 hs3 S.Tf2)
    have hzlt : z < g2.objs.size := Heap.lt_size hzz
    show wpAny _ _ (Builtin.SmallTypes.ownedTupleHandOut (.ref z) (.ref g2.objs.size) >>= _) _ _ ⟨g2.push { cls := .type "tuple", data := .seq #[x1, x2] }, g, d, tk2, os⟩
    refine wpAny_bind ?_
    unfold Builtin.SmallTypes.ownedTupleHandOut
    have hz₆ : ZipO (g2.push { cls := .type "tuple", data := .seq #[x1, x2] }) z TI TO .ellipsis f1' st := Heap.get?_push_of_some _ hzz
    refine wpAny_bind (wpAny_setField_rec hz₆ (by simp) fun h₇ hz₇ hs₇ => ?_)
    replace hz₇ : ZipO h₇ z TI TO (rawInt g2.objs.size) f1' st := hz₇
    refine wpAny_setField_rec hz₇ (by simp) fun h₈ hz₈ hs₈ => ?_
    replace hz₈ : ZipO h₈ z TI TO (rawInt g2.objs.size) false st := hz₈
    replace hs₇ : Heap.SameBut z (g2.push { cls := .type "tuple", data := .seq #[x1, x2] }) h₇ := hs₇
    replace hs₈ : Heap.SameBut z h₇ h₈ := hs₈
    have up : ∀ c o, c ≠ z → g2.get? c = some o → h₈.get? c = some o := fun c o c1 e => hs₈.extBut _ _ c1 (hs₇.extBut _ _ c1 (Heap.get?_push_of_some _ e))
    have hT₈ : IsTupOf2 h₈ g2.objs.size x1 x2 := hs₈.extBut _ _ (Nat.ne_of_gt hzlt) (hs₇.extBut _ _ (Nat.ne_of_gt hzlt) (Heap.get?_push_size _ rfl))
    have hz8 : h₈.objs.size = g2.objs.size + 1 := by rw [hs₈.1, hs₇.1, Heap.size_push]
    rw [hsz] at hT₈ hz8
    refine wpAny_pure ⟨_, rfl, ?_⟩
    show Q (.ref g2.objs.size) ⟨h₈, g, d, tk2, os⟩
    rw [hsz]
    exact hQ x1 x2 h₈ tk2 hx1 hx2 ⟨_, _, hz₈, .inr ⟨_, rfl⟩⟩ ⟨_, _, up _ _ S.TOz hT2⟩ (D1.frame _ _ _ hj1 fun b hb o e => up b o (fun q => S.zf1 (q ▸ hb)) e) (D2.frame _ _ _ hj2 fun b hb o e => up b o (fun q => S.zf2 (q ▸ hb)) e) hT₈ hz8 fun c o cz cT c1 c2 e => up c o cz (hkk c o cz cT c1 c2 e)
  | false =>
    simp only [Bool.false_eq_true, if_false]
    refine wpAny_bind ?_
    rw [← Array.forIn_toList]
    simp only [List.forIn_cons, List.forIn_nil]
    refine wpAny_bind (wpAny_bind (wpAny_holding ?_))
    show wpAny _ _ (drw st (.ref i1)) _ _ ⟨hp0, g, d, tk0, os⟩
    refine drw_item (s := ⟨hp0, g, d, tk0, os⟩) D1 hlt1 s10 fun x1 p1 tk1 hx1 sn1 hp1 => ?_
    replace hp1 : Heap.SameBut i1 hp0 p1 := hp1
    refine wpAny_pure ?_
    refine wpAny_bind (wpAny_bind (wpAny_holding ?_))
    show wpAny _ _ (drw st (.ref i2)) _ _ ⟨p1, g, d, tk1, os⟩
    refine drw_item (s := ⟨p1, g, d, tk1, os⟩) D2 hlt2 (D2.over s20 hp1 S.sep1_2) fun x2 p2 tk2 hx2 sn2 hp2 => ?_
    replace hp2 : Heap.SameBut i2 p1 p2 := hp2
    refine wpAny_pure (wpAny_pure ?_)
    show wpAny _ _ (newTuple [x1, x2] >>= _) _ _ ⟨p2, g, d, tk2, os⟩
    refine wpAny_bind (wpAny_newTuple ?_)
    have hsz : p2.objs.size = hp.objs.size := by rw [hp2.1, hp1.1, hs0.1]
    have hkk : ∀ c o, c ≠ z → c ≠ i1 → c ≠ i2 → hp.get? c = some o → p2.get? c = some o := fun c o cz c1 c2 e => hp2.extBut _ _ c2 (hp1.extBut _ _ c1 (hs0.extBut _ _ cz e))
    have hzz : ZipO p2 z TI TO f0' f1' st := hp2.extBut _ _ S.zi2 (hp1.extBut _ _ S.zi1 hz0)
    have hj1 : St1 (i + 1) p2 := D1.over sn1 hp2 S.sep2_1
    have up : ∀ c o, p2.get? c = some o → (p2.push { cls := .type "tuple", data := .seq #[x1, x2] }).get? c = some o := fun c o e => Heap.get?_push_of_some _ e
    refine wpAny_pure ⟨_, rfl, ?_⟩
    show Q (.ref p2.objs.size) ⟨p2.push { cls := .type "tuple", data := .seq #[x1, x2] }, g, d, tk2, os⟩
    have hT₈ : IsTupOf2 (p2.push { cls := .type "tuple", data := .seq #[x1, x2] }) p2.objs.size x1 x2 := Heap.get?_push_size _ rfl
    have hz8 : (p2.push { cls := .type "tuple", data := .seq #[x1, x2] }).objs.size = p2.objs.size + 1 := Heap.size_push ..
    rw [hsz] at hT₈ hz8 ⊢
    exact hQ x1 x2 _ tk2 hx1 hx2 ⟨_, _, up _ _ hzz, hf0'⟩ ⟨_, _, up _ _ (hp2.extBut _ _ S.Ti2 (hp1.extBut _ _ S.Ti1 hTO0))⟩ (D1.frame _ _ _ hj1 fun b _ o e => up b o e) (D2.frame _ _ _ sn2 fun b _ o e => up b o e) hT₈ hz8 fun c o cz _ c1 c2 e => up c o (hkk c o cz c1 c2 e)
/-- the tuple given is let go where the loop takes it apart -/
theorem zip_go {elts : List Expr} {x1 : Nat} {pos : Pos} {T : Addr} {Q : Unit → Shared → Prop} (hz : Zst s.heap z TI TO st)
    (hQ : ∀ h', Zst h' z TI TO st → Heap.SameBut z s.heap h' → Q () { s with heap := h' }) :
    wpAny (model prog w) A (letOwnedTupleGo (.Tuple elts x1 pos) (.ref z) (.ref T)) Q E s := by
  obtain ⟨f0, f1, hz, hf⟩ := hz
  unfold letOwnedTupleGo
  refine wpAny_bind (wpAny_load hz ?_)
  show wpAny _ _ (if (["enumerate", "zip", "dict_itemiterator", "dict_reverseitemiterator", "odict_iterator", "itertools.zip_longest", "itertools.pairwise"].contains "zip" &&
      (#[f0, .bool f1, .bool st, .ref TI, .ref TO] : Array Value)[0]? == some (rawInt T)) = true then _ else _) Q E s
  split
  · refine wpAny_bind (wpAny_rule ?_)
    show wpAny _ _ (setField (.ref z) 0 .none) Q E s
    exact wpAny_setField_rec hz (by simp) fun h' hz' hs' => hQ h' ⟨_, _, hz', .inl rfl⟩ hs'
  · exact wpAny_pure (hQ s.heap ⟨_, _, hz, hf⟩ (Heap.SameBut.refl _ _))
theorem zip_iter {Q : Value → Shared → Prop} (hz : Zst s.heap z TI TO st) (h : Q (.ref z) s) : wpAny (model prog w) A (pyIter (.ref z)) Q E s := by
  obtain ⟨f0, f1, hz, hf⟩ := hz
  have hT : s.TypeIs (.ref z) "zip" := ⟨_, hz, rfl⟩
  refine wpAny_pyIter_slot hT F.slot_zip_iter (wpAny_call_entry F.slot_zip_iter hT F.entry_zip_iter ?_ (F.args_zip_iter_1 _))
  show wpAny _ _ (ret (.ref z)) _ _ s
  exact wpAny_pure ⟨_, rfl, "zip", _, hT, F.slot_zip_next.lookup, h⟩
/-- StopIteration, made and raised -/
theorem stop_raised {α : Type} {Q : α → Shared → Prop} (hh : A.handled = none) (h : ∀ h' e, (∀ b o, s.heap.get? b = some o → h'.get? b = some o) → (∃ o, h'.get? e = some o ∧ o.cls = .type "StopIteration") → E (.ref e) { s with heap := h' }) :
    wpAny (model prog w) A (Builtin.SmallTypes.stopIteration : Sem α) Q E s := by
  unfold Builtin.SmallTypes.stopIteration
  refine wpAny_bind ?_
  simp only [newExc, newTuple]
  refine wpAny_bind (wpAny_newObj_type ?_ (by size_fits))
  refine wpAny_bind (m := firstArgMember _ _) (wpAny_of_eq (a := Value.none) (by first | rfl | (simp only [firstArgMember]; rfl)) ?_)
  refine wpAny_newObj_type ?_ (by size_fits)
  simp only [raiseNew]
  refine wpAny_bind (wpAny_handled ?_)
  rw [hh]
  refine wpAny_bind (wpAny_pure (wpAny_throw ?_))
  exact h _ _ (fun b o e => Heap.get?_push_of_some _ (Heap.get?_push_of_some _ e)) ⟨_, Heap.get?_push_size _ rfl, rfl⟩
theorem nextOrEnd_end {Q : Option Value → Shared → Prop} (D : Draws prog w A it fp n P St) (hs : St n s.heap)
    (h : ∀ h', Heap.ExtBut it s.heap h' → Q none { s with heap := h' }) : wpAny (model prog w) A (Builtin.SmallTypes.nextOrEnd (.ref it)) Q E s := by
  have q := drw_endS (s := s) (E := E) (Q := Q) D hs h
  unfold drw at q
  rw [if_pos rfl] at q
  exact q
/-- no further pair -/
theorem zip_end {Q : Fin → Shared → Prop} (hh : A.handled = none) (S : ZipSep2 z TI TO i1 i2 fp1 fp2) (D1 : Draws prog w A i1 fp1 n1 P1 St1) (D2 : Draws prog w A i2 fp2 n2 P2 St2)
    (hz : Zst s.heap z TI TO st) (hTI : IsTupOf2 s.heap TI (.ref i1) (.ref i2)) (hTO : IsTupOf2 s.heap TO a1 a2) (st1 : St1 i s.heap) (st2 : St2 i s.heap) (hle1 : i ≤ n1) (hle2 : i ≤ n2) (hend : i = n1 ∨ i = n2) (hst : st = true → n1 = n2)
    (hE : ∀ h' tk e, (∀ c o, c ≠ z → c ≠ TO → c ≠ i1 → c ≠ i2 → s.heap.get? c = some o → h'.get? c = some o) → (∃ o, h'.get? e = some o ∧ o.cls = .type "StopIteration") → E (.ref e) { s with heap := h', toks := tk }) :
    wpAny (model prog w) A (Builtin.«zip.__next__» ⟨[.ref z], []⟩) Q E s := by
  obtain ⟨hp, g, d, tk0, os⟩ := s
  obtain ⟨f0, f1, hz0, hf0⟩ := id hz
  show wpAny _ _ (field (.ref z) 2 >>= _) _ _ _
  refine wpAny_bind (wpAny_field hz0 rfl (x := .bool st) rfl ?_)
  have est : (Value.bool st == Value.bool true) = st := by cases st <;> rfl
  show wpAny _ _ (field (.ref z) 3 >>= _) _ _ _
  refine wpAny_bind (wpAny_field hz0 rfl (x := .ref TI) rfl ?_)
  refine wpAny_bind (wpAny_seqItems hTI rfl ?_)
  show wpAny _ _ (Builtin.SmallTypes.ownedTupleIsFree (.ref z) >>= _) _ _ _
  refine wpAny_bind (zst_free hz fun b hp0 f0' f1' hz0 hs0 hf0' => ?_)
  rw [est]
  clear est
  replace hz0 : ZipO hp0 z TI TO f0' f1' st := hz0
  replace hs0 : Heap.SameBut z hp hp0 := hs0
  have hTO0 : IsTupOf2 hp0 TO a1 a2 := hs0.extBut _ _ S.TOz hTO
  have s10 := D1.over st1 hs0 S.zf1
  have s20 := D2.over st2 hs0 S.zf2
  cases b with
  | true =>
    simp only [if_true]
    refine wpAny_bind (wpAny_rule ?_)
    refine wpAny_bind (wpAny_field hz0 rfl (x := .ref TO) rfl ?_)
    refine wpAny_bind (wpAny_setField_rec hz0 (by simp) fun g0 hz1 hs1 => ?_)
    replace hz1 : ZipO g0 z TI TO .ellipsis f1' st := hz1
    replace hs1 : Heap.SameBut z hp0 g0 := hs1
    have hTO1 : IsTupOf2 g0 TO a1 a2 := hs1.extBut _ _ S.TOz hTO0
    refine wpAny_bind ?_
    simp only [List.zipIdx_cons, List.zipIdx_nil, List.forIn_cons, List.forIn_nil]
    refine wpAny_bind (wpAny_bind (wpAny_onRaise ?_))
    show wpAny _ _ (drw st (.ref i1)) _ _ ⟨g0, g, d, tk0, os⟩
    by_cases hlt1 : i < n1
    · have ei : i = n2 := by omega
      have est : st = false := by
        cases st with
        | false => rfl
        | true => exact absurd (hst rfl) (by omega)
      subst est
      refine drw_item (s := ⟨g0, g, d, tk0, os⟩) D1 hlt1 (D1.over s10 hs1 S.zf1) fun x1 p1 tk1 hx1 sn1 hp1 => ?_
      replace hp1 : Heap.SameBut i1 g0 p1 := hp1
      have hU1 : IsTupOf2 p1 TO a1 a2 := hp1.extBut _ _ S.Ti1 hTO1
      refine wpAny_bind (wpAny_seqItems (s := ⟨p1, g, d, tk1, os⟩) hU1 rfl ?_)
      refine wpAny_bind (updateSeq_IsTupOf2 (s := ⟨p1, g, d, tk1, os⟩) hU1 fun g1 hT1 hs2 => ?_)
      replace hT1 : IsTupOf2 g1 TO x1 a2 := hT1
      replace hs2 : Heap.SameBut TO p1 g1 := hs2
      refine wpAny_bind (wpAny_letGo (wpAny_pure ?_))
      refine wpAny_bind (wpAny_bind (wpAny_onRaise ?_))
      show wpAny _ _ (Builtin.SmallTypes.nextOf (.ref i2) >>= _) _ _ ⟨g1, g, d, tk1, os⟩
      have s21 := D2.over (D2.over (D2.over s20 hs1 S.zf2) hp1 S.sep1_2) hs2 S.Tf2
      rw [ei] at s21
      refine wpAny_bind (D2.done ⟨g1, g, d, tk1, os⟩ _ _ s21 fun q e hq he => ?_)
      replace hq : Heap.ExtBut i2 g1 q := hq
      obtain ⟨oe, hoe, hce⟩ := he
      replace hoe : q.get? e = some oe := hoe
      have hzq : ZipO q z TI TO .ellipsis f1' false := hq _ _ S.zi2 (hs2.extBut _ _ S.TOz.symm (hp1.extBut _ _ S.zi1 hz1))
      have hez : e ≠ z := fun x => by subst x; rw [hzq] at hoe; cases hoe; simp at hce
      refine wpAny_setField_rec (s := ⟨q, g, d, tk1, os⟩) hzq (by simp) fun q' _ hq' => ?_
      replace hq' : Heap.SameBut z q q' := hq'
      exact hE q' tk1 e (fun c o cz cT c1 c2 x => hq'.extBut _ _ cz (hq _ _ c2 (hs2.extBut _ _ cT (hp1.extBut _ _ c1 (hs1.extBut _ _ cz (hs0.extBut _ _ cz x)))))) ⟨oe, hq'.extBut _ _ hez hoe, hce⟩
    · have ei : i = n1 := by omega
      have s11 := D1.over s10 hs1 S.zf1
      rw [ei] at s11
      cases st with
      | false =>
        show wpAny _ _ (Builtin.SmallTypes.nextOf (.ref i1) >>= _) _ _ ⟨g0, g, d, tk0, os⟩
        refine wpAny_bind (D1.done ⟨g0, g, d, tk0, os⟩ _ _ s11 fun q e hq he => ?_)
        replace hq : Heap.ExtBut i1 g0 q := hq
        obtain ⟨oe, hoe, hce⟩ := he
        replace hoe : q.get? e = some oe := hoe
        have hzq : ZipO q z TI TO .ellipsis f1' false := hq _ _ S.zi1 hz1
        have hez : e ≠ z := fun x => by subst x; rw [hzq] at hoe; cases hoe; simp at hce
        refine wpAny_setField_rec (s := ⟨q, g, d, tk0, os⟩) hzq (by simp) fun q' _ hq' => ?_
        replace hq' : Heap.SameBut z q q' := hq'
        exact hE q' tk0 e (fun c o cz cT c1 c2 x => hq'.extBut _ _ cz (hq _ _ c1 (hs1.extBut _ _ cz (hs0.extBut _ _ cz x)))) ⟨oe, hq'.extBut _ _ hez hoe, hce⟩
      | true =>
        have en : n1 = n2 := hst rfl
        refine drw_endS (s := ⟨g0, g, d, tk0, os⟩) D1 s11 fun q hq => ?_
        replace hq : Heap.ExtBut i1 g0 q := hq
        have hzq : ZipO q z TI TO .ellipsis f1' true := hq _ _ S.zi1 hz1
        refine wpAny_bind (wpAny_setField_rec (s := ⟨q, g, d, tk0, os⟩) hzq (by simp) fun q' hz' hq' => ?_)
        replace hq' : Heap.SameBut z q q' := hq'
        refine wpAny_bind ?_
        refine wpAny_bind ?_
        simp only [List.drop_succ_cons, List.drop_zero, List.zipIdx_cons, List.zipIdx_nil, List.forIn_cons, List.forIn_nil]
        refine wpAny_bind (wpAny_bind ?_)
        have s21 : St2 n2 q' := by
          have z1 := D2.over s20 hs1 S.zf2
          have z2 : St2 i q := D2.frame _ _ _ z1 fun b hb o e => hq b o (fun y => S.sep1_2 (y ▸ hb)) e
          have z3 := D2.over z2 hq' S.zf2
          rw [ei, en] at z3
          exact z3
        refine nextOrEnd_end (s := ⟨q', g, d, tk0, os⟩) D2 s21 fun q2 hq2 => ?_
        replace hq2 : Heap.ExtBut i2 q' q2 := hq2
        simp only [Option.isSome_none, Bool.false_eq_true, if_false]
        refine wpAny_pure (wpAny_pure (wpAny_bind (wpAny_rule ?_)))
        exact stop_raised (s := ⟨q2, g, d, tk0, os⟩) hh fun h' e k he => hE h' tk0 e (fun c o cz cT c1 c2 x => k _ _ (hq2 _ _ c2 (hq'.extBut _ _ cz (hq _ _ c1 (hs1.extBut _ _ cz (hs0.extBut _ _ cz x)))))) he
  | false =>
    simp only [Bool.false_eq_true, if_false]
    refine wpAny_bind ?_
    rw [← Array.forIn_toList]
    simp only [List.forIn_cons, List.forIn_nil]
    refine wpAny_bind (wpAny_bind (wpAny_holding ?_))
    show wpAny _ _ (drw st (.ref i1)) _ _ ⟨hp0, g, d, tk0, os⟩
    by_cases hlt1 : i < n1
    · have ei : i = n2 := by omega
      have est : st = false := by
        cases st with
        | false => rfl
        | true => exact absurd (hst rfl) (by omega)
      subst est
      refine drw_item (s := ⟨hp0, g, d, tk0, os⟩) D1 hlt1 s10 fun x1 p1 tk1 hx1 sn1 hp1 => ?_
      replace hp1 : Heap.SameBut i1 hp0 p1 := hp1
      refine wpAny_pure ?_
      refine wpAny_bind (wpAny_bind (wpAny_holding ?_))
      show wpAny _ _ (Builtin.SmallTypes.nextOf (.ref i2) >>= _) _ _ ⟨p1, g, d, tk1, os⟩
      have s21 := D2.over s20 hp1 S.sep1_2
      rw [ei] at s21
      refine wpAny_bind (D2.done ⟨p1, g, d, tk1, os⟩ _ _ s21 fun q e hq he => ?_)
      replace hq : Heap.ExtBut i2 p1 q := hq
      exact hE q tk1 e (fun c o cz cT c1 c2 x => hq _ _ c2 (hp1.extBut _ _ c1 (hs0.extBut _ _ cz x))) he
    · have ei : i = n1 := by omega
      have s11 := s10
      rw [ei] at s11
      cases st with
      | false =>
        show wpAny _ _ (Builtin.SmallTypes.nextOf (.ref i1) >>= _) _ _ ⟨hp0, g, d, tk0, os⟩
        refine wpAny_bind (D1.done ⟨hp0, g, d, tk0, os⟩ _ _ s11 fun q e hq he => ?_)
        replace hq : Heap.ExtBut i1 hp0 q := hq
        exact hE q tk0 e (fun c o cz cT c1 c2 x => hq _ _ c1 (hs0.extBut _ _ cz x)) he
      | true =>
        have en : n1 = n2 := hst rfl
        refine drw_endS (s := ⟨hp0, g, d, tk0, os⟩) D1 s11 fun q hq => ?_
        replace hq : Heap.ExtBut i1 hp0 q := hq
        refine wpAny_bind ?_
        refine wpAny_bind ?_
        simp only [List.drop_succ_cons, List.drop_zero, List.zipIdx_cons, List.zipIdx_nil, List.forIn_cons, List.forIn_nil]
        refine wpAny_bind (wpAny_bind ?_)
        have s21 : St2 n2 q := by
          have z2 : St2 i q := D2.frame _ _ _ s20 fun b hb o e => hq b o (fun y => S.sep1_2 (y ▸ hb)) e
          rw [ei, en] at z2
          exact z2
        refine nextOrEnd_end (s := ⟨q, g, d, tk0, os⟩) D2 s21 fun q2 hq2 => ?_
        replace hq2 : Heap.ExtBut i2 q q2 := hq2
        simp only [Option.isSome_none, Bool.false_eq_true, if_false]
        refine wpAny_pure (wpAny_pure (wpAny_bind (wpAny_rule ?_)))
        exact stop_raised (s := ⟨q2, g, d, tk0, os⟩) hh fun h' e k he => hE h' tk0 e (fun c o cz cT c1 c2 x => k _ _ (hq2 _ _ c2 (hq _ _ c1 (hs0.extBut _ _ cz x)))) he
end
end TPZ
end
section
set_option maxHeartbeats 4000000
/-! what loops and comprehensions walk: a list, a tuple, a text; enumerate of such; zip of two such; enumerate of a zip. -/
namespace TPI
open PySem PySem.Spec PyProof.Rows L2 TPZ
/-! ### sources -/
inductive Src where
  | l (a : Addr) (xs : List V)
  | t (a : Addr) (xs : List V)
  | s (z : Str)
def Src.ok (K : PySem.W.Frag) (H : Hp) : Src → Prop
  | .l a xs => SqL K H a xs
  | .t a xs => SqT K H a xs
  | .s _ => True
def Src.v : Src → V
  | .l a _ => .ref a
  | .t a _ => .ref a
  | .s z => .str z
def Src.its : Src → List V
  | .l _ xs => xs
  | .t _ xs => xs
  | .s z => z.cps.toList.map fun c => .str ⟨#[c]⟩
def Src.ad : Src → List Addr
  | .l a _ => [a]
  | .t a _ => [a]
  | .s _ => []
/-- an iterator over the source stands at it, i items taken -/
def SIt (h : Heap) (it : Addr) : Src → Nat → Prop
  | .l a _, i => h.IsListIter it a i
  | .t a _, i => h.IsTupleIter it a i
  | .s z, i => ∃ t, h.IsStrIter it (strIterType z) z t i
theorem SIt.obj {h : Heap} {it : Addr} {S : Src} {i : Nat} (st : SIt h it S i) : ∃ o, h.get? it = some o ∧ ∀ v, o.data ≠ .cell v := by
  cases S with
  | l a xs => obtain ⟨o, e, _, d⟩ := st; exact ⟨o, e, fun v z => by rw [d] at z; cases z⟩
  | t a xs => obtain ⟨o, e, _, d⟩ := st; exact ⟨o, e, fun v z => by rw [d] at z; cases z⟩
  | s z => obtain ⟨t, o, e, _, d⟩ := st; exact ⟨o, e, fun v z => by rw [d] at z; cases z⟩
theorem SIt.at {h h' : Heap} {it : Addr} {S : Src} {i : Nat} (st : SIt h it S i) (k : ∀ o, h.get? it = some o → h'.get? it = some o) : SIt h' it S i := by
  cases S with
  | l a xs => exact Heap.IsListIter.at st k
  | t a xs => exact Heap.IsTupleIter.at st k
  | s z => obtain ⟨t, o, e, r⟩ := st; exact ⟨t, o, k o e, r⟩
theorem Src.same {K : PySem.W.Frag} {H H' : Hp} {S : Src} (q : S.ok K H) (e : ∀ b o, H b = some o → H' b = some o) : S.ok K H' := by
  cases S with
  | l a xs => exact Same.seq (fun b o h => e b o h) q
  | t a xs =>
    rcases q with (q | ⟨o, q⟩) | q
    · exact .inl (.inl (e _ _ q))
    · exact .inl (.inr ⟨o, e _ _ q⟩)
    · exact .inr q
  | s z => trivial
section
variable {X : Cx} {pins : List (Addr × Obj)} {σ : L2.St} {H : Hp} {s : Shared}
/-- such an iterator draws -/
theorem Src.draws {S : Src} {it : Addr} {i : Nat} {A : Around} (I : Inv X pins σ H s) (hh : A.handled = none) (q : S.ok X.K H) (st : SIt s.heap it S i) (hne : ∀ b ∈ S.ad, b ≠ it) :
    ∃ (P : Nat → Value → Prop) (St : Nat → Heap → Prop), Draws X.prog X.w A it (it :: S.ad) S.its.length P St ∧ St i s.heap ∧ (∀ j u, P j u → ∃ x, S.its[j]? = some x ∧ RelV x u) ∧ ∀ j h', St j h' → SIt h' it S j := by
  cases S with
  | l a xs =>
    obtain ⟨its, rv, p, hz⟩ := I.list q
    have hl := rv.length
    have D := Draws.list (prog := X.prog) (w := X.w) hh it a (hne a (by simp [Src.ad])) its.toArray
    rw [List.size_toArray, ← hl] at D
    refine ⟨_, _, D, ⟨st, p.isList⟩, fun j u hu => ?_, fun j h' z => z.1⟩
    have hu2 : its[j]? = some u := by simpa using hu
    have hj : j < xs.length := by
      have := (List.getElem?_eq_some_iff.mp hu2).1
      omega
    obtain ⟨u', h1, h2⟩ := rv.get (List.getElem?_eq_getElem hj)
    rw [hu2] at h1
    cases h1
    exact ⟨_, List.getElem?_eq_getElem hj, h2⟩
  | t a xs =>
    obtain ⟨its, rv, p, hz⟩ := I.tuple q
    have hl := rv.length
    have D := Draws.tuple (prog := X.prog) (w := X.w) hh it a (hne a (by simp [Src.ad])) its.toArray
    rw [List.size_toArray, ← hl] at D
    refine ⟨_, _, D, ⟨st, show s.heap.IsTuple a its.toArray from p⟩, fun j u hu => ?_, fun j h' z => z.1⟩
    have hu2 : its[j]? = some u := by simpa using hu
    have hj : j < xs.length := by
      have := (List.getElem?_eq_some_iff.mp hu2).1
      omega
    obtain ⟨u', h1, h2⟩ := rv.get (List.getElem?_eq_getElem hj)
    rw [hu2] at h1
    cases h1
    exact ⟨_, List.getElem?_eq_getElem hj, h2⟩
  | s z =>
    obtain ⟨t, st⟩ := st
    have D := Draws.text (prog := X.prog) (w := X.w) hh it z t
    have hl : (Src.s z).its.length = z.cps.size := by simp [Src.its]
    rw [← hl] at D
    refine ⟨_, _, D, st, fun j u hu => ?_, fun j h' q => ⟨t, q⟩⟩
    obtain ⟨c, t', hc, rfl⟩ := hu
    refine ⟨.str ⟨#[c]⟩, ?_, t', rfl⟩
    have h1 : z.cps.toList[j]? = some c := by simpa using hc
    simp [Src.its, h1]
/-- an address that is laid anew is tracked from now on -/
theorem track {T : Addr} {ob : HO} (I : Inv X pins σ H s) (hn : H T = none) (h0 : X.s_0.heap.objs.size ≤ T) (hL : T ≠ X.env.locals) (hc : ∀ x c, X.env.cells.lookup x = some c → c ≠ T) (hp : ∀ p ∈ X.pn ++ pins, p.1 ≠ T)
    (new : ObjOk X.prog X.w (upd H T ob) s.heap T ob) : Inv X pins σ (upd H T ob) s := by
  have sm : ∀ b u, H b = some u → upd H T ob b = some u := fun b u e => by
    rw [upd_ne (ne_of_none e hn)]
    exact e
  refine ⟨I.ok, I.os, I.bare, ⟨I.base.keep, I.base.slot, fun b o e n hx => ?_, I.base.there, fun b xs e => sm _ _ (I.base.tups b xs e), fun b o u e => sm _ _ (I.base.frzs b o u e), fun b ps e => ?_⟩, I.loc, I.cell, ?_, fun x c e => ?_, fun p hq => ?_, fun b u e => ?_, I.len⟩
  · rw [upd_ne (Nat.ne_of_lt (Nat.lt_of_lt_of_le (Heap.lt_size e) h0))]
    exact I.base.free b o e n hx
  · obtain ⟨more, q⟩ := I.base.tbls b ps e
    exact ⟨more, sm _ _ q⟩
  · rw [upd_ne hL.symm]
    exact I.free
  · rw [upd_ne (hc x c e)]
    exact I.freeC x c e
  · obtain ⟨e, n, ne, nf, d⟩ := I.pin p hq
    exact ⟨e, by rw [upd_ne (hp p hq)]; exact n, ne, nf, d⟩
  · by_cases hb : b = T
    · subst hb
      rw [upd_same] at e
      cases e
      exact new
    · rw [upd_ne hb] at e
      exact (I.hok b u e).stay (fun c v _ q => q) (fun c q => sm _ _ q) fun c xs q => sm _ _ q
end
theorem Turn.mono {P : Program} {w : World} {K : PySem.W.Frag} {tg : Expr} {J J' : It} {fp : List Addr} {it : Addr} {tn : Nat → Heap → Prop} (T : Turn P w K tg J fp it tn) (hg : ∀ i H, J'.go i H → J.go i H) (hy : ∀ i H x H', J'.go i H → J.yld i H x H' → J'.yld i H x H')
    (hs : ∀ i H, J'.stop i H → J.stop i H) : Turn P w K tg J' fp it tn where
  mem := T.mem
  obj := T.obj
  keep := T.keep
  item := fun X hP hw hK hc i pins s σ H E I hf st g => by
    refine thn (T.item X hP hw hK hc i pins s σ H E I hf st (hg i H g)) fun r s1 ⟨u, e, h⟩ => ⟨u, e, thn h fun _ s2 ⟨x, H', I', r, y, z⟩ => ⟨x, H', I', r, hy i H x H' g y, z⟩⟩
  done := fun X hP hw hK hc i pins s σ H E I hf st g => T.done X hP hw hK hc i pins s σ H E I hf st (hs i H g)
  self := T.self
/-! ### the source itself -/
def ItS (K : PySem.W.Frag) (S : Src) : It := ⟨fun i H => S.ok K H ∧ i < S.its.length, fun i H x H' => H' = H ∧ S.its[i]? = some x, fun i H => S.ok K H ∧ i = S.its.length⟩
theorem walkS {K : PySem.W.Frag} {S : Src} : Walk (ItS K S) S.its.length (fun H => S.ok K H) (YAt S.its) :=
  ⟨fun _ _ hi q => ⟨q, hi⟩, fun _ q => ⟨q, rfl⟩, fun _ _ _ _ _ _ y => y⟩
def iSrc (K : PySem.W.Frag) (te : TE) : TI := fun σ H R => te σ H fun v H1 => ∃ S : Src, v = S.v ∧ S.ok K H1 ∧ R (ItS K S) H1
theorem pi_src {X : Cx} {tg e : Expr} {te : TE} (he : PE X e te) : PI X tg e (iSrc X.K te) := by
  refine ⟨fun pins s σ H R I h => ?_⟩
  refine thn (he.run pins s σ H _ I h) fun v s1 ⟨y, H1, I1, r1, S, ev, hq, q⟩ => ?_
  subst ev
  cases S with
  | l a xs =>
    cases (show v = Value.ref a from r1)
    obtain ⟨its, rv, p, hz⟩ := I1.list hq
    refine wpAny_pyIter_list p.isList ?_
    exact pi_one (tk := s1.toks) I1 _ (Turn.mono (J' := ItS X.K (.l a xs)) (turn_list a _) (fun i H g => ⟨xs, xs[i]'g.2, g.1, List.getElem?_eq_getElem g.2⟩) (fun i H x H' g y => ⟨y.1, y.2 xs g.1⟩) (fun i H g => ⟨xs, g.1, Nat.le_of_eq g.2.symm⟩)) ⟨_, Heap.get?_push_size _ rfl, rfl, rfl⟩ q
  | t a xs =>
    cases (show v = Value.ref a from r1)
    obtain ⟨its, rv, p, hz⟩ := I1.tuple hq
    refine wpAny_pyIter_tuple (show s1.heap.IsTuple a its.toArray from p) ?_
    exact pi_one (tk := s1.toks) I1 _ (Turn.mono (J' := ItS X.K (.t a xs)) (turn_tuple a _) (fun i H g => ⟨xs, xs[i]'g.2, g.1, List.getElem?_eq_getElem g.2⟩) (fun i H x H' g y => ⟨y.1, y.2 xs g.1⟩) (fun i H g => ⟨xs, g.1, Nat.le_of_eq g.2.symm⟩)) ⟨_, Heap.get?_push_size _ rfl, rfl, rfl⟩ q
  | s x =>
    obtain ⟨t, rfl⟩ := (show ∃ t, v = Value.str x t from r1)
    have hl : (Src.s x).its.length = x.cps.size := by simp [Src.its]
    have T : ∀ (it : Addr) (ty : String), (ty = "str_ascii_iterator" ∨ ty = "str_iterator") → Turn X.prog X.w X.K tg (ItS X.K (.s x)) [it] it (fun i h => h.IsStrIter it ty x t i) := fun it ty hty =>
      Turn.mono (turn_str it x t ty hty) (fun i H g => by have := g.2; rw [hl] at this; exact this) (fun i H v H' g y => by
        obtain ⟨e, c, hc, rfl⟩ := y
        have h1 : x.cps.toList[i]? = some c := by simpa using hc
        exact ⟨e, by simp [Src.its, h1]⟩) (fun i H g => by have := g.2; rw [hl] at this; exact Nat.le_of_eq this.symm)
    cases ha : x.cps.all (· < 128)
    · exact wpAny_pyIter_wide ha (pi_one (tk := s1.toks) I1 _ (T _ "str_iterator" (.inr rfl)) ⟨_, Heap.get?_push_size _ rfl, rfl, rfl⟩ q)
    · exact wpAny_pyIter_ascii ha (pi_one (tk := s1.toks) I1 _ (T _ "str_ascii_iterator" (.inl rfl)) ⟨_, Heap.get?_push_size _ rfl, rfl, rfl⟩ q)
/-! ### what enumerate(v) makes -/
structure IterG (v : Value) (g : Heap → Heap) (a : Heap → Addr) (Hh : Heap → Prop) : Prop where
  iter : ∀ (prog : Program) (w : World) (A : Around) (E : Value → Shared → Prop) (s : Shared) (Q : Value → Shared → Prop), Hh s.heap → Q (.ref (a s.heap)) { s with heap := g s.heap } → wpAny (model prog w) A (pyIter v) Q E s
theorem IterG.of {v : Value} {o : Obj} {Hh : Heap → Prop} (B : Begins v o Hh) : IterG v (fun h => h.push o) (fun h => h.objs.size) Hh := ⟨fun prog w A E s Q h q => B.iter prog w A E s Q h q⟩
theorem IterG.zip {z TI TO : Addr} {st : Bool} : IterG (.ref z) (fun h => h) (fun _ => z) (fun h => Zst h z TI TO st) := ⟨fun _ _ _ _ _ _ h q => zip_iter h q⟩
theorem meets_enumG1 {v : Value} {g : Heap → Heap} {a : Heap → Addr} {Hh : Heap → Prop} (B : IterG v g a Hh) :
    Meets (Builtin.«enumerate.__new__» ⟨[.type "enumerate", v], []⟩) (fun _ R s => Hh s.heap ∧
      R (.ok (.ret (.ref (g s.heap).objs.size))) { s with heap := (g s.heap).push { cls := .type "enumerate", data := .fields #[.none, .bool false, .ref (a s.heap), rawInt 0, .none, .none] } }) :=
  .of_wp fun prog w A R s h => by
    obtain ⟨hp, gs, d, tk, os⟩ := s; obtain ⟨h1, h⟩ := h
    have hsub := sub_enumerate
    have q1 : ∀ {A' : Around} {E : Value → Shared → Prop} {Q : Value → Shared → Prop}, Q (.ref (a hp)) ⟨g hp, gs, d, tk, os⟩ → wpAny (model prog w) A' (pyIter v) Q E ⟨hp, gs, d, tk, os⟩ :=
      fun q => B.iter prog w _ _ ⟨hp, gs, d, tk, os⟩ _ h1 q
    wp_walk using q1
    refine wpAny_stack_any fun st => wpAny_pure ?_
    split
    · rename_i c _ _ _ _ _
      cases (c == Value.type "enumerate")
      · wp_walk using q1
        exact ⟨_, rfl, h⟩
      · wp_walk using q1
        exact ⟨_, rfl, h⟩
    · wp_walk using q1
      exact ⟨_, rfl, h⟩
theorem meets_enumG2 {v : Value} {g : Heap → Heap} {a : Heap → Addr} {Hh : Heap → Prop} (B : IterG v g a Hh) (k : Int) (t : Tok) (hfit : Builtin.SmallTypes.fitsIndex k = true) :
    Meets (Builtin.«enumerate.__new__» ⟨[.type "enumerate", v, .int k t], []⟩) (fun _ R s => Hh s.heap ∧
      R (.ok (.ret (.ref (g s.heap).objs.size))) { s with heap := (g s.heap).push { cls := .type "enumerate", data := .fields #[.none, .bool false, .ref (a s.heap), rawInt k, .none, .none] } }) :=
  .of_wp fun prog w A R s h => by
    obtain ⟨hp, gs, d, tk, os⟩ := s; obtain ⟨h1, h⟩ := h
    have hsub := sub_enumerate
    have hnf : (!Builtin.SmallTypes.fitsIndex k) = false := by rw [hfit]; rfl
    have q1 : ∀ {A' : Around} {E : Value → Shared → Prop} {Q : Value → Shared → Prop}, Q (.ref (a hp)) ⟨g hp, gs, d, tk, os⟩ → wpAny (model prog w) A' (pyIter v) Q E ⟨hp, gs, d, tk, os⟩ :=
      fun q => B.iter prog w _ _ ⟨hp, gs, d, tk, os⟩ _ h1 q
    wp_walk using q1
    refine wpAny_stack_any fun st => wpAny_pure ?_
    split
    · rename_i c _ _ _ _ _
      cases (c == Value.type "enumerate")
      · wp_walk using q1
        exact ⟨_, rfl, h⟩
      · wp_walk using q1
        exact ⟨_, rfl, h⟩
    · wp_walk using q1
      exact ⟨_, rfl, h⟩
section
variable {prog : Program} {w : World} {A : Around} {E : Value → Shared → Prop} {s : Shared}
theorem enumG1 {v : Value} {g : Heap → Heap} {a : Heap → Addr} {Hh : Heap → Prop} {Q : Value → Shared → Prop} (B : IterG v g a Hh) (h1 : Hh s.heap)
    (h : ∀ h', IsEnum h' (g s.heap).objs.size (a s.heap) 0 .none → h'.objs.size = (g s.heap).objs.size + 1 → (∀ b o, (g s.heap).get? b = some o → h'.get? b = some o) → Q (.ref (g s.heap).objs.size) { s with heap := h' }) :
    wpAny (model prog w) A (call (.type "enumerate") [v]) Q E s := by
  refine callType_new F.called_enumerate (by decide) (F.typeCall_enumerate_1 _) (F.newCall_enumerate_1 _) (fun obj => F.args_object_init_2 obj _) F.entry_enumerate_new (meets_enumG1 B) ⟨h1, ?_⟩
  have he : IsEnum ((g s.heap).push { cls := .type "enumerate", data := .fields #[.none, .bool false, .ref (a s.heap), rawInt 0, .none, .none] }) (g s.heap).objs.size (a s.heap) 0 .none := Heap.get?_push_size _ rfl
  exact ⟨⟨_, he, rfl⟩, h _ he (by rw [Heap.size_push]) fun b o x => Heap.get?_push_of_some _ x⟩
theorem enumG2 {v : Value} {g : Heap → Heap} {a : Heap → Addr} {Hh : Heap → Prop} {k : Int} {t : Tok} {Q : Value → Shared → Prop} (B : IterG v g a Hh) (h1 : Hh s.heap) (hk0 : -(2 ^ 63) ≤ k) (hk1 : k < 2 ^ 63)
    (h : ∀ h', IsEnum h' (g s.heap).objs.size (a s.heap) k .none → h'.objs.size = (g s.heap).objs.size + 1 → (∀ b o, (g s.heap).get? b = some o → h'.get? b = some o) → Q (.ref (g s.heap).objs.size) { s with heap := h' }) :
    wpAny (model prog w) A (call (.type "enumerate") [v, .int k t]) Q E s := by
  refine callType_new F.called_enumerate (by decide) (F.typeCall_enumerate_2 _ _) (F.newCall_enumerate_2 _ _) (fun obj => F.args_object_init_3 obj _ _) F.entry_enumerate_new (meets_enumG2 B k t (fits_start hk0 hk1)) ⟨h1, ?_⟩
  have he : IsEnum ((g s.heap).push { cls := .type "enumerate", data := .fields #[.none, .bool false, .ref (a s.heap), rawInt k, .none, .none] }) (g s.heap).objs.size (a s.heap) k .none := Heap.get?_push_size _ rfl
  exact ⟨⟨_, he, rfl⟩, h _ he (by rw [Heap.size_push]) fun b o x => Heap.get?_push_of_some _ x⟩
end
/-! ### enumerate(source), from k0 -/
def ItE (K : PySem.W.Frag) (S : Src) (k0 : Int) : It :=
  ⟨fun i H => S.ok K H ∧ i < S.its.length, fun i H v H' => ∃ T x, v = .ref T ∧ H T = none ∧ H' = upd H T (.tup [.int (k0 + (i : Nat)), x]) ∧ S.its[i]? = some x, fun i H => S.ok K H ∧ i = S.its.length⟩
theorem walkE {K : PySem.W.Frag} {S : Src} {k0 : Int} : Walk (ItE K S k0) S.its.length (fun H => S.ok K H) (YPair (fun i => some (.int (k0 + (i : Nat)))) (fun i => S.its[i]?)) := by
  refine ⟨fun _ _ hi q => ⟨q, hi⟩, fun _ q => ⟨q, rfl⟩, fun i H v H' _ _ y => ?_⟩
  obtain ⟨T, x, h1, h2, h3, h4⟩ := y
  exact ⟨T, _, x, h1, h2, h3, rfl, h4⟩
theorem turnE {P : Program} {w : World} {K : PySem.W.Frag} {elts : List Expr} {kk : Nat} {tpos : Pos} {S : Src} {k0 : Int} {e it : Addr} (hei : e ≠ it) (hSi : ∀ b ∈ S.ad, b ≠ it) (hSe : ∀ b ∈ S.ad, b ≠ e) :
    Turn P w K (.Tuple elts kk tpos) (ItE K S k0) [e, it] e (fun i h => (∃ old, IsEnum h e it (k0 + (i : Nat)) old) ∧ SIt h it S i) where
  mem := by simp
  obj := fun i h st b hb => by
    obtain ⟨⟨old, he⟩, si⟩ := st
    have e' : b = e ∨ b = it := by simpa using hb
    rcases e' with z | z
    · rw [z]; exact ⟨_, he, fun v q => nomatch q⟩
    · rw [z]; exact si.obj
  keep := fun i h h' st k => let ⟨⟨old, he⟩, hi⟩ := st; ⟨⟨old, k e (by simp) _ he⟩, hi.at fun o q => k it (by simp) o q⟩
  item := by
    intro X hP hw hK hc i pins s σ H E I hf st hg
    subst hP hw hK
    obtain ⟨⟨old, he⟩, si⟩ := st
    obtain ⟨hq, hi⟩ := hg
    have hef : e ∉ it :: S.ad := fun z => (List.mem_cons.mp z).elim hei fun z => hSe e z rfl
    obtain ⟨Pd, St, D, sd, hP, hSt⟩ := Src.draws (A := X.A.in1) I (I.ok.hd hc) hq si hSi
    have hel : e < s.heap.objs.size := Heap.lt_size he
    have hil : it < s.heap.objs.size := by obtain ⟨_, q, _⟩ := si.obj; exact Heap.lt_size q
    refine wpAny_pyNext_enum_itemC D he sd hi hei hef fun u h' tk hu ho hs' hT hsz hk => ?_
    obtain ⟨x, hx, rx⟩ := hP i u hu
    refine ⟨_, rfl, wpAny_letOwnedTupleGo_enum (s := { s with heap := h', toks := tk + 1 }) ho fun h'' he' sb => ?_⟩
    have hT2 : h''.get? s.heap.objs.size = some { cls := .type "tuple", data := .seq #[.int (k0 + (i : Nat)) tk, u] } := (sb.2 _ (Nat.ne_of_gt hel)).trans hT
    have new : ObjOk X.prog X.w (upd H s.heap.objs.size (.tup [.int (k0 + (i : Nat)), x])) h'' s.heap.objs.size (.tup [.int (k0 + (i : Nat)), x]) :=
      ⟨by show 2 ≤ sizeLine; decide, [.int (k0 + (i : Nat)) tk, u], .cons ⟨_, rfl⟩ (.cons rx .nil), ⟨_, hT2, rfl, _, rfl⟩⟩
    have I1 : Inv X pins σ (upd H s.heap.objs.size (.tup [.int (k0 + (i : Nat)), x])) { s with heap := h'', toks := tk + 1 } :=
      I.turnedNew (ch := [e, it]) (fun b ob hb q => (sb.2 b (fun z => hb (by simp [z]))).trans (hk b ob (fun z => hb (by simp [z])) (fun z => hb (by simp [z])) q)) hf (Nat.le_refl _) new
    refine ⟨.ref s.heap.objs.size, _, I1, rfl, ⟨_, x, rfl, I.hok.fresh (Nat.le_refl _), rfl, hx⟩, ⟨⟨u, ?_⟩, (hSt _ _ hs').at fun o q => (sb.2 it (Ne.symm hei)).trans q⟩, fun b hb => ?_⟩
    · have e1 : k0 + ((i + 1 : Nat) : Int) = k0 + (i : Nat) + 1 := by omega
      rw [e1]; exact he'
    · have hb' : b < s.heap.objs.size := by
        have e' : b = e ∨ b = it := by simpa using hb
        rcases e' with z | z
        · rw [z]; exact hel
        · rw [z]; exact hil
      rw [upd_ne (Nat.ne_of_lt hb')]
      exact (hf b hb).1
  done := by
    intro X hP hw hK hc i pins s σ H E I hf st hg
    subst hP hw hK
    obtain ⟨⟨old, he⟩, si⟩ := st
    obtain ⟨hq, hi⟩ := hg
    obtain ⟨Pd, St, D, sd, hP, hSt⟩ := Src.draws (A := X.A.in1) I (I.ok.hd hc) hq si hSi
    obtain ⟨f0, f1, f2, f3, f4, f5⟩ := hf it (by simp)
    rw [hi] at sd
    exact wpAny_pyNext_enum_endD D he sd fun h' eb => ⟨rfl, I.turned (t' := s.toks) (fun b o hb q => eb b o hb q) f0 f1 f3 f4 f5⟩
  self := fun A i s Q E st h => let ⟨⟨_, he⟩, _⟩ := st; wpAny_pyIter_enum he h
/-- how an iterator over the source begins -/
theorem Src.begins {X : Cx} {pins : List (Addr × Obj)} {σ : L2.St} {H : Hp} {s : Shared} {S : Src} {u : Value} (I : Inv X pins σ H s) (q : S.ok X.K H) (r : RelV S.v u) :
    ∃ (o : Obj) (Hh : Heap → Prop), Begins u o Hh ∧ Hh s.heap ∧ (∀ h it, h.get? it = some o → SIt h it S 0) ∧ ∀ b ∈ S.ad, b < s.heap.objs.size := by
  cases S with
  | l a xs =>
    cases (show u = Value.ref a from r)
    obtain ⟨its, rv, p, hz⟩ := I.list q
    exact ⟨_, _, begins_list a its.toArray, p.isList, fun h it e => ⟨_, e, rfl, rfl⟩, fun b hb => by rw [show b = a by simpa [Src.ad] using hb]; exact p.lt⟩
  | t a xs =>
    cases (show u = Value.ref a from r)
    obtain ⟨its, rv, p, hz⟩ := I.tuple q
    exact ⟨_, _, begins_tuple a its.toArray, (show s.heap.IsTuple a its.toArray from p), fun h it e => ⟨_, e, rfl, rfl⟩, fun b hb => by rw [show b = a by simpa [Src.ad] using hb]; exact p.lt⟩
  | s z =>
    obtain ⟨t, rfl⟩ := (show ∃ t, u = Value.str z t from r)
    exact ⟨_, _, begins_text z t, trivial, fun h it e => ⟨t, _, e, rfl, rfl⟩, fun b hb => by simp [Src.ad] at hb⟩
theorem fpNew {X : Cx} {pins : List (Addr × Obj)} {σ : L2.St} {H : Hp} {s : Shared} {fp : List Addr} (I : Inv X pins σ H s) (h : ∀ b ∈ fp, s.heap.objs.size ≤ b) : ∀ b ∈ fp, FpOk X pins H b := fun b hb => I.fpOk (h b hb) (I.hok.fresh (h b hb))
def iEn (K : PySem.W.Frag) (ta : TA) (k0 : Int) : TI := fun σ H R => ta σ H fun vs H1 => ∃ S : Src, vs = [S.v] ∧ S.ok K H1 ∧ R (ItE K S k0) H1
theorem pi_enumS {X : Cx} {e : Expr} {ta : TA} {p pos tpos : Pos} {elts : List Expr} {kk : Nat} (hg : Gl X "enumerate") (hm : X.mg "enumerate" = none) (ha : PA X [e] ta) (hs : starEach [e] X.env = [(false, eval e X.env)] := by rfl) :
    PI X (.Tuple elts kk tpos) (.Call (.Name "enumerate" p) [e] [] pos) (iEn X.K ta 0) := by
  refine ⟨fun pins s σ H R I h => ?_⟩
  refine Call_ (ld_blt I hg hm boot_enumerate (PyProof.Rows.callWith_type1 (thn (ha.run pos pins s σ H _ I h) fun us s1 ⟨vs, H1, I1, r1, q1⟩ => ?_) hs rfl))
  obtain ⟨S, ex, hq, q⟩ := q1
  subst ex
  obtain ⟨u, rfl, ru⟩ := vals1 r1
  obtain ⟨o, Hh, B, hb, hit, hlt⟩ := Src.begins I1 hq ru
  refine enumG1 (.of B) hb fun h' he hsz hk => ?_
  have z1 : (s1.heap.push o).objs.size = s1.heap.objs.size + 1 := Heap.size_push ..
  rw [z1] at he ⊢
  have h0 : h'.get? s1.heap.objs.size = some o := hk _ _ (Heap.get?_push_size _ B.free)
  have hlt2 : ∀ b ∈ S.ad, b < s1.heap.objs.size := hlt
  refine wpAny_pyIter_enum he ?_
  refine ⟨s1.heap.objs.size + 1, [s1.heap.objs.size + 1, s1.heap.objs.size], _, _, H1, rfl, I1.kept (t' := s1.toks) (fun b o e => hk b o (Heap.get?_push_of_some _ e)), turnE (S := S) (k0 := 0) (e := s1.heap.objs.size + 1) (it := s1.heap.objs.size) (Nat.succ_ne_self _) (fun b z => Nat.ne_of_lt (hlt2 b z)) (fun b z => Nat.ne_of_lt (Nat.lt_succ_of_lt (hlt2 b z))), ⟨⟨.none, he⟩, hit _ _ h0⟩, fun b hb => ?_, q⟩
  have e' : b = s1.heap.objs.size + 1 ∨ b = s1.heap.objs.size := by simpa using hb
  have hle : s1.heap.objs.size ≤ b := by
    rcases e' with z | z
    · rw [z]; exact Nat.le_succ _
    · rw [z]; exact Nat.le_refl _
  exact I1.fpOk hle (I1.hok.fresh hle)
end TPI
end
section
set_option maxHeartbeats 4000000
namespace TPI
open PySem PySem.Spec PyProof.Rows L2 TPZ
/-! ### zip begins -/
abbrev gzS2 (h : Heap) (o1 o2 : Obj) : Heap := (gzO2 h o1 o2).push { cls := .type "zip", data := .fields #[.none, .bool false, .bool true, .ref ((h.push o1).push o2).objs.size, .ref (gzT2 h o1 o2).objs.size] }
theorem typeCall_zipS (a b c : Value) : checkTypeCall "zip" ⟨[a, b], [(Str.ofString "strict", c)]⟩ = pure () := by kernel_rfl
theorem newCall_zipS (a b c : Value) : checkBuiltinCall "zip.__new__" ⟨[.type "zip", a, b], [(Str.ofString "strict", c)]⟩ = pure () := by kernel_rfl
theorem args_object_init_zipS (obj a b c : Value) : argsOk "object.__init__" ⟨[obj, a, b], [(Str.ofString "strict", c)]⟩ := by unfold argsOk; kernel_rfl
theorem meets_zipS {v1 v2 : Value} {o1 o2 : Obj} {H1 H2 : Heap → Prop} (B1 : Begins v1 o1 H1) (B2 : Begins v2 o2 H2) :
    Meets (Builtin.«zip.__new__» ⟨[.type "zip", v1, v2], [(Str.ofString "strict", .bool true)]⟩) (fun _ R s => (H1 s.heap ∧ H2 s.heap) ∧
      R (.ok (.ret (.ref (gzO2 s.heap o1 o2).objs.size))) { s with heap := gzS2 s.heap o1 o2 }) :=
  .of_wp fun prog w A R s h => by
    obtain ⟨hp, g, d, tk, os⟩ := s; obtain ⟨⟨h1, h2⟩, h⟩ := h
    have hsub := sub_zip
    have q1 : ∀ {A' : Around} {E : Value → Shared → Prop} {Q : Value → Shared → Prop}, Q (.ref hp.objs.size) ⟨(hp.push o1), g, d, tk, os⟩ → wpAny (model prog w) A' (pyIter v1) Q E ⟨hp, g, d, tk, os⟩ :=
      fun q => B1.iter prog w _ _ ⟨hp, g, d, tk, os⟩ _ (B1.keeps _ _ h1 fun b o' e => e) q
    have q2 : ∀ {A' : Around} {E : Value → Shared → Prop} {Q : Value → Shared → Prop}, Q (.ref (hp.push o1).objs.size) ⟨((hp.push o1).push o2), g, d, tk, os⟩ → wpAny (model prog w) A' (pyIter v2) Q E ⟨(hp.push o1), g, d, tk, os⟩ :=
      fun q => B2.iter prog w _ _ ⟨(hp.push o1), g, d, tk, os⟩ _ (B2.keeps _ _ h2 fun b o' e => (Heap.get?_push_of_some _ e)) q
    have e1 : (Str.ofString "strict" != ("strict" : Str)) = false := by decide +kernel
    have e2 : (decide ([(Str.ofString "strict", Value.bool true)].length > 1)) = false := by decide
    wp_walk using q1, q2
    exact ⟨_, rfl, h⟩
section
variable {prog : Program} {w : World} {A : Around} {E : Value → Shared → Prop} {s : Shared}
/-- zip of 2, strict: its 5 new cells -/
theorem zipS_begins {v1 v2 : Value} {o1 o2 : Obj} {H1 H2 : Heap → Prop} {Q : Value → Shared → Prop} (B1 : Begins v1 o1 H1) (B2 : Begins v2 o2 H2) (h1 : H1 s.heap) (h2 : H2 s.heap)
    (h : ∀ h', ZipO h' (s.heap.objs.size + 4) (s.heap.objs.size + 2) (s.heap.objs.size + 3) .none false true → IsTupOf2 h' (s.heap.objs.size + 2) (.ref s.heap.objs.size) (.ref (s.heap.objs.size + 1)) →
      IsTupOf2 h' (s.heap.objs.size + 3) .none .none → h'.get? s.heap.objs.size = some o1 → h'.get? (s.heap.objs.size + 1) = some o2 → h'.objs.size = s.heap.objs.size + 5 →
      (∀ c o, s.heap.get? c = some o → h'.get? c = some o) → Q (.ref (s.heap.objs.size + 4)) { s with heap := h' }) :
    wpAny (model prog w) A (call (.type "zip") [v1, v2] [(Str.ofString "strict", .bool true)]) Q E s := by
  refine callType_newKw F.called_zip (by decide) (typeCall_zipS _ _ _) (newCall_zipS _ _ _) (fun obj => args_object_init_zipS obj _ _ _) F.entry_zip_new
    (meets_zipS B1 B2) ⟨⟨h1, h2⟩, ?_⟩
  have z1 : (s.heap.push o1).objs.size = s.heap.objs.size + 1 := by rw [Heap.size_push]
  have z2 : ((s.heap.push o1).push o2).objs.size = s.heap.objs.size + 2 := by rw [Heap.size_push, z1]
  have zT : (gzT2 s.heap o1 o2).objs.size = s.heap.objs.size + 3 := by rw [Heap.size_push, z2]
  have zO : (gzO2 s.heap o1 o2).objs.size = s.heap.objs.size + 4 := by rw [Heap.size_push, zT]
  have zZ : (gzS2 s.heap o1 o2).objs.size = s.heap.objs.size + 5 := by rw [Heap.size_push, zO]
  have gZ : (gzS2 s.heap o1 o2).get? (gzO2 s.heap o1 o2).objs.size = some { cls := .type "zip", data := .fields #[.none, .bool false, .bool true, .ref ((s.heap.push o1).push o2).objs.size, .ref (gzT2 s.heap o1 o2).objs.size] } := Heap.get?_push_size _ rfl
  have gO : (gzS2 s.heap o1 o2).get? (gzT2 s.heap o1 o2).objs.size = some { cls := .type "tuple", data := .seq #[.none, .none] } := Heap.get?_push_of_some _ (Heap.get?_push_size _ rfl)
  have gT : (gzS2 s.heap o1 o2).get? ((s.heap.push o1).push o2).objs.size = some { cls := .type "tuple", data := .seq #[.ref s.heap.objs.size, .ref (s.heap.push o1).objs.size] } := Heap.get?_push_of_some _ (Heap.get?_push_of_some _ (Heap.get?_push_size _ rfl))
  have g1 : (gzS2 s.heap o1 o2).get? s.heap.objs.size = some o1 := Heap.get?_push_of_some _ (Heap.get?_push_of_some _ (Heap.get?_push_of_some _ (Heap.get?_push_of_some _ (Heap.get?_push_size _ B1.free))))
  have g2 : (gzS2 s.heap o1 o2).get? (s.heap.push o1).objs.size = some o2 := Heap.get?_push_of_some _ (Heap.get?_push_of_some _ (Heap.get?_push_of_some _ (Heap.get?_push_size _ B2.free)))
  rw [zO, zT, z2] at gZ
  rw [zT] at gO
  rw [z2, z1] at gT
  rw [z1] at g2
  show _ ∧ _
  rw [zO]
  exact ⟨⟨_, gZ, rfl⟩, h _ gZ gT gO g1 g2 zZ fun c o e => Heap.get?_push_of_some _ (Heap.get?_push_of_some _ (Heap.get?_push_of_some _ (Heap.get?_push_of_some _ (Heap.get?_push_of_some _ e))))⟩
/-- a built-in class called with keywords -/
theorem callWith_typeKw {M : Model} {pos : Pos} {T : String} {e : Expr} {rest : List Expr} {kws : List Keyword} {env : Env} {Q : Value → Shared → Prop}
    (h : wpAny M A (spliced (backTo pos (starEach (e :: rest) env))) (fun vs s₁ => wpAny M A (evalAll ((backToKw pos (keywordEach kws env)).map (·.2)))
      (fun kvs s₂ => wpAny M A (call (.type T) vs (((backToKw pos (keywordEach kws env)).filterMap (·.1)).zip kvs)) Q E s₂) E s₁) E s)
    (he : backTo pos (starEach (e :: rest) env) = (false, eval e env) :: backTo pos (starEach rest env) := by rfl)
    (hplain : (backTo pos (starEach (e :: rest) env)).any (·.1) = false := by rfl)
    (hall : (backToKw pos (keywordEach kws env)).all (·.1.isSome) = true := by rfl)
    (hkw : (backToKw pos (keywordEach kws env)).any (·.1.isNone) = false := by rfl) :
    wpAny M A (callWith pos (.type T) [] (backTo pos (starEach (e :: rest) env)) (backToKw pos (keywordEach kws env))) Q E s := by
  unfold callWith
  have q : wpAny M A (evalArgs (.type T) true (backTo pos (starEach (e :: rest) env)) (backToKw pos (keywordEach kws env))) (fun a s₁ => wpAny M A (call (.type T) ([] ++ a.pos) a.kw) Q E s₁) E s := by
    rw [he] at h ⊢
    exact evalArgs_kwB hall h
  refine wpAny_bind (wpAny_holding (wpAny_mono q (fun a s₁ h₁ => wpAny_bind (wpAny_standAt ?_)) fun _ _ x => x))
  simp only [hplain, hkw, Bool.or_false]
  refine wpAny_bind (wpAny_pure ?_)
  exact wpAny_bind (wpAny_mono h₁ (fun r s₂ hr => wpAny_bind (wpAny_holding (wpAny_point (wpAny_pure hr)))) fun _ _ x => x)
end
end TPI
end
section
set_option maxHeartbeats 4000000
namespace TPI
open PySem PySem.Spec PyProof.Rows L2 TPZ
/-! ### zip of two sources: its turns -/
structure Ap (z TI TO i1 i2 : Addr) (S1 S2 : Src) : Prop where
  TIz : TI ≠ z
  TOz : TO ≠ z
  TITO : TI ≠ TO
  TIi1 : TI ≠ i1
  TIi2 : TI ≠ i2
  zi1 : z ≠ i1
  zi2 : z ≠ i2
  TOi1 : TO ≠ i1
  TOi2 : TO ≠ i2
  i12 : i1 ≠ i2
  c1 : ∀ b ∈ S1.ad, b ≠ z ∧ b ≠ TO ∧ b ≠ i1 ∧ b ≠ i2
  c2 : ∀ b ∈ S2.ad, b ≠ z ∧ b ≠ TO ∧ b ≠ i1 ∧ b ≠ i2
theorem Ap.sep {z TI TO i1 i2 : Addr} {S1 S2 : Src} (a : Ap z TI TO i1 i2 S1 S2) : ZipSep2 z TI TO i1 i2 (i1 :: S1.ad) (i2 :: S2.ad) where
  TIz := a.TIz
  TOz := a.TOz
  TITO := a.TITO
  TIi1 := a.TIi1
  mem1 := List.mem_cons_self ..
  zf1 := fun q => (List.mem_cons.mp q).elim a.zi1 fun q => (a.c1 z q).1 rfl
  Tf1 := fun q => (List.mem_cons.mp q).elim a.TOi1 fun q => (a.c1 TO q).2.1 rfl
  TIi2 := a.TIi2
  mem2 := List.mem_cons_self ..
  zf2 := fun q => (List.mem_cons.mp q).elim a.zi2 fun q => (a.c2 z q).1 rfl
  Tf2 := fun q => (List.mem_cons.mp q).elim a.TOi2 fun q => (a.c2 TO q).2.1 rfl
  sep1_2 := fun q => (List.mem_cons.mp q).elim a.i12 fun q => (a.c2 i1 q).2.2.1 rfl
  sep2_1 := fun q => (List.mem_cons.mp q).elim a.i12.symm fun q => (a.c1 i2 q).2.2.2 rfl
theorem Ap.new {N : Nat} {S1 S2 : Src} (h1 : ∀ b ∈ S1.ad, b < N) (h2 : ∀ b ∈ S2.ad, b < N) : Ap (N + 4) (N + 2) (N + 3) N (N + 1) S1 S2 where
  TIz := (by omega : (N + 2 : Nat) ≠ N + 4)
  TOz := (by omega : (N + 3 : Nat) ≠ N + 4)
  TITO := (by omega : (N + 2 : Nat) ≠ N + 3)
  TIi1 := (by omega : (N + 2 : Nat) ≠ N)
  TIi2 := (by omega : (N + 2 : Nat) ≠ N + 1)
  zi1 := (by omega : (N + 4 : Nat) ≠ N)
  zi2 := (by omega : (N + 4 : Nat) ≠ N + 1)
  TOi1 := (by omega : (N + 3 : Nat) ≠ N)
  TOi2 := (by omega : (N + 3 : Nat) ≠ N + 1)
  i12 := (by omega : (N : Nat) ≠ N + 1)
  c1 := fun b hb => by
    have q := h1 b hb
    exact ⟨Nat.ne_of_lt (Nat.lt_of_lt_of_le q (Nat.le_add_right _ _)), Nat.ne_of_lt (Nat.lt_of_lt_of_le q (Nat.le_add_right _ _)), Nat.ne_of_lt q, Nat.ne_of_lt (Nat.lt_of_lt_of_le q (Nat.le_add_right _ _))⟩
  c2 := fun b hb => by
    have q := h2 b hb
    exact ⟨Nat.ne_of_lt (Nat.lt_of_lt_of_le q (Nat.le_add_right _ _)), Nat.ne_of_lt (Nat.lt_of_lt_of_le q (Nat.le_add_right _ _)), Nat.ne_of_lt q, Nat.ne_of_lt (Nat.lt_of_lt_of_le q (Nat.le_add_right _ _))⟩
def ZT (h : Heap) (z TI TO i1 i2 : Addr) (S1 S2 : Src) (st : Bool) (i : Nat) : Prop := Zst h z TI TO st ∧ IsTupOf2 h TI (.ref i1) (.ref i2) ∧ (∃ a1 a2, IsTupOf2 h TO a1 a2) ∧ SIt h i1 S1 i ∧ SIt h i2 S2 i
def ItZ (K : PySem.W.Frag) (S1 S2 : Src) (st : Bool) : It :=
  ⟨fun i H => (S1.ok K H ∧ S2.ok K H) ∧ i < S1.its.length ∧ i < S2.its.length, fun i H v H' => ∃ T x y, v = .ref T ∧ H T = none ∧ H' = upd H T (.tup [x, y]) ∧ S1.its[i]? = some x ∧ S2.its[i]? = some y,
    fun i H => (S1.ok K H ∧ S2.ok K H) ∧ i = min S1.its.length S2.its.length ∧ (st = true → S1.its.length = S2.its.length)⟩
theorem walkZ {K : PySem.W.Frag} {S1 S2 : Src} {st : Bool} (hst : st = true → S1.its.length = S2.its.length) : Walk (ItZ K S1 S2 st) (min S1.its.length S2.its.length) (fun H => S1.ok K H ∧ S2.ok K H) (YPair (fun i => S1.its[i]?) (fun i => S2.its[i]?)) := by
  refine ⟨fun i _ hi q => ⟨q, by omega, by omega⟩, fun _ q => ⟨q, rfl, hst⟩, fun i H v H' _ _ y => ?_⟩
  obtain ⟨T, x, y, h1, h2, h3, h4, h5⟩ := y
  exact ⟨T, x, y, h1, h2, h3, h4, h5⟩
section
variable {X : Cx} {pins : List (Addr × Obj)} {σ : L2.St} {H : Hp} {s : Shared} {z TI TO i1 i2 : Addr} {S1 S2 : Src} {st : Bool} {i : Nat} {E : Value → Shared → Prop} {A : Around}
/-- the next pair, at zip.__next__ -/
theorem zt_item {Q : Value → Shared → Prop} (I : Inv X pins σ H s) (hh : A.handled = none) (ap : Ap z TI TO i1 i2 S1 S2) (zt : ZT s.heap z TI TO i1 i2 S1 S2 st i) (q1 : S1.ok X.K H) (q2 : S2.ok X.K H) (l1 : i < S1.its.length) (l2 : i < S2.its.length)
    (h : ∀ u1 u2 x y h' tk, S1.its[i]? = some x → S2.its[i]? = some y → RelV x u1 → RelV y u2 → ZT h' z TI TO i1 i2 S1 S2 st (i + 1) → IsTupOf2 h' s.heap.objs.size u1 u2 → h'.objs.size = s.heap.objs.size + 1 →
      (∀ c o, c ∉ [z, TI, TO, i1, i2] → s.heap.get? c = some o → h'.get? c = some o) → Q (.ref s.heap.objs.size) { s with heap := h', toks := tk }) :
    wpAny (model X.prog X.w) A (Builtin.«zip.__next__» ⟨[.ref z], []⟩) (fun fin s' => ∃ v, fin = .done (.ret v) ∧ Q v s') E s := by
  obtain ⟨hz, hTI, ⟨a1, a2, hTO⟩, s1, s2⟩ := zt
  obtain ⟨P1, St1, D1, d1, hP1, hS1⟩ := Src.draws (A := A) I hh q1 s1 fun b hb => (ap.c1 b hb).2.2.1
  obtain ⟨P2, St2, D2, d2, hP2, hS2⟩ := Src.draws (A := A) I hh q2 s2 fun b hb => (ap.c2 b hb).2.2.2
  refine zip_item ap.sep D1 D2 hz hTI hTO d1 d2 l1 l2 fun u1 u2 h' tk p1 p2 hz' hTO' t1 t2 hT hsz k => ?_
  obtain ⟨x, hx, rx⟩ := hP1 i u1 p1
  obtain ⟨y, hy, ry⟩ := hP2 i u2 p2
  exact h u1 u2 x y h' tk hx hy rx ry ⟨hz', k _ _ ap.TIz ap.TITO ap.TIi1 ap.TIi2 hTI, hTO', hS1 _ _ t1, hS2 _ _ t2⟩ hT hsz fun c o hc e =>
    k c o (fun q => hc (by simp [q])) (fun q => hc (by simp [q])) (fun q => hc (by simp [q])) (fun q => hc (by simp [q])) e
theorem zt_end {Q : Fin → Shared → Prop} (I : Inv X pins σ H s) (hh : A.handled = none) (ap : Ap z TI TO i1 i2 S1 S2) (zt : ZT s.heap z TI TO i1 i2 S1 S2 st i) (q1 : S1.ok X.K H) (q2 : S2.ok X.K H) (hi : i = min S1.its.length S2.its.length) (hst : st = true → S1.its.length = S2.its.length)
    (h : ∀ h' tk e, (∀ c o, c ∉ [z, TI, TO, i1, i2] → s.heap.get? c = some o → h'.get? c = some o) → (∃ o, h'.get? e = some o ∧ o.cls = .type "StopIteration") → E (.ref e) { s with heap := h', toks := tk }) :
    wpAny (model X.prog X.w) A (Builtin.«zip.__next__» ⟨[.ref z], []⟩) Q E s := by
  obtain ⟨hz, hTI, ⟨a1, a2, hTO⟩, s1, s2⟩ := zt
  obtain ⟨P1, St1, D1, d1, hP1, hS1⟩ := Src.draws (A := A) I hh q1 s1 fun b hb => (ap.c1 b hb).2.2.1
  obtain ⟨P2, St2, D2, d2, hP2, hS2⟩ := Src.draws (A := A) I hh q2 s2 fun b hb => (ap.c2 b hb).2.2.2
  exact zip_end hh ap.sep D1 D2 hz hTI hTO d1 d2 (by omega) (by omega) (by omega) hst fun h' tk e k he => h h' tk e (fun c o hc x =>
    k c o (fun q => hc (by simp [q])) (fun q => hc (by simp [q])) (fun q => hc (by simp [q])) (fun q => hc (by simp [q])) x) he
end
theorem ZT.objs {h : Heap} {z TI TO i1 i2 : Addr} {S1 S2 : Src} {st : Bool} {i : Nat} (zt : ZT h z TI TO i1 i2 S1 S2 st i) : ∀ b ∈ [z, TI, TO, i1, i2], ∃ o, h.get? b = some o ∧ ∀ v, o.data ≠ .cell v := fun b hb => by
  obtain ⟨⟨f0, f1, hz, _⟩, hTI, ⟨a1, a2, hTO⟩, s1, s2⟩ := zt
  have e' : b = z ∨ b = TI ∨ b = TO ∨ b = i1 ∨ b = i2 := by simpa using hb
  rcases e' with q | q | q | q | q
  · rw [q]; exact ⟨_, hz, fun v q => nomatch q⟩
  · rw [q]; exact ⟨_, hTI, fun v q => nomatch q⟩
  · rw [q]; exact ⟨_, hTO, fun v q => nomatch q⟩
  · rw [q]; exact s1.obj
  · rw [q]; exact s2.obj
theorem ZT.keep {h h' : Heap} {z TI TO i1 i2 : Addr} {S1 S2 : Src} {st : Bool} {i : Nat} (zt : ZT h z TI TO i1 i2 S1 S2 st i) (k : ∀ b ∈ [z, TI, TO, i1, i2], ∀ o, h.get? b = some o → h'.get? b = some o) : ZT h' z TI TO i1 i2 S1 S2 st i := by
  obtain ⟨hz, hTI, ⟨a1, a2, hTO⟩, s1, s2⟩ := zt
  exact ⟨hz.of fun o e => k z (by simp) o e, k TI (by simp) _ hTI, ⟨a1, a2, k TO (by simp) _ hTO⟩, s1.at fun o e => k i1 (by simp) o e, s2.at fun o e => k i2 (by simp) o e⟩
theorem turnZ {P : Program} {w : World} {K : PySem.W.Frag} {elts : List Expr} {kk : Nat} {tpos : Pos} {S1 S2 : Src} {st : Bool} {z TI TO i1 i2 : Addr} (ap : Ap z TI TO i1 i2 S1 S2) :
    Turn P w K (.Tuple elts kk tpos) (ItZ K S1 S2 st) [z, TI, TO, i1, i2] z (fun i h => ZT h z TI TO i1 i2 S1 S2 st i) where
  mem := by simp
  obj := fun i h zt => zt.objs
  keep := fun i h h' zt k => zt.keep k
  item := by
    intro X hP hw hK hc i pins s σ H E I hf zt hg
    subst hP hw hK
    obtain ⟨⟨q1, q2⟩, l1, l2⟩ := hg
    have hT : s.TypeIs (.ref z) "zip" := by
      obtain ⟨⟨f0, f1, hz, _⟩, _⟩ := zt
      exact ⟨_, hz, rfl⟩
    have lt : ∀ c ∈ [z, TI, TO, i1, i2], c < s.heap.objs.size := fun c hc => by
      obtain ⟨o, e, _⟩ := zt.objs c hc
      exact Heap.lt_size e
    unfold pyNext
    refine wpAny_bind (wpAny_attempt (wpAny_callSpecial?_slot (name := Str.ofString "__next__") hT F.slot_zip_next
      (wpAny_call_entry F.slot_zip_next hT F.entry_zip_next (zt_item (A := X.A.in1) I (I.ok.hd hc) ap zt q1 q2 l1 l2 fun u1 u2 x y h' tk hx hy rx ry zt' hTt hsz k => wpAny_pure ?_) (F.args_zip_next_1 _))))
    refine ⟨_, rfl, zip_go (s := { s with heap := h', toks := tk }) zt'.1 fun h'' hz'' sb => ?_⟩
    have zl := lt z (by simp)
    have hT2 : h''.get? s.heap.objs.size = some { cls := .type "tuple", data := .seq #[u1, u2] } := (sb.2 _ (Nat.ne_of_gt zl)).trans hTt
    have new : ObjOk X.prog X.w (upd H s.heap.objs.size (.tup [x, y])) h'' s.heap.objs.size (.tup [x, y]) :=
      ⟨by show 2 ≤ sizeLine; decide, [u1, u2], .cons rx (.cons ry .nil), ⟨_, hT2, rfl, _, rfl⟩⟩
    have I1 : Inv X pins σ (upd H s.heap.objs.size (.tup [x, y])) { s with heap := h'', toks := tk } :=
      I.turnedNew (ch := [z, TI, TO, i1, i2]) (fun c o hb q => (sb.2 c (fun q' => hb (by simp [q']))).trans (k c o hb q)) hf (Nat.le_refl _) new
    refine ⟨.ref s.heap.objs.size, _, I1, rfl, ⟨_, x, y, rfl, I.hok.fresh (Nat.le_refl _), rfl, hx, hy⟩, ?_, fun c hcm => ?_⟩
    · obtain ⟨_, hTI, ⟨b1, b2, hTO⟩, s1, s2⟩ := zt'
      exact ⟨hz'', sb.extBut _ _ ap.TIz hTI, ⟨b1, b2, sb.extBut _ _ ap.TOz hTO⟩, s1.at fun o e => sb.extBut _ _ ap.zi1.symm e, s2.at fun o e => sb.extBut _ _ ap.zi2.symm e⟩
    · rw [upd_ne (Nat.ne_of_lt (lt c hcm))]
      exact (hf c hcm).1
  done := by
    intro X hP hw hK hc i pins s σ H E I hf zt hg
    subst hP hw hK
    obtain ⟨⟨q1, q2⟩, hi, hst⟩ := hg
    have hT : s.TypeIs (.ref z) "zip" := by
      obtain ⟨⟨f0, f1, hz, _⟩, _⟩ := zt
      exact ⟨_, hz, rfl⟩
    unfold pyNext
    refine wpAny_bind (wpAny_attempt (wpAny_callSpecial?_slot (name := Str.ofString "__next__") hT F.slot_zip_next
      (wpAny_call_entry F.slot_zip_next hT F.entry_zip_next (zt_end (A := X.A.in1) I (I.ok.hd hc) ap zt q1 q2 hi hst fun h' tk e k he => ?_) (F.args_zip_next_1 _))))
    obtain ⟨o, ho, hcl⟩ := he
    refine wpAny_bind (wpAny_isInstance (T := "StopIteration") (b := true) ⟨o, ho, hcl⟩ isSubtype_stop ?_)
    exact wpAny_pure ⟨rfl, I.turnedL (t' := tk) (ch := [z, TI, TO, i1, i2]) k hf⟩
  self := fun A i s Q E zt h => zip_iter zt.1 h
/-! ### zip(a, b), zip(a, b, strict=True): what is made -/
/-- two sources as arguments -/
def aSrc2 (K : PySem.W.Frag) (st : Bool) (ta : TA) (R : Src → Src → Hp → Prop) : L2.St → Hp → Prop := fun σ H => ta σ H fun vs H1 => ∃ S1 S2 : Src, vs = [S1.v, S2.v] ∧ S1.ok K H1 ∧ S2.ok K H1 ∧ R S1 S2 H1
section
variable {X : Cx} {pins : List (Addr × Obj)} {σ : L2.St} {H : Hp} {s : Shared}
/-- a zip has been made -/
def ZM (X : Cx) (pins : List (Addr × Obj)) (σ : L2.St) (st : Bool) (R : Src → Src → Hp → Prop) (v : Value) (s' : Shared) : Prop :=
  ∃ (z TI TO i1 i2 : Addr) (S1 S2 : Src) (H1 : Hp), v = .ref z ∧ Inv X pins σ H1 s' ∧ Ap z TI TO i1 i2 S1 S2 ∧ ZT s'.heap z TI TO i1 i2 S1 S2 st 0 ∧ (∀ b ∈ [z, TI, TO, i1, i2], FpOk X pins H1 b) ∧ S1.ok X.K H1 ∧ S2.ok X.K H1 ∧ R S1 S2 H1
theorem made5 {S1 S2 : Src} {st : Bool} {u1 u2 : Value} {R : Src → Src → Hp → Prop} {E : Value → Shared → Prop} {kw : List (Str × Value)} (I : Inv X pins σ H s) (q1 : S1.ok X.K H) (q2 : S2.ok X.K H) (r1 : RelV S1.v u1) (r2 : RelV S2.v u2) (hkw : kw = if st then [(Str.ofString "strict", .bool true)] else []) (h : R S1 S2 H) :
    wpAny (model X.prog X.w) X.A (call (.type "zip") [u1, u2] kw) (ZM X pins σ st R) E s := by
  obtain ⟨o1, Hh1, B1, b1, it1, lt1⟩ := Src.begins I q1 r1
  obtain ⟨o2, Hh2, B2, b2, it2, lt2⟩ := Src.begins I q2 r2
  have fin : ∀ (h' : Heap), Zst h' (s.heap.objs.size + 4) (s.heap.objs.size + 2) (s.heap.objs.size + 3) st → IsTupOf2 h' (s.heap.objs.size + 2) (.ref s.heap.objs.size) (.ref (s.heap.objs.size + 1)) →
      IsTupOf2 h' (s.heap.objs.size + 3) .none .none → h'.get? s.heap.objs.size = some o1 → h'.get? (s.heap.objs.size + 1) = some o2 → (∀ c o, s.heap.get? c = some o → h'.get? c = some o) →
      ZM X pins σ st R (.ref (s.heap.objs.size + 4)) { s with heap := h' } := fun h' hz hTI hTO h1 h2 hk =>
    ⟨_, _, _, _, _, S1, S2, H, rfl, I.kept (t' := s.toks) hk, Ap.new lt1 lt2, ⟨hz, hTI, ⟨_, _, hTO⟩, it1 _ _ h1, it2 _ _ h2⟩, fun c hcm => by
      have e' : c = s.heap.objs.size + 4 ∨ c = s.heap.objs.size + 2 ∨ c = s.heap.objs.size + 3 ∨ c = s.heap.objs.size ∨ c = s.heap.objs.size + 1 := by simpa using hcm
      have hle : s.heap.objs.size ≤ c := by
        rcases e' with z | z | z | z | z
        · rw [z]; exact Nat.le_add_right _ _
        · rw [z]; exact Nat.le_add_right _ _
        · rw [z]; exact Nat.le_add_right _ _
        · rw [z]; exact Nat.le_refl _
        · rw [z]; exact Nat.le_add_right _ _
      exact I.fpOk hle (I.hok.fresh hle), q1, q2, h⟩
  cases st with
  | true =>
    rw [hkw, if_pos rfl]
    exact zipS_begins B1 B2 b1 b2 fun h' hz hTI hTO h1 h2 _ hk => fin h' ⟨_, _, hz, .inl rfl⟩ hTI hTO h1 h2 hk
  | false =>
    rw [hkw, if_neg Bool.false_ne_true]
    exact zip_begins2 B1 B2 b1 b2 fun h' hz hTI hTO h1 h2 _ hk => fin h' ⟨_, _, hz, .inl rfl⟩ hTI hTO h1 h2 hk
variable {e e2 : Expr} {ta : TA} {p pos : Pos}
/-- zip(a, b) evaluated -/
structure PZ (X : Cx) (e : Expr) (st : Bool) (t : (Src → Src → Hp → Prop) → L2.St → Hp → Prop) : Prop where
  run : ∀ (pins : List (Addr × Obj)) (s : Shared) (σ : L2.St) (H : Hp) (R : Src → Src → Hp → Prop), Inv X pins σ H s → t R σ H → wpAny (model X.prog X.w) X.A (eval e X.env) (ZM X pins σ st R) X.xe s
theorem pz_zip (hg : Gl X "zip") (hm : X.mg "zip" = none) (ha : PA X [e, e2] ta)
    (hs : starEach [e, e2] X.env = (false, eval e X.env) :: starEach [e2] X.env := by rfl) (hpl : (backTo pos (starEach [e2] X.env)).any (·.1) = false := by rfl) :
    PZ X (.Call (.Name "zip" p) [e, e2] [] pos) false (aSrc2 X.K false ta) := by
  refine ⟨fun pins s σ H R I h => ?_⟩
  refine Call_ (ld_blt I hg hm PyProof.Rows.boot_zip (PyProof.Rows.callWith_type1 (thn (ha.run pos pins s σ H _ I h) fun us s1 ⟨vs, H1, I1, r1, q1⟩ => ?_) hs hpl))
  obtain ⟨S1, S2, ex, h1, h2, q⟩ := q1
  subst ex
  obtain ⟨u1, u2, rfl, ru1, ru2⟩ := vals2 r1
  exact made5 (st := false) I1 h1 h2 ru1 ru2 rfl q
theorem pz_zipS {k : Nat} {kp cp : Pos} (hg : Gl X "zip") (hm : X.mg "zip" = none) (ha : PA X [e, e2] ta)
    (he : backTo pos (starEach [e, e2] X.env) = (false, eval e X.env) :: backTo pos (starEach [e2] X.env) := by rfl) (hpl : (backTo pos (starEach [e, e2] X.env)).any (·.1) = false := by rfl) :
    PZ X (.Call (.Name "zip" p) [e, e2] [⟨some "strict", .Constant (.bool true) k cp, kp⟩] pos) true (aSrc2 X.K true ta) := by
  refine ⟨fun pins s σ H R I h => ?_⟩
  refine wpAny_Call_Name_kw (ld_blt I hg hm PyProof.Rows.boot_zip ?_)
  refine callWith_typeKw (thn (ha.run pos pins s σ H _ I h) fun us s1 ⟨vs, H1, I1, r1, q1⟩ => kws_cons (Constant_bool (kws_nil ?_))) he hpl rfl rfl
  obtain ⟨S1, S2, ex, h1, h2, q⟩ := q1
  subst ex
  obtain ⟨u1, u2, rfl, ru1, ru2⟩ := vals2 r1
  exact made5 (st := true) I1 h1 h2 ru1 ru2 rfl q
/-- zip walked -/
def iZ (K : PySem.W.Frag) (st : Bool) (t : (Src → Src → Hp → Prop) → L2.St → Hp → Prop) : TI := fun σ H R => t (fun S1 S2 H1 => R (ItZ K S1 S2 st) H1) σ H
theorem pi_zipZ {elts : List Expr} {kk : Nat} {tpos : Pos} {st : Bool} {t : (Src → Src → Hp → Prop) → L2.St → Hp → Prop} (hz : PZ X e st t) : PI X (.Tuple elts kk tpos) e (iZ X.K st t) := by
  refine ⟨fun pins s σ H R I h => ?_⟩
  refine thn (hz.run pins s σ H _ I h) fun v s1 ⟨z, TI, TO, i1, i2, S1, S2, H1, ev, I1, ap, zt, fp, q1, q2, q⟩ => ?_
  subst ev
  exact zip_iter zt.1 ⟨z, [z, TI, TO, i1, i2], _, _, H1, rfl, I1, turnZ ap, zt, fp, q⟩
end
end TPI
end
section
set_option maxHeartbeats 4000000
namespace TPI
open PySem PySem.Spec PyProof.Rows L2 TPZ
/-! ### enumerate(zip(a, b ..), k0) -/
def ItEZ (K : PySem.W.Frag) (S1 S2 : Src) (st : Bool) (k0 : Int) : It :=
  ⟨fun i H => (S1.ok K H ∧ S2.ok K H) ∧ i < S1.its.length ∧ i < S2.its.length, fun i H v H' => ∃ T T' x y, v = .ref T' ∧ T ≠ T' ∧ H T = none ∧ H T' = none ∧ H' = upd (upd H T' (.tup [.int (k0 + (i : Nat)), .ref T])) T (.tup [x, y]) ∧ S1.its[i]? = some x ∧ S2.its[i]? = some y,
    fun i H => (S1.ok K H ∧ S2.ok K H) ∧ i = min S1.its.length S2.its.length ∧ (st = true → S1.its.length = S2.its.length)⟩
def YEZ (S1 S2 : Src) (k0 : Int) : Nat → Hp → V → Hp → Prop := fun i H v H' => ∃ T T' x y, v = .ref T' ∧ T ≠ T' ∧ H T = none ∧ H T' = none ∧ H' = upd (upd H T' (.tup [.int (k0 + (i : Nat)), .ref T])) T (.tup [x, y]) ∧ S1.its[i]? = some x ∧ S2.its[i]? = some y
theorem walkEZ {K : PySem.W.Frag} {S1 S2 : Src} {st : Bool} {k0 : Int} (hst : st = true → S1.its.length = S2.its.length) : Walk (ItEZ K S1 S2 st k0) (min S1.its.length S2.its.length) (fun H => S1.ok K H ∧ S2.ok K H) (YEZ S1 S2 k0) :=
  ⟨fun i _ hi q => ⟨q, by omega, by omega⟩, fun _ q => ⟨q, rfl, hst⟩, fun i H v H' _ _ y => y⟩
section
variable {X : Cx} {pins : List (Addr × Obj)} {σ : L2.St} {H : Hp} {s : Shared} {z TI TO i1 i2 e : Addr} {S1 S2 : Src} {st : Bool} {i : Nat} {E : Value → Shared → Prop} {A : Around}
theorem zt_nextOf {Q : Value → Shared → Prop} (I : Inv X pins σ H s) (hh : A.handled = none) (ap : Ap z TI TO i1 i2 S1 S2) (zt : ZT s.heap z TI TO i1 i2 S1 S2 st i) (q1 : S1.ok X.K H) (q2 : S2.ok X.K H) (l1 : i < S1.its.length) (l2 : i < S2.its.length)
    (h : ∀ u1 u2 x y h' tk, S1.its[i]? = some x → S2.its[i]? = some y → RelV x u1 → RelV y u2 → ZT h' z TI TO i1 i2 S1 S2 st (i + 1) → IsTupOf2 h' s.heap.objs.size u1 u2 → h'.objs.size = s.heap.objs.size + 1 →
      (∀ c o, c ∉ [z, TI, TO, i1, i2] → s.heap.get? c = some o → h'.get? c = some o) → Q (.ref s.heap.objs.size) { s with heap := h', toks := tk }) :
    wpAny (model X.prog X.w) A (Builtin.SmallTypes.nextOf (.ref z)) Q E s := by
  have hT : s.TypeIs (.ref z) "zip" := by
    obtain ⟨⟨f0, f1, hz, _⟩, _⟩ := zt
    exact ⟨_, hz, rfl⟩
  unfold Builtin.SmallTypes.nextOf
  exact wpAny_bind (wpAny_callSpecial?_slot (name := Str.ofString "__next__") hT F.slot_zip_next
    (wpAny_call_entry F.slot_zip_next hT F.entry_zip_next (zt_item (A := A.in1) I hh ap zt q1 q2 l1 l2 fun u1 u2 x y h' tk hx hy rx ry zt' hTt hsz k => wpAny_pure (h u1 u2 x y h' tk hx hy rx ry zt' hTt hsz k)) (F.args_zip_next_1 _)))
theorem enumZ_item {c : Int} {old : Value} {Q : Value → Shared → Prop} (I : Inv X pins σ H s) (hh : A.handled = none) (ap : Ap z TI TO i1 i2 S1 S2) (he : IsEnum s.heap e z c old) (zt : ZT s.heap z TI TO i1 i2 S1 S2 st i) (q1 : S1.ok X.K H) (q2 : S2.ok X.K H) (l1 : i < S1.its.length) (l2 : i < S2.its.length)
    (hef : e ∉ [z, TI, TO, i1, i2])
    (hQ : ∀ u1 u2 x y h' tk, S1.its[i]? = some x → S2.its[i]? = some y → RelV x u1 → RelV y u2 → IsEnumOut h' e z (c + 1) (.ref s.heap.objs.size) (s.heap.objs.size + 1) → ZT h' z TI TO i1 i2 S1 S2 st (i + 1) → IsTupOf2 h' s.heap.objs.size u1 u2 →
      h'.get? (s.heap.objs.size + 1) = some { cls := .type "tuple", data := .seq #[.int c tk, .ref s.heap.objs.size] } → h'.objs.size = s.heap.objs.size + 2 →
      (∀ b o, b ∉ [e, z, TI, TO, i1, i2] → s.heap.get? b = some o → h'.get? b = some o) → Q (.ref (s.heap.objs.size + 1)) { s with heap := h', toks := tk + 1 }) :
    wpAny (model X.prog X.w) A (Builtin.«enumerate.__next__» ⟨[.ref e], []⟩) (fun fin s' => ∃ v, fin = .done (.ret v) ∧ Q v s') E s := by
  have hel : e < s.heap.objs.size := Heap.lt_size he
  show wpAny _ _ (field (.ref e) 2 >>= _) _ _ _
  refine wpAny_bind (wpAny_field he rfl (x := .ref z) rfl ?_)
  refine wpAny_bind (zt_nextOf I hh ap zt q1 q2 l1 l2 fun u1 u2 x y h₁ tk hx hy rx ry zt1 hT1 hsz1 k1 => ?_)
  clear zt I
  obtain ⟨hp, g, d, tk₀, os⟩ := s
  have he₁ : IsEnum h₁ e z c old := k1 e _ hef he
  replace hT1 : IsTupOf2 h₁ hp.objs.size u1 u2 := hT1
  replace hsz1 : h₁.objs.size = hp.objs.size + 1 := hsz1
  replace k1 : ∀ c o, c ∉ [z, TI, TO, i1, i2] → hp.get? c = some o → h₁.get? c = some o := k1
  replace hel : e < hp.objs.size := hel
  generalize hx0 : Value.ref (Shared.heap ⟨hp, g, d, tk₀, os⟩).objs.size = xv
  replace hx0 : Value.ref hp.objs.size = xv := hx0
  show wpAny _ _ (field (.ref e) 3 >>= _) _ _ ⟨h₁, g, d, tk, os⟩
  refine wpAny_bind (wpAny_field he₁ rfl (x := rawInt c) rfl ?_)
  show wpAny _ _ (field (.ref e) 4 >>= _) _ _ ⟨h₁, g, d, tk, os⟩
  refine wpAny_bind (wpAny_field he₁ rfl (x := .none) rfl ?_)
  show wpAny _ _ (mkInt c >>= _) _ _ ⟨h₁, g, d, tk, os⟩
  refine wpAny_bind (wpAny_mkInt ?_)
  show wpAny _ _ (setField (.ref e) 3 (rawInt (c + 1)) >>= _) _ _ ⟨h₁, g, d, tk + 1, os⟩
  refine wpAny_bind (wpAny_setField_rec he₁ (by simp) fun h₂ he₂ hs₂ => ?_)
  replace hs₂ : Heap.SameBut e h₁ h₂ := hs₂
  replace he₂ : IsEnum h₂ e z (c + 1) old := he₂
  show wpAny _ _ (setField (.ref e) 4 .none >>= _) _ _ ⟨h₂, g, d, tk + 1, os⟩
  refine wpAny_bind (wpAny_setField_rec he₂ (by simp) fun h₃ he₃ hs₃ => ?_)
  replace hs₃ : Heap.SameBut e h₂ h₃ := hs₃
  replace he₃ : IsEnum h₃ e z (c + 1) old := he₃
  show wpAny _ _ (newTuple [.int c tk, xv] >>= _) _ _ ⟨h₃, g, d, tk + 1, os⟩
  refine wpAny_bind (wpAny_newTuple ?_)
  have he₄ : IsEnum (h₃.push { cls := .type "tuple", data := .seq #[.int c tk, xv] }) e z (c + 1) old := Heap.get?_push_of_some _ he₃
  generalize hh₄ : h₃.push { cls := .type "tuple", data := .seq #[.int c tk, xv] } = h₄ at he₄
  have hsz : h₃.objs.size = hp.objs.size + 1 := by rw [hs₃.1, hs₂.1, hsz1]
  have ht₄ : h₄.get? (hp.objs.size + 1) = some { cls := .type "tuple", data := .seq #[.int c tk, xv] } := by rw [← hh₄, ← hsz]; exact Heap.get?_push_size _ rfl
  have hz₄ : h₄.objs.size = hp.objs.size + 2 := by rw [← hh₄, Heap.size_push, hsz]
  have up1 : ∀ b o, b ≠ e → h₁.get? b = some o → h₄.get? b = some o := fun b o hbe hb => by
    rw [← hh₄]; exact Heap.get?_push_of_some _ (hs₃.extBut b o hbe (hs₂.extBut b o hbe hb))
  have hzt₄ : ZT h₄ z TI TO i1 i2 S1 S2 st (i + 1) := zt1.keep fun b hb o y => up1 b o (fun q => hef (q ▸ hb)) y
  have hT₄ : IsTupOf2 h₄ hp.objs.size u1 u2 := up1 _ _ (Nat.ne_of_gt hel) hT1
  have hk₄ : ∀ b o, b ∉ [e, z, TI, TO, i1, i2] → hp.get? b = some o → h₄.get? b = some o := fun b o hb x => up1 b o (fun q => hb (by simp [q])) (k1 b o (fun q => hb (List.mem_cons_of_mem _ q)) x)
  show wpAny _ _ (Builtin.SmallTypes.ownedTupleIsFree (.ref e) >>= _) _ _ ⟨h₄, g, d, tk + 1, os⟩
  rw [hsz]
  clear hh₄ he₃ hs₃ he₂ hs₂ he₁ hsz h₃ h₂ up1 zt1 hT1 k1 hsz1
  refine wpAny_bind ?_
  · unfold Builtin.SmallTypes.ownedTupleIsFree
    refine wpAny_bind (wpAny_field he₄ rfl (x := .none) rfl (wpAny_pure ?_))
    simp only [if_true]
    refine wpAny_bind (wpAny_rule ?_)
    refine wpAny_bind (wpAny_field he₄ rfl (x := old) rfl ?_)
    refine wpAny_bind (wpAny_setField_rec he₄ (by simp) fun h₅ he₅ hs₅ => ?_)
    replace hs₅ : Heap.SameBut e h₄ h₅ := hs₅
    replace he₅ : IsEnum h₅ e z (c + 1) xv := he₅
    show wpAny _ _ (Builtin.SmallTypes.ownedTupleHandOut (.ref e) (.ref (hp.objs.size + 1)) >>= _) _ _ ⟨h₅, g, d, tk + 1, os⟩
    refine wpAny_bind ?_
    · unfold Builtin.SmallTypes.ownedTupleHandOut
      refine wpAny_bind (wpAny_setField_rec he₅ (by simp) fun h₆ he₆ hs₆ => ?_)
      replace hs₆ : Heap.SameBut e h₅ h₆ := hs₆
      replace he₆ : IsEnumOut h₆ e z (c + 1) xv (hp.objs.size + 1) := he₆
      refine wpAny_setField_rec he₆ (by simp) fun h₇ he₇ hs₇ => ?_
      replace hs₇ : Heap.SameBut e h₆ h₇ := hs₇
      replace he₇ : IsEnumOut h₇ e z (c + 1) xv (hp.objs.size + 1) := he₇
      have up : ∀ b o, b ≠ e → h₄.get? b = some o → h₇.get? b = some o := fun b o hbe y => hs₇.extBut b o hbe (hs₆.extBut b o hbe (hs₅.extBut b o hbe y))
      subst hx0
      refine wpAny_bind (wpAny_letGo (wpAny_pure ⟨_, rfl, hQ u1 u2 x y h₇ tk hx hy rx ry he₇ (hzt₄.keep fun b hb o y => up b o (fun q => hef (q ▸ hb)) y) (up _ _ (Nat.ne_of_gt hel) hT₄) (up _ _ (Nat.ne_of_gt (Nat.lt_succ_of_lt hel)) ht₄) ?_ ?_⟩))
      · show h₇.objs.size = hp.objs.size + 2
        rw [hs₇.1, hs₆.1, hs₅.1, hz₄]
      · exact fun b o hb x => up b o (fun q => hb (by simp [q])) (hk₄ b o hb x)
end
theorem turnEZ {P : Program} {w : World} {K : PySem.W.Frag} {elts : List Expr} {kk : Nat} {tpos : Pos} {S1 S2 : Src} {st : Bool} {k0 : Int} {e z TI TO i1 i2 : Addr} (ap : Ap z TI TO i1 i2 S1 S2) (hef : e ∉ [z, TI, TO, i1, i2]) :
    Turn P w K (.Tuple elts kk tpos) (ItEZ K S1 S2 st k0) [e, z, TI, TO, i1, i2] e (fun i h => (∃ old, IsEnum h e z (k0 + (i : Nat)) old) ∧ ZT h z TI TO i1 i2 S1 S2 st i) where
  mem := by simp
  obj := fun i h zt b hb => by
    obtain ⟨⟨old, he⟩, zt⟩ := zt
    rcases List.mem_cons.mp hb with q | q
    · rw [q]; exact ⟨_, he, fun v q => nomatch q⟩
    · exact zt.objs b q
  keep := fun i h h' zt k => let ⟨⟨old, he⟩, zt⟩ := zt; ⟨⟨old, k e (by simp) _ he⟩, zt.keep fun b hb => k b (List.mem_cons_of_mem _ hb)⟩
  item := by
    intro X hP hw hK hc i pins s σ H E I hf zt hg
    subst hP hw hK
    obtain ⟨⟨old, he⟩, zt⟩ := zt
    obtain ⟨⟨q1, q2⟩, l1, l2⟩ := hg
    have hT : s.TypeIs (.ref e) "enumerate" := ⟨_, he, rfl⟩
    have hel : e < s.heap.objs.size := Heap.lt_size he
    have lt : ∀ c ∈ [e, z, TI, TO, i1, i2], c < s.heap.objs.size := fun c hcm => by
      rcases List.mem_cons.mp hcm with q | q
      · rw [q]; exact hel
      · obtain ⟨o, x, _⟩ := zt.objs c q
        exact Heap.lt_size x
    unfold pyNext
    refine wpAny_bind (wpAny_attempt (wpAny_callSpecial?_slot (name := Str.ofString "__next__") hT F.slot_enumerate_next
      (wpAny_call_entry F.slot_enumerate_next hT F.entry_enumerate_next (enumZ_item (A := X.A.in1) I (I.ok.hd hc) ap he zt q1 q2 l1 l2 hef fun u1 u2 x y h' tk hx hy rx ry ho zt' hT1 hT2 hsz k => wpAny_pure ?_) (F.args_enumerate_next_1 _))))
    refine ⟨_, rfl, wpAny_letOwnedTupleGo_enum (s := { s with heap := h', toks := tk + 1 }) ho fun h'' he' sb => ?_⟩
    have up : ∀ b o, b ≠ e → h'.get? b = some o → h''.get? b = some o := fun b o hb x => sb.extBut b o hb x
    have hT1' : h''.get? s.heap.objs.size = some { cls := .type "tuple", data := .seq #[u1, u2] } := up _ _ (Nat.ne_of_gt hel) hT1
    have hT2' : h''.get? (s.heap.objs.size + 1) = some { cls := .type "tuple", data := .seq #[.int (k0 + (i : Nat)) tk, .ref s.heap.objs.size] } := up _ _ (Nat.ne_of_gt (Nat.lt_succ_of_lt hel)) hT2
    have new2 : ObjOk X.prog X.w (upd H (s.heap.objs.size + 1) (.tup [.int (k0 + (i : Nat)), .ref s.heap.objs.size])) h'' (s.heap.objs.size + 1) (.tup [.int (k0 + (i : Nat)), .ref s.heap.objs.size]) :=
      ⟨by show 2 ≤ sizeLine; decide, [.int (k0 + (i : Nat)) tk, .ref s.heap.objs.size], .cons ⟨_, rfl⟩ (.cons rfl .nil), ⟨_, hT2', rfl, _, rfl⟩⟩
    have I1 : Inv X pins σ (upd H (s.heap.objs.size + 1) (.tup [.int (k0 + (i : Nat)), .ref s.heap.objs.size])) { s with heap := h'', toks := tk + 1 } :=
      I.turnedNew (ch := [e, z, TI, TO, i1, i2]) (fun c o hb q => up c o (fun q' => hb (by simp [q'])) (k c o hb q)) hf (Nat.le_succ _) new2
    have n1 : H s.heap.objs.size = none := I.hok.fresh (Nat.le_refl _)
    have n2 : H (s.heap.objs.size + 1) = none := I.hok.fresh (Nat.le_succ _)
    have ne : s.heap.objs.size ≠ s.heap.objs.size + 1 := Nat.ne_of_lt (Nat.lt_succ_self _)
    have I2 : Inv X pins σ (upd (upd H (s.heap.objs.size + 1) (.tup [.int (k0 + (i : Nat)), .ref s.heap.objs.size])) s.heap.objs.size (.tup [x, y])) { s with heap := h'', toks := tk + 1 } := by
      refine track I1 (by rw [upd_ne ne]; exact n1) I.sz (Nat.ne_of_gt I.lt) (fun x c q => ?_) (fun p hp => ?_) ⟨by show 2 ≤ sizeLine; decide, [u1, u2], .cons rx (.cons ry .nil), ⟨_, hT1', rfl, _, rfl⟩⟩
      · obtain ⟨v, w'⟩ := I.cell x c q
        exact Nat.ne_of_lt w'.lt
      · exact Nat.ne_of_lt (Heap.lt_size (I.pin p hp).1)
    refine ⟨.ref (s.heap.objs.size + 1), _, I2, rfl, ⟨s.heap.objs.size, s.heap.objs.size + 1, x, y, rfl, ne, n1, n2, rfl, hx, hy⟩, ⟨⟨.ref s.heap.objs.size, ?_⟩, zt'.keep fun b hb o y => up b o (fun q => hef (q ▸ hb)) y⟩, fun c hcm => ?_⟩
    · have e1 : k0 + ((i + 1 : Nat) : Int) = k0 + (i : Nat) + 1 := by omega
      rw [e1]; exact he'
    · have hlt := lt c hcm
      rw [upd_ne (Nat.ne_of_lt hlt), upd_ne (Nat.ne_of_lt (Nat.lt_succ_of_lt hlt))]
      exact (hf c hcm).1
  done := by
    intro X hP hw hK hc i pins s σ H E I hf zt hg
    subst hP hw hK
    obtain ⟨⟨old, he⟩, zt⟩ := zt
    obtain ⟨⟨q1, q2⟩, hi, hst⟩ := hg
    have hT : s.TypeIs (.ref e) "enumerate" := ⟨_, he, rfl⟩
    have hTz : s.TypeIs (.ref z) "zip" := by
      obtain ⟨⟨f0, f1, hz, _⟩, _⟩ := zt
      exact ⟨_, hz, rfl⟩
    unfold pyNext
    refine wpAny_bind (wpAny_attempt (wpAny_callSpecial?_slot (name := Str.ofString "__next__") hT F.slot_enumerate_next
      (wpAny_call_entry F.slot_enumerate_next hT F.entry_enumerate_next ?_ (F.args_enumerate_next_1 _))))
    show wpAny _ _ (field (.ref e) 2 >>= _) _ _ _
    refine wpAny_bind (wpAny_field he rfl (x := .ref z) rfl ?_)
    refine wpAny_bind ?_
    unfold Builtin.SmallTypes.nextOf
    refine wpAny_bind (wpAny_callSpecial?_slot (name := Str.ofString "__next__") hTz F.slot_zip_next
      (wpAny_call_entry F.slot_zip_next hTz F.entry_zip_next (zt_end (A := X.A.in1.in1) I (I.ok.hd hc) ap zt q1 q2 hi hst fun h' tk x k hx => ?_) (F.args_zip_next_1 _)))
    obtain ⟨o, ho, hcl⟩ := hx
    refine wpAny_bind (wpAny_isInstance (T := "StopIteration") (b := true) ⟨o, ho, hcl⟩ isSubtype_stop ?_)
    exact wpAny_pure ⟨rfl, I.turnedL (t' := tk) (ch := [e, z, TI, TO, i1, i2]) (fun c o hc e => k c o (fun q => hc (List.mem_cons_of_mem _ q)) e) hf⟩
  self := fun A i s Q E st h => let ⟨⟨_, he⟩, _⟩ := st; wpAny_pyIter_enum he h
section
variable {X : Cx} {e : Expr} {p pos : Pos} {elts : List Expr} {kk : Nat} {tpos : Pos} {st : Bool} {t : (Src → Src → Hp → Prop) → L2.St → Hp → Prop}
def iEZ (K : PySem.W.Frag) (st : Bool) (k0 : Int) (t : (Src → Src → Hp → Prop) → L2.St → Hp → Prop) : TI := fun σ H R => t (fun S1 S2 H1 => R (ItEZ K S1 S2 st k0) H1) σ H
theorem fp6 {pins : List (Addr × Obj)} {σ : L2.St} {H : Hp} {s : Shared} {z TI TO i1 i2 : Addr} (I : Inv X pins σ H s) (fp : ∀ b ∈ [z, TI, TO, i1, i2], FpOk X pins H b) : ∀ b ∈ [s.heap.objs.size, z, TI, TO, i1, i2], FpOk X pins H b := fun b hb => by
  rcases List.mem_cons.mp hb with q | q
  · rw [q]; exact I.fpOk (Nat.le_refl _) (I.hok.fresh (Nat.le_refl _))
  · exact fp b q
theorem pi_enumZ (hg : Gl X "enumerate") (hm : X.mg "enumerate" = none) (hz : PZ X e st t) (hs : starEach [e] X.env = (false, eval e X.env) :: starEach [] X.env := by rfl) :
    PI X (.Tuple elts kk tpos) (.Call (.Name "enumerate" p) [e] [] pos) (iEZ X.K st 0 t) := by
  refine ⟨fun pins s σ H R I h => ?_⟩
  refine Call_ (ld_blt I hg hm boot_enumerate (PyProof.Rows.callWith_type1 (args_cons (thn (hz.run pins s σ H _ I h) fun v s1 ⟨z, TI, TO, i1, i2, S1, S2, H1, ev, I1, ap, zt, fp, q1, q2, q⟩ => args_nil ?_) hs) hs rfl))
  subst ev
  refine enumG1 .zip zt.1 fun h' he hsz hk => wpAny_pyIter_enum he ?_
  refine ⟨s1.heap.objs.size, [s1.heap.objs.size, z, TI, TO, i1, i2], _, _, H1, rfl, I1.kept (t' := s1.toks) hk, turnEZ (k0 := 0) ap (fun q => ?_), ⟨⟨.none, he⟩, zt.keep fun b _ o e => hk b o e⟩, fp6 I1 fp, q⟩
  obtain ⟨o, x, _⟩ := zt.objs _ q
  exact Nat.lt_irrefl _ (Heap.lt_size x)
theorem pi_enumZ1 {k : Nat} {cp : Pos} {k0 : Int} (hg : Gl X "enumerate") (hm : X.mg "enumerate" = none) (hz : PZ X e st t) (hk0 : -(2 ^ 63) ≤ k0 := by decide) (hk1 : k0 < 2 ^ 63 := by decide) (hs : starEach [e, .Constant (.int k0) k cp] X.env = (false, eval e X.env) :: starEach [.Constant (.int k0) k cp] X.env := by rfl)
    (hs2 : starEach [.Constant (.int k0) k cp] X.env = (false, eval (.Constant (.int k0) k cp) X.env) :: starEach [] X.env := by rfl) :
    PI X (.Tuple elts kk tpos) (.Call (.Name "enumerate" p) [e, .Constant (.int k0) k cp] [] pos) (iEZ X.K st k0 t) := by
  refine ⟨fun pins s σ H R I h => ?_⟩
  refine Call_ (ld_blt I hg hm boot_enumerate (PyProof.Rows.callWith_type1 (args_cons (thn (hz.run pins s σ H _ I h) fun v s1 ⟨z, TI, TO, i1, i2, S1, S2, H1, ev, I1, ap, zt, fp, q1, q2, q⟩ => args_cons (wpAny_Constant_int (args_nil ?_)) hs2) hs) hs (by rw [hs2]; rfl)))
  subst ev
  refine enumG2 (s := { s1 with toks := s1.toks + 1 }) .zip zt.1 hk0 hk1 fun h' he hsz hk => wpAny_pyIter_enum he ?_
  have e0 : k0 + ((0 : Nat) : Int) = k0 := by omega
  refine ⟨s1.heap.objs.size, [s1.heap.objs.size, z, TI, TO, i1, i2], _, _, H1, rfl, I1.kept (t' := s1.toks + 1) hk, turnEZ (k0 := k0) ap (fun q => ?_), ⟨⟨.none, by rw [e0]; exact he⟩, zt.keep fun b _ o e => hk b o e⟩, fp6 I1 fp, q⟩
  obtain ⟨o, x, _⟩ := zt.objs _ q
  exact Nat.lt_irrefl _ (Heap.lt_size x)
end
end TPI
end
section
set_option maxHeartbeats 4000000
/-! readings by value: a state's slots hold data (frozen) or own lists; the core. -/
namespace TPE
open PySem PySem.Spec PyProof.Rows L2

/-! ### data in the heap -/
section
variable {K : PySem.W.Frag} {H H' : Hp}
theorem sqT_same {a : Addr} {xs : List V} (e : Same H H') (h : SqT K H a xs) : SqT K H' a xs := by
  rcases h with h | h
  · rcases h with h | ⟨o, h⟩
    · exact .inl (.inl (e _ _ h))
    · exact .inl (.inr ⟨o, e _ _ h⟩)
  · exact .inr h
mutual
theorem dp_same (e : Same H H') : ∀ (d : PyData) (v : V), Dp K H v d → Dp K H' v d
  | .none, _, h => by cases h; exact .non
  | .bool b, _, h => by cases h; exact .bl b
  | .int i, _, h => by cases h; exact .int i
  | .str x, _, h => by cases h; exact .str x
  | .list ds, _, h => by
    cases h with
    | lst hs ha => exact .lst (Same.seq e hs) (dpAll_same e ds _ ha)
  | .tuple ds, _, h => by
    cases h with
    | tup hs ha => exact .tup (sqT_same e hs) (dpAll_same e ds _ ha)
  | .dict _, _, h => by cases h
theorem dpAll_same (e : Same H H') : ∀ (ds : List PyData) (vs : List V), DpAll K H vs ds → DpAll K H' vs ds
  | [], _, h => by cases h; exact .nil
  | d :: ds, _, h => by
    cases h with
    | cons h1 h2 => exact .cons (dp_same e d _ h1) (dpAll_same e ds _ h2)
end
end
end TPE
namespace L2
open PySem PySem.Spec PyProof.Rows
section
variable {K : PySem.W.Frag} {H H' : Hp}
theorem DpAll.length : ∀ {vs : List V} {ds : List PyData}, DpAll K H vs ds → vs.length = ds.length
  | _, _, .nil => rfl
  | _, _, .cons _ t => by simp [DpAll.length t]
theorem DpAll.get : ∀ {vs : List V} {ds : List PyData} {i : Nat} {d : PyData}, DpAll K H vs ds → ds[i]? = some d → ∃ v, vs[i]? = some v ∧ Dp K H v d
  | _, _, i, d, .nil, e => by simp at e
  | _, _, 0, d, .cons h _, e => by simp at e; subst e; exact ⟨_, by simp, h⟩
  | _, _, i + 1, d, .cons _ t, e => by
    obtain ⟨v, h1, h2⟩ := DpAll.get (i := i) t (by simpa using e)
    exact ⟨v, by simpa using h1, h2⟩
theorem DpAll.getV : ∀ {vs : List V} {ds : List PyData} {i : Nat} {v : V}, DpAll K H vs ds → vs[i]? = some v → ∃ d, ds[i]? = some d ∧ Dp K H v d
  | _, _, i, d, .nil, e => by simp at e
  | _, _, 0, d, .cons h _, e => by simp at e; subst e; exact ⟨_, by simp, h⟩
  | _, _, i + 1, d, .cons _ t, e => by
    obtain ⟨v, h1, h2⟩ := DpAll.getV (i := i) t (by simpa using e)
    exact ⟨v, by simpa using h1, h2⟩
theorem DpAll.append : ∀ {vs ws : List V} {ds es : List PyData}, DpAll K H vs ds → DpAll K H ws es → DpAll K H (vs ++ ws) (ds ++ es)
  | _, _, _, _, .nil, h => h
  | _, _, _, _, .cons h t, h' => .cons h (DpAll.append t h')
theorem DpAll.take : ∀ {vs : List V} {ds : List PyData} (n : Nat), DpAll K H vs ds → DpAll K H (vs.take n) (ds.take n)
  | _, _, 0, _ => by simp; exact .nil
  | _, _, n + 1, .nil => by simp; exact .nil
  | _, _, n + 1, .cons h t => by simp only [List.take_succ_cons]; exact .cons h (DpAll.take n t)
theorem DpAll.drop : ∀ {vs : List V} {ds : List PyData} (n : Nat), DpAll K H vs ds → DpAll K H (vs.drop n) (ds.drop n)
  | _, _, 0, h => h
  | _, _, n + 1, .nil => by simp; exact .nil
  | _, _, n + 1, .cons h t => by simp only [List.drop_succ_cons]; exact DpAll.drop n t
theorem DpAll.reverse : ∀ {vs : List V} {ds : List PyData}, DpAll K H vs ds → DpAll K H vs.reverse ds.reverse
  | _, _, .nil => .nil
  | _, _, .cons h t => by simp only [List.reverse_cons]; exact DpAll.append (DpAll.reverse t) (.cons h .nil)
theorem DpAll.set : ∀ {vs : List V} {ds : List PyData} {v : V} {d : PyData} (i : Nat), DpAll K H vs ds → Dp K H v d → DpAll K H (vs.set i v) (ds.set i d)
  | _, _, _, _, _, .nil, _ => .nil
  | _, _, _, _, 0, .cons _ t, h => .cons h t
  | _, _, _, _, i + 1, .cons h' t, h => .cons h' (DpAll.set i t h)
theorem DpAll.eraseIdx : ∀ {vs : List V} {ds : List PyData} (i : Nat), DpAll K H vs ds → DpAll K H (vs.eraseIdx i) (ds.eraseIdx i)
  | _, _, _, .nil => .nil
  | _, _, 0, .cons _ t => t
  | _, _, i + 1, .cons h' t => .cons h' (DpAll.eraseIdx i t)
theorem DpAll.rep {vs : List V} {ds : List PyData} (h : DpAll K H vs ds) : ∀ k : Nat, DpAll K H (List.replicate k vs).flatten (List.replicate k ds).flatten
  | 0 => .nil
  | k + 1 => by simp only [List.replicate_succ, List.flatten_cons]; exact DpAll.append h (DpAll.rep h k)
end
end L2
namespace TPE
open PySem PySem.Spec PyProof.Rows L2
section
variable {K : PySem.W.Frag} {H H' : Hp}
theorem dpAll_ints : ∀ {ns : List Int} {vs : List V}, DpAll K H vs (ns.map PyData.int) → vs = ns.map V.int
  | [], _, h => by cases h; rfl
  | n :: ns, _, h => by cases h with | cons h1 h2 => cases h1; simp [dpAll_ints h2]
theorem dpAll_bools : ∀ {ns : List Bool} {vs : List V}, DpAll K H vs (ns.map PyData.bool) → vs = ns.map V.bl
  | [], _, h => by cases h; rfl
  | n :: ns, _, h => by cases h with | cons h1 h2 => cases h1; simp [dpAll_bools h2]
theorem dpAll_strs : ∀ {ns : List Str} {vs : List V}, DpAll K H vs (ns.map PyData.str) → vs = ns.map V.str
  | [], _, h => by cases h; rfl
  | n :: ns, _, h => by cases h with | cons h1 h2 => cases h1; simp [dpAll_strs h2]
theorem ints_dpAll : ∀ {ns : List Int}, DpAll K H (ns.map V.int) (ns.map PyData.int)
  | [] => .nil
  | n :: _ => .cons (.int n) ints_dpAll
theorem strs_dpAll : ∀ {ns : List Str}, DpAll K H (ns.map V.str) (ns.map PyData.str)
  | [] => .nil
  | n :: _ => .cons (.str n) strs_dpAll
end

/-- a stable property of a value -/
structure Pd where
  hold : Hp → V → Prop
  mono : ∀ {H H' : Hp} {v : V}, Same H H' → hold H v → hold H' v
def dP (K : PySem.W.Frag) (d : PyData) : Pd := ⟨fun H v => Dp K H v d, fun e h => dp_same e d _ h⟩
def cP (v : V) : Pd := ⟨fun _ x => x = v, fun _ h => h⟩
def exP {α : Type} (p : α → Pd) : Pd := ⟨fun H v => ∃ x, (p x).hold H v, fun e ⟨x, h⟩ => ⟨x, (p x).mono e h⟩⟩
/-- the heap without O -/
noncomputable def wo (H : Hp) (O : Addr → Prop) : Hp := fun a => open Classical in if O a then none else H a
theorem wo_out {H : Hp} {O : Addr → Prop} {a : Addr} (h : ¬ O a) : wo H O a = H a := by unfold wo; rw [if_neg h]
theorem wo_in {H : Hp} {O : Addr → Prop} {a : Addr} (h : O a) : wo H O a = none := by unfold wo; rw [if_pos h]
theorem wo_some {H : Hp} {O : Addr → Prop} {a : Addr} {o : HO} (h : wo H O a = some o) : ¬ O a ∧ H a = some o := by
  by_cases q : O a
  · rw [wo_in q] at h; cases h
  · rw [wo_out q] at h; exact ⟨q, h⟩
theorem wo_same {H H1 : Hp} {O O1 : Addr → Prop} (h : ∀ a o, ¬ O a → H a = some o → ¬ O1 a ∧ H1 a = some o) : Same (wo H O) (wo H1 O1) := fun a o e => by
  obtain ⟨h1, h2⟩ := wo_some e
  obtain ⟨h3, h4⟩ := h a o h1 h2
  rw [wo_out h3]; exact h4
theorem wo_sub {H : Hp} {O : Addr → Prop} : Same (wo H O) H := fun a o e => (wo_some e).2

/-- an owned structure: fp its addresses -/
structure OP where
  hold : List Addr → Hp → Hp → V → Prop
  mono : ∀ {fp : List Addr} {F F' H H' : Hp} {v : V}, Same F F' → (∀ a ∈ fp, ∀ o, H a = some o → H' a = some o) → hold fp F H v → hold fp F' H' v
def ownL (K : PySem.W.Frag) (ds : List PyData) : OP where
  hold fp F H v := ∃ (l : Addr) (vs : List V), fp = [l] ∧ v = .ref l ∧ H l = some (.lst vs) ∧ DpAll K F vs ds
  mono := by
    rintro fp F F' H H' v e k ⟨l, vs, rfl, rfl, h1, h2⟩
    exact ⟨l, vs, rfl, rfl, k l (by simp) _ h1, dpAll_same e _ _ h2⟩
def ownX {α : Type} (p : α → OP) : OP := ⟨fun fp F H v => ∃ x, (p x).hold fp F H v, fun e k ⟨x, h⟩ => ⟨x, (p x).mono e k h⟩⟩
inductive Slt where
  | un
  | val (d : Pd)
  | own (S : OP)
/-- the table of code objects that one def's lambda writes -/
class Tb where
  P : Addr
/-- the lambda's name -/
def tq : Str := ("safe_picks" : Str) ++ ".<locals>." ++ "<lambda>"
def TabOk [Tb] (H : Hp) : Prop := LamX.TabS H Tb.P tq
/-- the addresses that change: the source, the table -/
def Mu [Tb] (M : Option Addr) (a : Addr) : Prop := M = some a ∨ a = Tb.P
theorem TabOk.same [Tb] {H H' : Hp} (e : Same H H') (h : TabOk H) : TabOk H' := LamX.TabS.ext h e
structure SrcOk [Tb] (M : Option Addr) (H : Hp) (s : Addr) : Prop where
  src : M = some s → ∃ x c n : Int, H s = some (.lst [.int x, .int c, .int n])
  tab : s = Tb.P → TabOk H
theorem SrcOk.ob [Tb] {M : Option Addr} {H : Hp} {s : Addr} (h : SrcOk M H s) (m : Mu M s) : ∃ o, H s = some o := by
  rcases m with e | e
  · obtain ⟨x, c, n, q⟩ := h.src e; exact ⟨_, q⟩
  · obtain ⟨ps, q, _⟩ := h.tab e; subst e; exact ⟨_, q⟩
theorem SrcOk.same [Tb] {M : Option Addr} {H H' : Hp} {s : Addr} (e : Same H H') (h : SrcOk M H s) : SrcOk M H' s := ⟨fun m => let ⟨x, c, n, q⟩ := h.src m; ⟨x, c, n, e _ _ q⟩, fun m => (h.tab m).same e⟩
/-- what is no table and no code object is written: the table stays -/
theorem TabOk.upd [Tb] {H : Hp} {a : Addr} {u o : HO} (h : TabOk H) (ha : H a = some u) (n1 : ∀ ps, u ≠ .tbl ps) (n2 : ∀ φ, u ≠ .ext φ) : TabOk (L2.upd H a o) := by
  obtain ⟨ps, h1, h2, h3⟩ := h
  refine ⟨ps, by rw [upd_ne fun e => by rw [e, ha] at h1; exact n1 ps (Option.some.inj h1)]; exact h1, h2, fun p cv hc => ?_⟩
  obtain ⟨c, e1, e2⟩ := h3 p cv hc
  refine ⟨c, e1, ?_⟩
  rw [upd_ne]
  · exact e2
  · intro e
    rw [e, ha] at e2
    exact n2 _ (Option.some.inj e2)
theorem SrcOk.upd [Tb] {M : Option Addr} {H : Hp} {s a : Addr} {u o : HO} (h : SrcOk M H s) (ne : s ≠ a) (ha : H a = some u) (n1 : ∀ ps, u ≠ .tbl ps) (n2 : ∀ φ, u ≠ .ext φ) : SrcOk M (L2.upd H a o) s :=
  ⟨fun m => let ⟨x, c, n, q⟩ := h.src m; ⟨x, c, n, by rw [upd_ne ne]; exact q⟩, fun m => (h.tab m).upd ha n1 n2⟩
/-- neither a table nor a code object -/
def Pln (H : Hp) (l : Addr) : Prop := ∃ u, H l = some u ∧ (∀ ps, u ≠ .tbl ps) ∧ ∀ φ, u ≠ .ext φ
theorem Pln.lst {H : Hp} {l : Addr} {xs : List V} (h : H l = some (.lst xs)) : Pln H l := ⟨_, h, fun _ => (nomatch ·), fun _ => (nomatch ·)⟩
theorem Pln.dK {H : Hp} {l : Addr} {xs : List (Key × V)} (h : H l = some (.dK xs)) : Pln H l := ⟨_, h, fun _ => (nomatch ·), fun _ => (nomatch ·)⟩
theorem SrcOk.updP [Tb] {M : Option Addr} {H : Hp} {s a : Addr} {o : HO} (h : SrcOk M H s) (ne : s ≠ a) (ha : Pln H a) : SrcOk M (L2.upd H a o) s := let ⟨_, h1, h2, h3⟩ := ha; h.upd ne h1 h2 h3
/-- a new object -/
theorem SrcOk.new [Tb] {M : Option Addr} {H : Hp} {s a : Addr} {o : HO} (h : SrcOk M H s) (ha : H a = none) : SrcOk M (L2.upd H a o) s := h.same fun b u e => by rw [upd_ne (ne_of_none e ha)]; exact e
/-- the source is not the table -/
theorem SrcOk.ne [Tb] {M : Option Addr} {H : Hp} (h : ∀ s, Mu M s → SrcOk M H s) : M ≠ Option.some Tb.P := fun e => by
  obtain ⟨x, c, n, q⟩ := (h _ (.inl e)).src e
  obtain ⟨ps, q2, _⟩ := (h _ (.inr rfl)).tab rfl
  rw [q] at q2; cases q2
theorem SrcOk.non [Tb] {M : Option Addr} {H : Hp} {s : Addr} (h : SrcOk M H s) : SrcOk none H s := ⟨fun z => (nomatch z), h.tab⟩
theorem Mu.up [Tb] {M : Option Addr} {a : Addr} (h : Mu none a) : Mu M a := h.elim (fun z => nomatch z) .inr
def Rl [Tb] (M : Option Addr) (H H' : Hp) : Prop := (∀ a o, ¬ Mu M a → H a = some o → H' a = some o) ∧ ∀ s, Mu M s → SrcOk M H s → SrcOk M H' s
theorem Rl.refl [Tb] {M : Option Addr} {H : Hp} : Rl M H H := ⟨fun _ _ _ h => h, fun _ _ h => h⟩
theorem Rl.trans [Tb] {M : Option Addr} {H H1 H2 : Hp} (a : Rl M H H1) (b : Rl M H1 H2) : Rl M H H2 := ⟨fun c o hc h => b.1 c o hc (a.1 c o hc h), fun s hs h => b.2 s hs (a.2 s hs h)⟩
theorem Rl.of [Tb] {M : Option Addr} {H H' : Hp} (h : Same H H') : Rl M H H' := ⟨fun a o _ e => h a o e, fun s _ q => q.same h⟩
theorem Rl.live [Tb] {M : Option Addr} {H H' : Hp} (r : Rl M H H') (hs : ∀ s, Mu M s → SrcOk M H s) {a : Addr} (h : H a ≠ none) : H' a ≠ none := by
  by_cases e : Mu M a
  · obtain ⟨o, q⟩ := (r.2 a e (hs a e)).ob e
    rw [q]; exact fun z => nomatch z
  · cases q : H a with
    | none => exact absurd q h
    | some o => rw [r.1 a o e q]; exact fun z => nomatch z
/-- what leaves the source alone -/
theorem Rl.up [Tb] {M : Option Addr} {H H' : Hp} (hs : ∀ s, Mu M s → SrcOk M H s) (r : Rl none H H') : Rl M H H' := by
  have hn := SrcOk.ne hs
  refine ⟨fun a o h q => r.1 a o (fun m => h (m.elim (fun z => nomatch z) .inr)) q, fun s m h => ⟨fun e => ?_, fun e => ?_⟩⟩
  · obtain ⟨x, c, n, q⟩ := h.src e
    exact ⟨x, c, n, r.1 s _ (fun m => m.elim (fun z => nomatch z) fun z => hn (z ▸ e)) q⟩
  · exact (r.2 s (.inr e) ⟨fun z => (nomatch z), fun _ => h.tab e⟩).tab e
structure Sta [Tb] (M : Option Addr) (B : Hp) (O0 O : Addr → Prop) (Γ : List Slt) (σ : L2.St) (H : Hp) : Prop where
  len : σ.length = Γ.length
  base : ∀ a o, ¬ Mu M a → B a = some o → H a = some o
  src : ∀ s, Mu M s → SrcOk M H s ∧ O0 s
  sub : ∀ a, O0 a → O a
  live : ∀ a, O a → H a ≠ none
  outs : ∀ a, O a → O0 a ∨ B a = none
  val : ∀ (i : Nat) (d : Pd), Γ[i]? = some (Slt.val d) → ∃ v, σ[i]? = some (some v) ∧ d.hold (wo H O) v
  own : ∃ fp : Nat → List Addr, (∀ (i : Nat) (S : OP), Γ[i]? = some (Slt.own S) → (∃ v, σ[i]? = some (some v) ∧ S.hold (fp i) (wo H O) H v) ∧ ∀ a ∈ fp i, O a ∧ ¬ O0 a) ∧
    ∀ (i j : Nat) (S S' : OP), i ≠ j → Γ[i]? = some (Slt.own S) → Γ[j]? = some (Slt.own S') → ∀ a ∈ fp i, a ∉ fp j
structure Stp [Tb] (M : Option Addr) (O : Addr → Prop) (H : Hp) (O1 : Addr → Prop) (H1 : Hp) : Prop where
  rl : Rl M H H1
  src : ∀ s, Mu M s → O s ∧ SrcOk M H s
  up : ∀ a, O a → O1 a
  new : ∀ a, O1 a → O a ∨ H a = none
  live : ∀ a, O1 a → H1 a ≠ none
section
variable {M : Option Addr} {B H H1 H2 : Hp} {O0 O O1 O2 : Addr → Prop} {Γ : List Slt} {σ : L2.St}
theorem Sta.srcO [Tb] (E : Sta M B O0 O Γ σ H) : ∀ s, Mu M s → O s ∧ SrcOk M H s := fun s e => ⟨E.sub s (E.src s e).2, (E.src s e).1⟩
theorem Sta.refl [Tb] (E : Sta M B O0 O Γ σ H) : Stp M O H O H := ⟨.refl, E.srcO, fun _ h => h, fun _ h => .inl h, E.live⟩
theorem Stp.same [Tb] (s : Stp M O H O1 H1) : Same (wo H O) (wo H1 O1) := wo_same fun a o h1 h2 => by
  have hM : ¬ Mu M a := fun e => h1 (s.src a e).1
  refine ⟨fun q => ?_, s.rl.1 a o hM h2⟩
  rcases s.new a q with z | z
  · exact h1 z
  · rw [h2] at z; cases z
theorem Stp.trans [Tb] (s : Stp M O H O1 H1) (t : Stp M O1 H1 O2 H2) : Stp M O H O2 H2 := by
  refine ⟨s.rl.trans t.rl, s.src, fun a h => t.up a (s.up a h), fun a h => ?_, t.live⟩
  rcases t.new a h with z | z
  · exact s.new a z
  · cases q : H a with
    | none => exact .inr rfl
    | some o =>
      by_cases e : Mu M a
      · exact .inl (s.src a e).1
      · rw [s.rl.1 a o e q] at z; cases z
theorem Sta.step [Tb] (E : Sta M B O0 O Γ σ H) (s : Stp M O H O1 H1) : Sta M B O0 O1 Γ σ H1 := by
  refine ⟨E.len, fun a o h q => s.rl.1 a o h (E.base a o h q), fun x e => ⟨s.rl.2 x e (E.src x e).1, (E.src x e).2⟩, fun a h => s.up a (E.sub a h), s.live, fun a h => ?_, fun i d q => ?_, ?_⟩
  · rcases s.new a h with z | z
    · exact E.outs a z
    · cases q : B a with
      | none => exact .inr rfl
      | some o =>
        by_cases e : Mu M a
        · exact .inl (E.src a e).2
        · rw [E.base a o e q] at z; cases z
  · obtain ⟨v, h1, h2⟩ := E.val i d q
    exact ⟨v, h1, d.mono s.same h2⟩
  · obtain ⟨fp, h1, h2⟩ := E.own
    refine ⟨fp, fun i S q => ?_, h2⟩
    obtain ⟨⟨v, h3, h4⟩, h5⟩ := h1 i S q
    refine ⟨⟨v, h3, S.mono s.same (fun a ha o ho => ?_) h4⟩, fun a ha => ⟨s.up a (h5 a ha).1, (h5 a ha).2⟩⟩
    exact s.rl.1 a o (fun e => (h5 a ha).2 (E.src a e).2) ho
theorem Stp.of_rl [Tb] (E : Sta M B O0 O Γ σ H) (r : Rl M H H1) : Stp M O H O H1 := ⟨r, E.srcO, fun _ h => h, fun _ h => .inl h, fun a h => r.live (fun s e => (E.src s e).1) (E.live a h)⟩
/-- a new object, frozen -/
theorem Sta.laid [Tb] (E : Sta M B O0 O Γ σ H) {p : Addr} {o : HO} (hp : H p = none) : Stp M O H O (upd H p o) ∧ ¬ O p := by
  refine ⟨.of_rl E (.of fun a u h => by rw [upd_ne (ne_of_none h hp)]; exact h), fun h => E.live p h hp⟩
/-- a new object, owned -/
theorem Sta.laidO [Tb] (E : Sta M B O0 O Γ σ H) {p : Addr} {o : HO} (hp : H p = none) : Stp M O H (fun a => O a ∨ a = p) (upd H p o) := by
  have s := (E.laid (o := o) hp).1
  refine ⟨s.rl, s.src, fun a h => .inl h, fun a h => ?_, fun a h => ?_⟩
  · rcases h with h | rfl
    · exact .inl h
    · exact .inr hp
  · rcases h with h | rfl
    · exact s.live a h
    · rw [upd_same]; exact fun z => nomatch z
end
def CH (c : Slt) (O O1 : Addr → Prop) (H1 : Hp) (v : V) : Prop := match c with
  | .un => True
  | .val d => d.hold (wo H1 O1) v
  | .own S => ∃ fp, S.hold fp (wo H1 O1) H1 v ∧ ∀ a ∈ fp, O1 a ∧ ¬ O a
/-- the expression gives a c -/
def EvC [Tb] (M : Option Addr) (t : TE) (Γ : List Slt) (c : Slt) : Prop :=
  ∀ B O0 O σ H, Sta M B O0 O Γ σ H → ∀ Q : VK, (∀ v O1 H1, Stp M O H O1 H1 → CH c O O1 H1 v → Q v H1) → t σ H Q
def Ev [Tb] (M : Option Addr) (t : TE) (Γ : List Slt) (d : Pd) : Prop :=
  ∀ B O0 O σ H, Sta M B O0 O Γ σ H → ∀ Q : VK, (∀ v O1 H1, Stp M O H O1 H1 → d.hold (wo H1 O1) v → Q v H1) → t σ H Q
/-- data -/
abbrev EvD [Tb] (K : PySem.W.Frag) (M : Option Addr) (t : TE) (Γ : List Slt) (d : PyData) : Prop := Ev M t Γ (dP K d)
theorem EvC.of [Tb] {M : Option Addr} {t : TE} {Γ : List Slt} {d : Pd} (h : Ev M t Γ d) : EvC M t Γ (.val d) := h
def Hs (F : Hp) (ds : List Pd) (vs : List V) : Prop := Paired (fun (d : Pd) v => d.hold F v) ds vs
theorem Hs.same {F F' : Hp} (e : Same F F') {ds : List Pd} {vs : List V} (h : Hs F ds vs) : Hs F' ds vs := Paired.mapP h fun d v q => d.mono e q
def EvA [Tb] (M : Option Addr) (t : TA) (Γ : List Slt) (ds : List Pd) : Prop :=
  ∀ B O0 O σ H, Sta M B O0 O Γ σ H → ∀ Q : List V → Hp → Prop, (∀ vs O1 H1, Stp M O H O1 H1 → Hs (wo H1 O1) ds vs → Q vs H1) → t σ H Q
/-- a test: its possible answers -/
def EvT [Tb] (M : Option Addr) (t : TT) (Γ : List Slt) (p : Bool → Prop) : Prop :=
  ∀ B O0 O σ H, Sta M B O0 O Γ σ H → ∀ Q : Bool → Hp → Prop, (∀ b O1 H1, Stp M O H O1 H1 → p b → Q b H1) → t σ H Q
inductive Sk where
  | l | t | any
def SqK (K : PySem.W.Frag) (sk : Sk) (H : Hp) (a : Addr) (vs : List V) : Prop := match sk with
  | .l => SqL K H a vs
  | .t => SqT K H a vs
  | .any => SqL K H a vs ∨ SqT K H a vs
theorem SqK.any {K : PySem.W.Frag} {sk : Sk} {H : Hp} {a : Addr} {vs : List V} (h : SqK K sk H a vs) : SqL K H a vs ∨ SqT K H a vs := by
  cases sk
  · exact .inl h
  · exact .inr h
  · exact h
theorem SqK.same {K : PySem.W.Frag} {sk : Sk} {H H' : Hp} {a : Addr} {vs : List V} (e : Same H H') (h : SqK K sk H a vs) : SqK K sk H' a vs := by
  cases sk
  · exact Same.seq e h
  · exact sqT_same e h
  · exact h.imp (Same.seq e) (sqT_same e)
/-- data: a list or a tuple -/
def sqP (K : PySem.W.Frag) (sk : Sk) (ds : List PyData) : Pd := ⟨fun H v => ∃ a vs, v = .ref a ∧ SqK K sk H a vs ∧ DpAll K H vs ds, fun e ⟨a, vs, h1, h2, h3⟩ => ⟨a, vs, h1, h2.same e, dpAll_same e _ _ h3⟩⟩
/-- a sequence to be read now -/
def EvQ [Tb] (K : PySem.W.Frag) (M : Option Addr) (sk : Sk) (t : TE) (Γ : List Slt) (ds : List PyData) : Prop :=
  ∀ B O0 O σ H, Sta M B O0 O Γ σ H → ∀ Q : VK, (∀ a vs O1 H1, Stp M O H O1 H1 → SqK K sk H1 a vs → DpAll K (wo H1 O1) vs ds → Q (.ref a) H1) → t σ H Q

/-! ### statements -/
structure Po where
  nx : List Slt → Prop
  rt : Pd → Prop
  bk : List Slt → Prop := fun _ => False
  ct : List Slt → Prop := fun _ => False
structure PoOk [Tb] (M : Option Addr) (B : Hp) (O0 : Addr → Prop) (P : Po) (D : Ends) : Prop where
  nx : ∀ Γ σ H O, P.nx Γ → Sta M B O0 O Γ σ H → D.nx σ H
  rt : ∀ d v H, P.rt d → (∀ a o, ¬ Mu M a → B a = some o → H a = some o) → (∀ s, Mu M s → SrcOk M H s) → d.hold (wo H O0) v → D.rt v H
  bk : ∀ Γ σ H O, P.bk Γ → Sta M B O0 O Γ σ H → D.bk σ H
  ct : ∀ Γ σ H O, P.ct Γ → Sta M B O0 O Γ σ H → D.ct σ H
def Ds [Tb] (M : Option Addr) (t : TS) (Γ : List Slt) (P : Po) : Prop :=
  ∀ B O0 O σ H, Sta M B O0 O Γ σ H → ∀ D : Ends, PoOk M B O0 P D → t D σ H
/-- the promise of a def: g gives, by the arguments, what it answers -/
def SpF [Tb] (g : Option Addr → List Pd → Pd → Prop) : Sp := fun vs H Q _ => ∃ (M : Option Addr) (O : Addr → Prop) (ds : List Pd) (d : Pd), g M ds d ∧ Hs (wo H O) ds vs ∧ (∀ a, O a → H a ≠ none) ∧ (∀ s, Mu M s → SrcOk M H s ∧ O s) ∧
  ∀ v H', Rl M H H' → d.hold (wo H' O) v → Q v H'
section
variable {M : Option Addr} {K : PySem.W.Frag} {B H H1 H2 : Hp} {O0 O O1 O2 : Addr → Prop} {Γ Γ' : List Slt} {σ : L2.St} {P : Po} {D : Ends}
/-- the state behind a store -/
theorem Sta.set [Tb] (E : Sta M B O0 O Γ σ H) {c : Slt} {v : V} {i : Nat} (s : Stp M O H O1 H1) (h : CH c O O1 H1 v) : Sta M B O0 O1 (Γ.set i c) (σ.set i (some v)) H1 := by
  have E1 := E.step s
  by_cases hi : i < Γ.length
  rotate_left
  · rw [List.set_eq_of_length_le (by omega), List.set_eq_of_length_le (by rw [E.len]; omega)]
    exact E1
  have hσ : i < σ.length := by rw [E.len]; exact hi
  refine ⟨by simp [E1.len], E1.base, E1.src, E1.sub, E1.live, E1.outs, fun j d q => ?_, ?_⟩
  · by_cases e : i = j
    · subst e
      rw [List.getElem?_set_self hi] at q
      cases q
      exact ⟨v, List.getElem?_set_self hσ, h⟩
    · rw [List.getElem?_set_ne e] at q
      rw [List.getElem?_set_ne e]
      exact E1.val j d q
  · obtain ⟨fp, h1, h2⟩ := E.own
    obtain ⟨fpv, hv⟩ : ∃ fpv : List Addr, ∀ S, c = .own S → S.hold fpv (wo H1 O1) H1 v ∧ ∀ a ∈ fpv, O1 a ∧ ¬ O a := by
      cases c with
      | own S => obtain ⟨fp', q1, q2⟩ := h; exact ⟨fp', fun S' e => by cases e; exact ⟨q1, q2⟩⟩
      | un => exact ⟨[], fun S' e => nomatch e⟩
      | val d => exact ⟨[], fun S' e => nomatch e⟩
    refine ⟨fun j => if j = i then fpv else fp j, fun j S q => ?_, fun j k S S' hjk q q' => ?_⟩
    · dsimp only
      by_cases e : i = j
      · subst e
        rw [List.getElem?_set_self hi] at q
        cases q
        rw [if_pos rfl]
        obtain ⟨q1, q2⟩ := hv S rfl
        exact ⟨⟨v, List.getElem?_set_self hσ, q1⟩, fun a ha => ⟨(q2 a ha).1, fun z => (q2 a ha).2 (E.sub a z)⟩⟩
      · rw [List.getElem?_set_ne e] at q
        rw [if_neg (Ne.symm e), List.getElem?_set_ne e]
        obtain ⟨⟨w, h3, h4⟩, h5⟩ := h1 j S q
        refine ⟨⟨w, h3, S.mono s.same (fun a ha o ho => ?_) h4⟩, fun a ha => ⟨s.up a (h5 a ha).1, (h5 a ha).2⟩⟩
        exact s.rl.1 a o (fun e => (h5 a ha).2 (E.src a e).2) ho
    · dsimp only
      by_cases ej : i = j
      · subst ej
        rw [List.getElem?_set_self hi] at q
        cases q
        rw [List.getElem?_set_ne hjk] at q'
        rw [if_pos rfl, if_neg (Ne.symm hjk)]
        intro a ha ha'
        exact ((hv S rfl).2 a ha).2 ((h1 k S' q').2 a ha').1
      · rw [List.getElem?_set_ne ej] at q
        rw [if_neg (Ne.symm ej)]
        by_cases ek : i = k
        · subst ek
          rw [List.getElem?_set_self hi] at q'
          cases q'
          rw [if_pos rfl]
          intro a ha ha'
          exact ((hv S' rfl).2 a ha').2 ((h1 j S q).2 a ha).1
        · rw [List.getElem?_set_ne ek] at q'
          rw [if_neg (Ne.symm ek)]
          exact h2 j k S S' hjk q q'
/-- less said -/
inductive Le : List Slt → List Slt → Prop
  | nil : Le [] []
  | un {c : Slt} {Γ Γ' : List Slt} : Le Γ Γ' → Le (c :: Γ) (.un :: Γ')
  | eq {c c' : Slt} {Γ Γ' : List Slt} : c = c' → Le Γ Γ' → Le (c :: Γ) (c' :: Γ')
theorem Le.refl : ∀ Γ : List Slt, Le Γ Γ
  | [] => .nil
  | _ :: Γ => .eq rfl (Le.refl Γ)
theorem Le.length {Γ Γ' : List Slt} (h : Le Γ Γ') : Γ.length = Γ'.length := by induction h <;> simp_all
theorem Le.get {Γ Γ' : List Slt} (h : Le Γ Γ') : ∀ {i : Nat} {c : Slt}, c ≠ .un → Γ'[i]? = some c → Γ[i]? = some c := by
  induction h with
  | nil => intro i c _ q; simp at q
  | un _ ih =>
    intro i c hc q
    cases i with
    | zero => simp at q; exact absurd q.symm hc
    | succ i => simpa using ih hc (by simpa using q)
  | eq e _ ih =>
    intro i c hc q
    cases i with
    | zero => simp at q; subst q; simp [e]
    | succ i => simpa using ih hc (by simpa using q)
theorem Sta.le [Tb] (E : Sta M B O0 O Γ σ H) (h : Le Γ Γ') : Sta M B O0 O Γ' σ H := by
  refine ⟨by rw [← h.length]; exact E.len, E.base, E.src, E.sub, E.live, E.outs, fun i d q => E.val i d (h.get (fun z => nomatch z) q), ?_⟩
  obtain ⟨fp, h1, h2⟩ := E.own
  exact ⟨fp, fun i S q => h1 i S (h.get (fun z => nomatch z) q), fun i j S S' hij q q' => h2 i j S S' hij (h.get (fun z => nomatch z) q) (h.get (fun z => nomatch z) q')⟩
end
end TPE
end
section
set_option maxHeartbeats 4000000
namespace TPE
open PySem PySem.Spec PyProof.Rows L2

/-! ### judgements of a value that last -/
structure VJ [Tb] (M : Option Addr) where
  h : (Addr → Prop) → Hp → V → Prop
  st : ∀ {O O1 : Addr → Prop} {H H1 : Hp} {v : V}, Stp M O H O1 H1 → h O H v → h O1 H1 v
def jd [Tb] {M : Option Addr} (d : Pd) : VJ M := ⟨fun O H v => d.hold (wo H O) v, fun s h => d.mono s.same h⟩
abbrev jD [Tb] {M : Option Addr} (K : PySem.W.Frag) (d : PyData) : VJ M := jd (dP K d)
/-- the heap without the source -/
noncomputable def ws [Tb] (M : Option Addr) (H : Hp) : Hp := wo H fun a => Mu M a
theorem Stp.ws [Tb] {M : Option Addr} {O O1 : Addr → Prop} {H H1 : Hp} (s : Stp M O H O1 H1) : Same (ws M H) (ws M H1) := wo_same fun a o h1 h2 => ⟨h1, s.rl.1 a o h1 h2⟩
theorem ws_sub [Tb] {M : Option Addr} {H : Hp} : Same (TPE.ws M H) H := wo_sub
/-- a list is read in the heap without the source, a tuple in the frozen part -/
def SqJ [Tb] (K : PySem.W.Frag) (sk : Sk) (M : Option Addr) (O : Addr → Prop) (H : Hp) (a : Addr) (vs : List V) : Prop := match sk with
  | .l => SqL K (ws M H) a vs
  | .t => SqT K (wo H O) a vs
  | .any => SqL K (ws M H) a vs ∨ SqT K (wo H O) a vs
section
variable {K : PySem.W.Frag} {sk : Sk} {M : Option Addr} {O O1 : Addr → Prop} {H H1 : Hp} {a : Addr} {vs : List V}
theorem SqJ.st [Tb] (s : Stp M O H O1 H1) (h : SqJ K sk M O H a vs) : SqJ K sk M O1 H1 a vs := by
  cases sk
  · exact Same.seq s.ws h
  · exact sqT_same s.same h
  · exact h.imp (Same.seq s.ws) (sqT_same s.same)
theorem SqJ.jany [Tb] (h : SqJ K sk M O H a vs) : SqL K (ws M H) a vs ∨ SqT K (wo H O) a vs := by
  cases sk
  · exact .inl h
  · exact .inr h
  · exact h
theorem SqJ.any [Tb] (h : SqJ K sk M O H a vs) : SqL K H a vs ∨ SqT K H a vs := h.jany.imp (Same.seq ws_sub) (sqT_same wo_sub)
end
def jq [Tb] {M : Option Addr} (K : PySem.W.Frag) (sk : Sk) (ds : List PyData) : VJ M :=
  ⟨fun O H v => ∃ a vs, v = .ref a ∧ SqJ K sk M O H a vs ∧ DpAll K (wo H O) vs ds, fun s ⟨a, vs, h1, h2, h3⟩ => ⟨a, vs, h1, h2.st s, dpAll_same s.same _ _ h3⟩⟩
def EvJ [Tb] (M : Option Addr) (t : TE) (Γ : List Slt) (j : VJ M) : Prop :=
  ∀ B O0 O σ H, Sta M B O0 O Γ σ H → ∀ Q : VK, (∀ v O1 H1, Stp M O H O1 H1 → j.h O1 H1 v → Q v H1) → t σ H Q
def EvJs [Tb] (M : Option Addr) (t : TA) (Γ : List Slt) (js : List (VJ M)) : Prop :=
  ∀ B O0 O σ H, Sta M B O0 O Γ σ H → ∀ Q : List V → Hp → Prop, (∀ vs O1 H1, Stp M O H O1 H1 → Paired (fun (j : VJ M) v => j.h O1 H1 v) js vs → Q vs H1) → t σ H Q
section
variable [Tb] {M : Option Addr} {K : PySem.W.Frag} {Γ Γ' : List Slt} {t ta tb tc to ti te : TE} {tr : TA} {d da db : Pd} {c : Slt} {sk : Sk} {ds es : List PyData} {j j1 j2 : VJ M} {js : List (VJ M)} {P : Po} {ts tu : TS} {r : R2}
theorem evj (h : Ev M t Γ d) : EvJ M t Γ (jd d) := h
theorem EvJ.mono (h : EvJ M t Γ j1) (k : ∀ O H v, (∀ s, Mu M s → O s) → j1.h O H v → j2.h O H v) : EvJ M t Γ j2 := fun B O0 O σ H E Q q => h B O0 O σ H E Q fun v O1 H1 s hv => q v O1 H1 s (k O1 H1 v (fun x e => s.up x (s.src x e).1) hv)
theorem wo_ws {O : Addr → Prop} {H : Hp} (h : ∀ s, Mu M s → O s) : Same (wo H O) (ws M H) := wo_same fun a o h1 h2 => ⟨fun e => h1 (h a e), h2⟩
theorem EvJ.q_l (h : Ev M t Γ (dP K (.list ds))) : EvJ M t Γ (jq K .l ds) := (evj h).mono fun O H v hO hv => by
  have hv : Dp K (wo H O) v (.list ds) := hv
  cases hv with
  | lst h1 h2 => exact ⟨_, _, rfl, Same.seq (wo_ws hO) h1, h2⟩
theorem EvJ.q_t (h : Ev M t Γ (dP K (.tuple ds))) : EvJ M t Γ (jq K .t ds) := (evj h).mono fun O H v hO hv => by
  have hv : Dp K (wo H O) v (.tuple ds) := hv
  cases hv with
  | tup h1 h2 => exact ⟨_, _, rfl, h1, h2⟩
theorem EvJ.q_s (h : Ev M t Γ (sqP K sk ds)) : EvJ M t Γ (jq K sk ds) := (evj h).mono fun O H v hO hv => by
  obtain ⟨a, vs, h1, h2, h3⟩ := hv
  refine ⟨a, vs, h1, ?_, h3⟩
  cases sk
  · exact Same.seq (wo_ws hO) h2
  · exact h2
  · exact h2.imp (Same.seq (wo_ws hO)) id
theorem EvJ.q_any (h : EvJ M t Γ (jq K sk ds)) : EvJ M t Γ (jq K .any ds) := h.mono fun O H v hO hv => by
  obtain ⟨a, vs, h1, h2, h3⟩ := hv
  exact ⟨a, vs, h1, h2.jany, h3⟩
/-! ### names, constants -/
theorem ev_var {i : Nat} (h : Γ[i]? = some (.val d)) : Ev M (tVar i) Γ d := fun B O0 O σ H E Q q => by
  obtain ⟨v, h1, h2⟩ := E.val i d h
  exact ⟨v, h1, q v O H E.refl h2⟩
theorem ev_own {i : Nat} (h : Γ[i]? = some (.own (ownL K ds))) : EvJ M (tVar i) Γ (jq K .l ds) := fun B O0 O σ H E Q q => by
  obtain ⟨fp, h1, _⟩ := E.own
  obtain ⟨⟨v, h2, l, vs, h3, h4, h5, h6⟩, h7⟩ := h1 i _ h
  refine ⟨v, h2, q v O H E.refl ⟨l, vs, h4, ?_, h6⟩⟩
  have hl := h7 l (by rw [h3]; simp)
  refine SqL.of ?_
  show wo H _ l = _
  rw [wo_out fun e => hl.2 (E.src l e).2]
  exact h5
theorem ev_int {n : Int} : Ev M (tC (.int n)) Γ (dP K (.int n)) := fun B O0 O σ H E Q q => q _ O H E.refl (.int n)
theorem ev_str {n : Str} : Ev M (tC (.str n)) Γ (dP K (.str n)) := fun B O0 O σ H E Q q => q _ O H E.refl (.str n)
theorem ev_bl {n : Bool} : Ev M (tC (.bl n)) Γ (dP K (.bool n)) := fun B O0 O σ H E Q q => q _ O H E.refl (.bl n)
theorem ev_non : Ev M (tC .non) Γ (dP K .none) := fun B O0 O σ H E Q q => q _ O H E.refl .non
theorem ev_c {v : V} : Ev M (tC v) Γ (cP v) := fun B O0 O σ H E Q q => q _ O H E.refl rfl
theorem ev_cD {v : V} {x : PyData} (h : ∀ F, Dp K F v x) : Ev M (tC v) Γ (dP K x) := fun B O0 O σ H E Q q => q _ O H E.refl (h _)
theorem Ev.mono (h : Ev M t Γ da) (k : ∀ F v, da.hold F v → db.hold F v) : Ev M t Γ db := fun B O0 O σ H E Q q => h B O0 O σ H E Q fun v O1 H1 s hv => q v O1 H1 s (k _ _ hv)
theorem EvC.monoO {S S' : OP} (h : EvC M t Γ (.own S)) (k : ∀ fp F H v, S.hold fp F H v → S'.hold fp F H v) : EvC M t Γ (.own S') := fun B O0 O σ H E Q q => h B O0 O σ H E Q fun v O1 H1 s ⟨fp, h1, h2⟩ => q v O1 H1 s ⟨fp, k _ _ _ _ h1, h2⟩
/-- an own list becomes data -/
theorem ev_frz (h : EvC M t Γ (.own (ownL K ds))) : Ev M t Γ (dP K (.list ds)) := fun B O0 O σ H E Q q => h B O0 O σ H E Q fun v O1 H1 s hv => by
  obtain ⟨fp, ⟨l, vs, rfl, h2, h3, h4⟩, h5⟩ := hv
  have hl := h5 l (by simp)
  refine q v (fun a => O1 a ∧ a ≠ l) H1 ⟨s.rl, s.src, fun a h => ⟨s.up a h, fun e => hl.2 (e ▸ h)⟩, fun a h => s.new a h.1, fun a h => s.live a h.1⟩ ?_
  have sm : Same (wo H1 O1) (wo H1 fun a => O1 a ∧ a ≠ l) := wo_same fun a o h1 h2 => ⟨fun e => h1 e.1, h2⟩
  subst h2
  exact .lst (SqL.of (by rw [wo_out fun e => e.2 rfl]; exact h3)) (dpAll_same sm _ _ h4)
/-- a new list -/
theorem ch_new {B : Hp} {O0 O O1 : Addr → Prop} {σ : L2.St} {H H1 : Hp} (E : Sta M B O0 O Γ σ H) (s : Stp M O H O1 H1) {vs : List V} (h : DpAll K (wo H1 O1) vs ds) {p : Addr} (hp : H1 p = none) :
    Stp M O H (fun a => O1 a ∨ a = p) (upd H1 p (.lst vs)) ∧ CH (.own (ownL K ds)) O (fun a => O1 a ∨ a = p) (upd H1 p (.lst vs)) (.ref p) := by
  have E1 := E.step s
  have s2 := E1.laidO (o := .lst vs) hp
  refine ⟨s.trans s2, [p], ⟨p, vs, rfl, rfl, upd_same, dpAll_same s2.same _ _ h⟩, fun a ha => ?_⟩
  have e : a = p := by simpa using ha
  subst e
  exact ⟨.inr rfl, fun z => E1.live a (s.up a z) hp⟩
theorem pd_new {B : Hp} {O0 O O1 : Addr → Prop} {σ : L2.St} {H H1 : Hp} (E : Sta M B O0 O Γ σ H) (s : Stp M O H O1 H1) {ob : HO} {p : Addr} (hp : H1 p = none) :
    Stp M O H O1 (upd H1 p ob) ∧ Same (wo H1 O1) (wo (upd H1 p ob) O1) ∧ wo (upd H1 p ob) O1 p = some ob := by
  have E1 := E.step s
  obtain ⟨s2, h2⟩ := E1.laid (o := ob) hp
  exact ⟨s.trans s2, s2.same, by rw [wo_out h2]; exact upd_same⟩
/-! ### arguments -/
theorem evj_nil : EvJs M tNil Γ [] := fun B O0 O σ H E Q q => q [] O H E.refl .nil
theorem evj_cons (h : EvJ M te Γ j) (hr : EvJs M tr Γ js) : EvJs M (tCons te tr) Γ (j :: js) := fun B O0 O σ H E Q q => by
  refine h B O0 O σ H E _ fun v O1 H1 s hv => ?_
  refine hr B O0 O1 σ H1 (E.step s) _ fun vs O2 H2 s2 hvs => ?_
  exact q (v :: vs) O2 H2 (s.trans s2) (.cons (j.st s2 hv) hvs)
theorem eva_nil : EvA M tNil Γ [] := fun B O0 O σ H E Q q => q [] O H E.refl .nil
theorem eva_cons {ds : List Pd} (h : Ev M te Γ d) (hr : EvA M tr Γ ds) : EvA M (tCons te tr) Γ (d :: ds) := fun B O0 O σ H E Q q => by
  refine h B O0 O σ H E _ fun v O1 H1 s hv => ?_
  refine hr B O0 O1 σ H1 (E.step s) _ fun vs O2 H2 s2 hvs => ?_
  exact q (v :: vs) O2 H2 (s.trans s2) (.cons (d.mono s2.same hv) hvs)
/-! ### a call of a def -/
theorem ev_call {g : Option Addr → List Pd → Pd → Prop} {M' : Option Addr} {E' : XK} {ds : List Pd} (ha : EvA M tr Γ ds) (hg : g M' ds d) (hM : M' = none ∨ M' = M) : Ev M (tCall (SpF g) [] E' tr) Γ d := fun B O0 O σ H E Q q => by
  refine ha B O0 O σ H E _ fun vs O1 H1 s hvs => ?_
  rw [List.append_nil]
  have E1 := E.step s
  refine ⟨M', O1, ds, d, hg, hvs, s.live, fun x e => ?_, fun v H' r hv => ?_⟩
  · rcases hM with rfl | rfl
    · exact ⟨(E1.src x e.up).1.non, (E1.srcO x e.up).1⟩
    · exact ⟨(E1.src x e).1, (E1.srcO x e).1⟩
  · have r' : Rl M H1 H' := by
      rcases hM with rfl | rfl
      · exact .up (fun s e => (E1.src s e).1) r
      · exact r
    exact q v O1 H' (s.trans (.of_rl E1 r')) hv
/-! ### operators -/
def OpJ (M : Option Addr) (r : R2) (j1 j2 : VJ M) (c : Slt) : Prop := ∀ B O0 O Γ σ H x y, Sta M B O0 O Γ σ H → j1.h O H x → j2.h O H y → ∀ Q : VK, (∀ v O1 H1, Stp M O H O1 H1 → CH c O O1 H1 v → Q v H1) → r x y H Q
theorem evc_op (ha : EvJ M ta Γ j1) (hb : EvJ M tb Γ j2) (hr : OpJ M r j1 j2 c) : EvC M (tOp r ta tb) Γ c := fun B O0 O σ H E Q q => by
  refine ha B O0 O σ H E _ fun x O1 H1 s hx => ?_
  refine hb B O0 O1 σ H1 (E.step s) _ fun y O2 H2 s2 hy => ?_
  refine hr B O0 O2 Γ σ H2 x y ((E.step s).step s2) (j1.st s2 hx) hy _ fun v O3 H3 s3 hv => q v O3 H3 ((s.trans s2).trans s3) ?_
  cases c with
  | un => trivial
  | val d => exact hv
  | own S =>
    obtain ⟨fp, h1, h2⟩ := hv
    exact ⟨fp, h1, fun a ha => ⟨(h2 a ha).1, fun z => (h2 a ha).2 (s2.up a (s.up a z))⟩⟩
theorem ev_op (ha : EvJ M ta Γ j1) (hb : EvJ M tb Γ j2) (hr : OpJ M r j1 j2 (.val d)) : Ev M (tOp r ta tb) Γ d := evc_op ha hb hr
theorem Sta.jint {O : Addr → Prop} {H : Hp} {v : V} {i : Int} (h : (jD (M := M) K (.int i)).h O H v) : v = .int i := by
  have h : Dp K (wo H O) v (.int i) := h
  cases h; rfl
theorem Sta.jstr {O : Addr → Prop} {H : Hp} {v : V} {i : Str} (h : (jD (M := M) K (.str i)).h O H v) : v = .str i := by
  have h : Dp K (wo H O) v (.str i) := h
  cases h; rfl
theorem Sta.jbl {O : Addr → Prop} {H : Hp} {v : V} {i : Bool} (h : (jD (M := M) K (.bool i)).h O H v) : v = .bl i := by
  have h : Dp K (wo H O) v (.bool i) := h
  cases h; rfl
theorem oj_i {f : Int → Int → Int} {i k : Int} : OpJ M (rI0 fun i j => .int (f i j)) (jD K (.int i)) (jD K (.int k)) (.val (dP K (.int (f i k)))) := fun B O0 O Γ σ H x y E hx hy Q q =>
  ⟨i, k, Sta.jint hx, Sta.jint hy, q _ O H E.refl (.int _)⟩
theorem oj_b {f : Int → Int → Bool} {i k : Int} : OpJ M (rI0 fun i j => .bl (f i j)) (jD K (.int i)) (jD K (.int k)) (.val (dP K (.bool (f i k)))) := fun B O0 O Γ σ H x y E hx hy Q q =>
  ⟨i, k, Sta.jint hx, Sta.jint hy, q _ O H E.refl (.bl _)⟩
theorem oj_iC {C : Int → Int → Prop} {f : Int → Int → Int} {i k : Int} (hc : C i k) : OpJ M (rI C fun i j => .int (f i j)) (jD K (.int i)) (jD K (.int k)) (.val (dP K (.int (f i k)))) := fun B O0 O Γ σ H x y E hx hy Q q =>
  ⟨i, k, Sta.jint hx, Sta.jint hy, hc, q _ O H E.refl (.int _)⟩
theorem oj_eqI {i k : Int} : OpJ M rEq (jD K (.int i)) (jD K (.int k)) (.val (dP K (.bool (decide (i = k))))) := fun B O0 O Γ σ H x y E hx hy Q q => by
  cases Sta.jint hx; cases Sta.jint hy
  exact ⟨rfl, q _ O H E.refl (by rw [show decide (V.int i = V.int k) = decide (i = k) by simp]; exact .bl _)⟩
theorem oj_neI {i k : Int} : OpJ M rNe (jD K (.int i)) (jD K (.int k)) (.val (dP K (.bool (!decide (i = k))))) := fun B O0 O Γ σ H x y E hx hy Q q => by
  cases Sta.jint hx; cases Sta.jint hy
  exact ⟨rfl, q _ O H E.refl (by rw [show decide (V.int i = V.int k) = decide (i = k) by simp]; exact .bl _)⟩
theorem oj_eqS {i k : Str} : OpJ M rEq (jD K (.str i)) (jD K (.str k)) (.val (dP K (.bool (decide (i = k))))) := fun B O0 O Γ σ H x y E hx hy Q q => by
  cases Sta.jstr hx; cases Sta.jstr hy
  exact ⟨rfl, q _ O H E.refl (by rw [show decide (V.str i = V.str k) = decide (i = k) by simp]; exact .bl _)⟩
theorem oj_neS {i k : Str} : OpJ M rNe (jD K (.str i)) (jD K (.str k)) (.val (dP K (.bool (!decide (i = k))))) := fun B O0 O Γ σ H x y E hx hy Q q => by
  cases Sta.jstr hx; cases Sta.jstr hy
  exact ⟨rfl, q _ O H E.refl (by rw [show decide (V.str i = V.str k) = decide (i = k) by simp]; exact .bl _)⟩
theorem oj_eqB {i k : Bool} : OpJ M rEq (jD K (.bool i)) (jD K (.bool k)) (.val (dP K (.bool (decide (i = k))))) := fun B O0 O Γ σ H x y E hx hy Q q => by
  cases Sta.jbl hx; cases Sta.jbl hy
  exact ⟨rfl, q _ O H E.refl (by rw [show decide (V.bl i = V.bl k) = decide (i = k) by simp]; exact .bl _)⟩
theorem oj_neB {i k : Bool} : OpJ M rNe (jD K (.bool i)) (jD K (.bool k)) (.val (dP K (.bool (!decide (i = k))))) := fun B O0 O Γ σ H x y E hx hy Q q => by
  cases Sta.jbl hx; cases Sta.jbl hy
  exact ⟨rfl, q _ O H E.refl (by rw [show decide (V.bl i = V.bl k) = decide (i = k) by simp]; exact .bl _)⟩
def isNoneD : PyData → Bool
  | .none => true
  | _ => false
theorem dp_none {F : Hp} {v : V} {x : PyData} (h : Dp K F v x) : decide (v = .non) = isNoneD x := by cases h <;> simp [isNoneD]
theorem oj_isN {x : PyData} : OpJ M (fun x y H Q => y = .non ∧ Q (.bl (decide (x = .non))) H) (jD K x) (jD K .none) (.val (dP K (.bool (isNoneD x)))) := fun B O0 O Γ σ H v w E hx hy Q q => by
  have hy : Dp K (wo H O) w .none := hy
  cases hy
  refine ⟨rfl, q _ O H E.refl ?_⟩
  rw [dp_none (K := K) (F := wo H O) (x := x) hx]
  exact .bl _
theorem oj_notN {x : PyData} : OpJ M (fun x y H Q => y = .non ∧ Q (.bl (!decide (x = .non))) H) (jD K x) (jD K .none) (.val (dP K (.bool (!isNoneD x)))) := fun B O0 O Γ σ H v w E hx hy Q q => by
  have hy : Dp K (wo H O) w .none := hy
  cases hy
  refine ⟨rfl, q _ O H E.refl ?_⟩
  rw [dp_none (K := K) (F := wo H O) (x := x) hx]
  exact .bl _
theorem oj_addS {i k : Str} (h : i.length + k.length ≤ sizeLine) : OpJ M (fun x y H Q => ∃ i j, x = .str i ∧ y = .str j ∧ i.length + j.length ≤ sizeLine ∧ Q (.str (i ++ j)) H) (jD K (.str i)) (jD K (.str k)) (.val (dP K (.str (i ++ k)))) := fun B O0 O Γ σ H x y E hx hy Q q =>
  ⟨i, k, Sta.jstr hx, Sta.jstr hy, h, q _ O H E.refl (.str _)⟩
theorem atI_dp {F : Hp} {vs : List V} {i : Int} {x : PyData} (h : DpAll K F vs ds) (e : atI ds i = some x) : ∃ v, atI vs i = some v ∧ Dp K F v x := by
  unfold atI at e ⊢
  rw [h.length]
  cases q : ixN ds.length i with
  | none => rw [q] at e; cases e
  | some k =>
    rw [q] at e
    exact h.get e
theorem oj_ixL {i : Int} {x : PyData} (h : atI ds i = some x) : OpJ M (rIxL K) (jq K .l ds) (jD K (.int i)) (.val (dP K x)) := fun B O0 O Γ σ H v w E hx hy Q q => by
  obtain ⟨a, vs, rfl, h2, h3⟩ := hx
  obtain ⟨u, h4, h5⟩ := atI_dp h3 h
  exact ⟨a, vs, i, u, rfl, Sta.jint hy, Same.seq ws_sub h2, h4, q _ O H E.refl h5⟩
theorem oj_ixT {i : Int} {x : PyData} (h : atI ds i = some x) : OpJ M (rIxT K) (jq K .t ds) (jD K (.int i)) (.val (dP K x)) := fun B O0 O Γ σ H v w E hx hy Q q => by
  obtain ⟨a, vs, rfl, h2, h3⟩ := hx
  obtain ⟨u, h4, h5⟩ := atI_dp h3 h
  exact ⟨a, vs, i, u, rfl, Sta.jint hy, sqT_same wo_sub h2, h4, q _ O H E.refl h5⟩
/-- the index rule of all three kinds -/
theorem oj_ix {i : Int} {x : PyData} (h : atI ds i = some x) : OpJ M (rIx K) (jq K sk ds) (jD K (.int i)) (.val (dP K x)) := fun B O0 O Γ σ H v w E hx hy Q q => by
  obtain ⟨a, vs, rfl, h2, h3⟩ := hx
  obtain ⟨u, h4, h5⟩ := atI_dp h3 h
  rcases h2.any with z | z
  · exact .inl ⟨a, vs, i, u, rfl, Sta.jint hy, z, h4, q _ O H E.refl h5⟩
  · exact .inr (.inl ⟨a, vs, i, u, rfl, Sta.jint hy, z, h4, q _ O H E.refl h5⟩)
theorem oj_ixS {i : Int} {z : Str} {k : Nat} (hz : z.length ≤ sizeLine) (h : atI z.cps.toList i = some k) : OpJ M (rIx K) (jD K (.str z)) (jD K (.int i)) (.val (dP K (.str ⟨#[k]⟩))) := fun B O0 O Γ σ H v w E hx hy Q q =>
  .inr (.inr ⟨z, i, k, Sta.jstr hx, Sta.jint hy, hz, h, q _ O H E.refl (.str _)⟩)
/-- == on data -/
def ToD (K : PySem.W.Frag) (j : VJ M) (x : PyData) : Prop := ∀ O H v, j.h O H v → Dp K H v x
theorem toD_d {x : PyData} : ToD K (jD (M := M) K x) x := fun O H v h => dp_same wo_sub _ _ h
theorem toD_l : ToD K (jq (M := M) K .l ds) (.list ds) := fun O H v ⟨a, vs, h1, h2, h3⟩ => by
  subst h1
  exact .lst (Same.seq ws_sub h2) (dpAll_same wo_sub _ _ h3)
theorem toD_t : ToD K (jq (M := M) K .t ds) (.tuple ds) := fun O H v ⟨a, vs, h1, h2, h3⟩ => by
  subst h1
  exact .tup (sqT_same wo_sub h2) (dpAll_same wo_sub _ _ h3)
theorem oj_eqD {x y : PyData} (h1 : ToD K j1 x) (h2 : ToD K j2 y) (sx : SeqAt.shaped x = true) (sy : SeqAt.shaped y = true) : OpJ M (rEqD K) j1 j2 (.val (dP K (.bool (PyData.eqv x y)))) := fun B O0 O Γ σ H v w E hx hy Q q =>
  ⟨x, y, h1 _ _ _ hx, h2 _ _ _ hy, sx, sy, q _ O H E.refl (.bl _)⟩
theorem oj_neD {x y : PyData} (h1 : ToD K j1 x) (h2 : ToD K j2 y) (sx : SeqAt.shaped x = true) (sy : SeqAt.shaped y = true) : OpJ M (rNeD K) j1 j2 (.val (dP K (.bool (!PyData.eqv x y)))) := fun B O0 O Γ σ H v w E hx hy Q q =>
  ⟨x, y, h1 _ _ _ hx, h2 _ _ _ hy, sx, sy, q _ O H E.refl (.bl _)⟩
/-- in a sequence of texts -/
theorem flat_strs {F : Hp} : ∀ {xs : List Str} {vs : List V}, DpAll K F vs (xs.map PyData.str) → vs.all flatV = true ∧ ∀ z : Str, inV (.str z) vs = xs.contains z := by
  intro xs vs h
  rw [dpAll_strs h]
  clear h
  refine ⟨?_, fun z => ?_⟩
  · induction xs with
    | nil => rfl
    | cons x xs ih => rw [List.map_cons, List.all_cons, ih]; rfl
  unfold inV
  induction xs with
  | nil => rfl
  | cons x xs ih =>
      rw [List.map_cons, List.any_cons, List.contains_cons, ih]
      have e : eqV (.str x) (.str z) = (z == x) := by
        by_cases e : z = x
        · subst e
          rw [beq_self_eq_true]
          exact decide_eq_true rfl
        · rw [beq_false_of_ne e]
          exact decide_eq_false fun h => e h.symm
      rw [e]
theorem oj_in {xs : List Str} {z : Str} : OpJ M (rIn K false) (jD K (.str z)) (jq K sk (xs.map PyData.str)) (.val (dP K (.bool (xs.contains z)))) := fun B O0 O Γ σ H v w E hx hy Q q => by
  obtain ⟨a, vs, rfl, h2, h3⟩ := hy
  obtain ⟨f1, f2⟩ := flat_strs h3
  cases Sta.jstr hx
  refine ⟨a, vs, rfl, h2.any, rfl, f1, ?_⟩
  rw [f2]
  exact q _ O H E.refl (.bl _)
theorem oj_notIn {xs : List Str} {z : Str} : OpJ M (rIn K true) (jD K (.str z)) (jq K sk (xs.map PyData.str)) (.val (dP K (.bool (!xs.contains z)))) := fun B O0 O Γ σ H v w E hx hy Q q => by
  obtain ⟨a, vs, rfl, h2, h3⟩ := hy
  obtain ⟨f1, f2⟩ := flat_strs h3
  cases Sta.jstr hx
  refine ⟨a, vs, rfl, h2.any, rfl, f1, ?_⟩
  rw [f2]
  exact q _ O H E.refl (.bl _)
theorem oj_catT {xs ys : List PyData} (hz : xs.length + ys.length ≤ sizeLine) : OpJ M (rCatA K) (jq K .t xs) (jq K .t ys) (.val (dP K (.tuple (xs ++ ys)))) := fun B O0 O Γ σ H v w E hx hy Q q => by
  obtain ⟨a, vs, rfl, h2, h3⟩ := hx
  obtain ⟨b, ws', rfl, h4, h5⟩ := hy
  have e1 := h3.length
  have e2 := h5.length
  refine ⟨a, b, vs, ws', rfl, rfl, sqT_same wo_sub h2, sqT_same wo_sub h4, by omega, fun e => ?_, fun _ e => ?_, fun _ _ p hp => ?_⟩
  · subst e
    cases h3
    exact q _ O H E.refl (.tup h4 h5)
  · subst e
    cases h5
    rw [List.append_nil] at *
    exact q _ O H E.refl (.tup h2 h3)
  · obtain ⟨s, sm, hw⟩ := pd_new E E.refl (ob := .tup (vs ++ ws')) hp
    exact q _ O _ s (.tup (SqT.of hw) ((dpAll_same sm _ _ h3).append (dpAll_same sm _ _ h5)))
end
end TPE
end
section
set_option maxHeartbeats 4000000
namespace TPE
open PySem PySem.Spec PyProof.Rows L2 TPI

/-- a tuple of such -/
def tupP (K : PySem.W.Frag) (ps : List Pd) : Pd := ⟨fun H v => ∃ a vs, v = .ref a ∧ SqT K H a vs ∧ Hs H ps vs, fun e ⟨a, vs, h1, h2, h3⟩ => ⟨a, vs, h1, sqT_same e h2, h3.same e⟩⟩
theorem hs_of {K : PySem.W.Frag} {F : Hp} : ∀ {ds : List PyData} {vs : List V}, DpAll K F vs ds → Hs F (ds.map (dP K)) vs
  | _, _, .nil => .nil
  | _, _, .cons h t => .cons h (hs_of t)
theorem of_hs {K : PySem.W.Frag} {F : Hp} : ∀ {ds : List PyData} {vs : List V}, Hs F (ds.map (dP K)) vs → DpAll K F vs ds
  | [], _, h => by cases h; exact .nil
  | d :: ds, _, h => by
    cases h with
    | cons h t => exact .cons h (of_hs t)
theorem tupP_d {K : PySem.W.Frag} {ds : List PyData} {F : Hp} {v : V} (h : Dp K F v (.tuple ds)) : (tupP K (ds.map (dP K))).hold F v := by
  cases h with
  | tup h1 h2 => exact ⟨_, _, rfl, h1, hs_of h2⟩
theorem d_tupP {K : PySem.W.Frag} {ds : List PyData} {F : Hp} {v : V} (h : (tupP K (ds.map (dP K))).hold F v) : Dp K F v (.tuple ds) := by
  obtain ⟨a, vs, rfl, h1, h2⟩ := h
  exact .tup h1 (of_hs h2)
/-- what is walked: n items, the i-th an it i; F stands -/
structure Wk (J : It) (n : Nat) (it : Nat → Pd) (F : Hp) : Prop where
  goes : ∀ i H, i < n → Same F H → J.go i H
  stops : ∀ H, Same F H → J.stop n H
  yields : ∀ i H x H', i < n → Same F H → J.yld i H x H' → Same H H' ∧ ∀ O : Addr → Prop, (∀ a, O a → H a ≠ none) → Same F (wo H O) → (it i).hold (wo H' O) x
def EvI [Tb] (M : Option Addr) (wi : TI) (Γ : List Slt) (n : Nat) (it : Nat → Pd) : Prop :=
  ∀ B O0 O σ H, Sta M B O0 O Γ σ H → ∀ Q : It → Hp → Prop, (∀ J O1 H1, Stp M O H O1 H1 → Wk J n it (wo H1 O1) → Q J H1) → wi σ H Q
/-- a target -/
def Gt [Tb] (M : Option Addr) (g : TG) (vs : List Nat) (Γ : List Slt) (d : Pd) (Γ' : List Slt) : Prop :=
  ∀ B O0 O σ H x, Sta M B O0 O Γ σ H → d.hold (wo H O) x → ∀ Q : L2.St → Hp → Prop, (∀ σ', Sta M B O0 O Γ' σ' H → (σ'.length = σ.length ∧ ∀ i, i ∉ vs → σ'[i]? = σ[i]?) → Q σ' H) → g x σ H Q
def Gts [Tb] (M : Option Addr) (g : TGs) (vs : List Nat) (Γ : List Slt) (ds : List Pd) (Γ' : List Slt) : Prop :=
  ∀ B O0 O σ H xs, Sta M B O0 O Γ σ H → Hs (wo H O) ds xs → ∀ Q : L2.St → Hp → Prop, (∀ σ', Sta M B O0 O Γ' σ' H → (σ'.length = σ.length ∧ ∀ i, i ∉ vs → σ'[i]? = σ[i]?) → Q σ' H) → g xs σ H Q
section
variable [Tb] {M : Option Addr} {K : PySem.W.Frag} {Γ Γ' Γ'' : List Slt} {t ta tb tc to ti te : TE} {tr : TA} {d da db : Pd} {c : Slt} {sk : Sk} {ds es : List PyData} {j j1 j2 : VJ M} {js : List (VJ M)} {P : Po} {ts tu : TS} {wi : TI} {g : TG} {gs : TGs} {vs : List Nat} {n : Nat} {it : Nat → Pd} {tt : TT}
theorem Sta.put {B : Hp} {O0 O : Addr → Prop} {σ : L2.St} {H : Hp} (E : Sta M B O0 O Γ σ H) {v : V} {i : Nat} (h : d.hold (wo H O) v) : Sta M B O0 O (Γ.set i (.val d)) (σ.set i (some v)) H := E.set E.refl (c := .val d) h
theorem gt_name {i : Nat} (hi : i ∈ vs) : Gt M (gName i) vs Γ d (Γ.set i (.val d)) := fun B O0 O σ H x E hx Q q => q _ (E.put hx) ⟨List.length_set, fun j hj => by
  rw [List.getElem?_set_ne]
  intro e; subst e; exact hj hi⟩
theorem gts_nil : Gts M gNil vs Γ [] Γ := fun B O0 O σ H xs E hx Q q => by
  cases hx
  exact ⟨rfl, q σ E ⟨rfl, fun _ _ => rfl⟩⟩
theorem gts_cons {ps : List Pd} (h : Gt M g vs Γ d Γ') (hr : Gts M gs vs Γ' ps Γ'') : Gts M (gCons g gs) vs Γ (d :: ps) Γ'' := fun B O0 O σ H xs E hx Q q => by
  cases hx with
  | cons h1 h2 => exact ⟨_, _, rfl, h B O0 O σ H _ E h1 _ fun σ' E' k => hr B O0 O σ' H _ E' h2 _ fun σ2 E2 k2 => q σ2 E2 ⟨k2.1.trans k.1, fun i hi => (k2.2 i hi).trans (k.2 i hi)⟩⟩
theorem gt_tup {ps : List Pd} (hr : Gts M gs vs Γ ps Γ') (hn : ps.length = n) : Gt M (gTup K n gs) vs Γ (tupP K ps) Γ' := fun B O0 O σ H x E hx Q q => by
  obtain ⟨a, xs, rfl, h1, h2⟩ := hx
  exact ⟨a, xs, rfl, sqT_same wo_sub h1, (Paired.length h2).symm.trans hn, hr B O0 O σ H xs E h2 _ q⟩
theorem gt_tupD {ps : List PyData} (hr : Gts M gs vs Γ (ps.map (dP K)) Γ') (hn : ps.length = n) : Gt M (gTup K n gs) vs Γ (dP K (.tuple ps)) Γ' := fun B O0 O σ H x E hx Q q =>
  gt_tup hr (by rw [List.length_map]; exact hn) B O0 O σ H x E (tupP_d hx) Q q
/-! ### a state's base grows -/
theorem Sta.rebase {B : Hp} {O0 O : Addr → Prop} {σ : L2.St} {H : Hp} (E : Sta M B O0 O Γ σ H) : ∃ B' : Hp, Sta M B' O0 O Γ σ H ∧
    (∀ {O2 : Addr → Prop} {Γ2 : List Slt} {σ2 : L2.St} {H2 : Hp}, Sta M B' O0 O2 Γ2 σ2 H2 → Sta M B O0 O2 Γ2 σ2 H2 ∧ Same (wo H O) (wo H2 O2)) ∧
    (∀ {D : Ends} {P : Po}, PoOk M B O0 P D → PoOk M B' O0 P D) := by
  have k1 : ∀ a o, ¬ Mu M a → B a = some o → wo H (fun a => O a ∧ ¬ O0 a) a = some o := fun a o hM hB => by
    rw [wo_out]
    · exact E.base a o hM hB
    · rintro ⟨h1, h2⟩
      rcases E.outs a h1 with z | z
      · exact h2 z
      · rw [hB] at z; cases z
  have back : ∀ {O2 : Addr → Prop} {Γ2 : List Slt} {σ2 : L2.St} {H2 : Hp}, Sta M (wo H fun a => O a ∧ ¬ O0 a) O0 O2 Γ2 σ2 H2 → Sta M B O0 O2 Γ2 σ2 H2 := fun {O2 Γ2 σ2 H2} E2 => by
    refine ⟨E2.len, fun a o hM hB => E2.base a o hM (k1 a o hM hB), E2.src, E2.sub, E2.live, fun a h => ?_, E2.val, E2.own⟩
    rcases E2.outs a h with z | z
    · exact .inl z
    · by_cases e : Mu M a
      · exact .inl (E.src a e).2
      · cases q : B a with
        | none => exact .inr rfl
        | some o => rw [k1 a o e q] at z; cases z
  refine ⟨wo H fun a => O a ∧ ¬ O0 a, ⟨E.len, fun a o _ h => (wo_some h).2, E.src, E.sub, E.live, fun a h => ?_, E.val, E.own⟩, fun {O2 Γ2 σ2 H2} E2 => ⟨back E2, wo_same fun a o h1 h2 => ?_⟩, fun {D P} p => ⟨fun Γ σ H O h e => p.nx Γ σ H O h (back e), fun d v H h h1 h2 h3 => p.rt d v H h (fun a o hM hB => h1 a o hM (k1 a o hM hB)) h2 h3, fun Γ σ H O h e => p.bk Γ σ H O h (back e), fun Γ σ H O h e => p.ct Γ σ H O h (back e)⟩⟩
  · by_cases z : O0 a
    · exact .inl z
    · exact .inr (wo_in ⟨h, z⟩)
  · have hM : ¬ Mu M a := fun e => h1 (E.sub a (E.src a e).2)
    have hw : wo H (fun a => O a ∧ ¬ O0 a) a = some o := by rw [wo_out fun z => h1 z.1]; exact h2
    refine ⟨fun z => ?_, E2.base a o hM hw⟩
    rcases E2.outs a z with z | z
    · exact h1 (E.sub a z)
    · rw [hw] at z; cases z
/-! ### statements -/
theorem ds_seq (h : Ds M ts Γ { P with nx := fun Γ' => Ds M tu Γ' P }) : Ds M (tSeq ts tu) Γ P := fun B O0 O σ H E D p =>
  h B O0 O σ H E { D with nx := tu D } ⟨fun Γ' σ' H' O' h' E' => h' B O0 O' σ' H' E' D p, p.rt, p.bk, p.ct⟩
theorem ds_next (h : P.nx Γ) : Ds M tNext Γ P := fun B O0 O σ H E D p => p.nx Γ σ H O h E
theorem ds_le (hl : Le Γ Γ') (h : Ds M ts Γ' P) : Ds M ts Γ P := fun B O0 O σ H E D p => h B O0 O σ H (E.le hl) D p
theorem ds_set {i : Nat} (he : EvC M te Γ c) (h : P.nx (Γ.set i c)) : Ds M (tAsg te (gName i)) Γ P := fun B O0 O σ H E D p =>
  he B O0 O σ H E _ fun v O1 H1 s hv => p.nx _ _ H1 O1 h (E.set s hv)
theorem ds_setV {i : Nat} (he : Ev M te Γ d) (h : P.nx (Γ.set i (.val d))) : Ds M (tAsg te (gName i)) Γ P := ds_set (c := .val d) he h
theorem ds_asg (he : Ev M te Γ d) (hg : Gt M g vs Γ d Γ') (h : P.nx Γ') : Ds M (tAsg te g) Γ P := fun B O0 O σ H E D p =>
  he B O0 O σ H E _ fun v O1 H1 s hv => hg B O0 O1 σ H1 v (E.step s) hv _ fun σ' E' _ => p.nx _ _ H1 O1 h E'
theorem ds_drop (he : Ev M te Γ d) (h : P.nx Γ) : Ds M (tDrop te) Γ P := fun B O0 O σ H E D p =>
  he B O0 O σ H E _ fun v O1 H1 s hv => p.nx _ _ H1 O1 h (E.step s)
theorem ds_ret (he : Ev M te Γ d) (h : P.rt d) : Ds M (tRet te) Γ P := fun B O0 O σ H E D p =>
  he B O0 O σ H E _ fun v O1 H1 s hv => p.rt d v H1 h (E.step s).base (fun x e => ((E.step s).src x e).1) (d.mono (wo_same fun a o h1 h2 => ⟨fun z => h1 ((E.step s).sub a z), h2⟩) hv)
theorem ds_retN (h : P.rt (dP K .none)) : Ds M tRetN Γ P := fun B O0 O σ H E D p => p.rt _ .non H h E.base (fun x e => (E.src x e).1) .non
theorem ds_if {tc : TT} {p : Bool → Prop} (hc : EvT M tc Γ p) (h1 : p true → Ds M ts Γ P) (h2 : p false → Ds M tu Γ P) : Ds M (tIfS tc ts tu) Γ P := fun B O0 O σ H E D k =>
  hc B O0 O σ H E _ fun b O1 H1 s hb => by
    cases b with
    | true => exact h1 hb B O0 O1 σ H1 (E.step s) D k
    | false => exact h2 hb B O0 O1 σ H1 (E.step s) D k
theorem ds_ifB {tc : TT} {b : Bool} (hc : EvT M tc Γ (· = b)) (h1 : b = true → Ds M ts Γ P) (h2 : b = false → Ds M tu Γ P) : Ds M (tIfS tc ts tu) Γ P := ds_if hc (fun e => h1 e.symm) fun e => h2 e.symm
/-- an own list is frozen where it stands -/
theorem Sta.frz {B : Hp} {O0 O : Addr → Prop} {σ : L2.St} {H : Hp} (E : Sta M B O0 O Γ σ H) {i : Nat} (h : Γ[i]? = some (.own (ownL K ds))) : ∃ O', (∀ a, O0 a → O' a) ∧ (∀ a, O' a → O a) ∧ Sta M B O0 O' (Γ.set i (.val (dP K (.list ds)))) σ H := by
  obtain ⟨fp, h1, h2⟩ := E.own
  obtain ⟨⟨v, h3, l, xs, h4, h5, h6, h7⟩, h8⟩ := h1 i _ h
  have hl := h8 l (by rw [h4]; simp)
  have sm : Same (wo H O) (wo H fun a => O a ∧ a ≠ l) := wo_same fun a o h1 h2 => ⟨fun e => h1 e.1, h2⟩
  refine ⟨fun a => O a ∧ a ≠ l, fun a z => ⟨E.sub a z, fun e => hl.2 (e ▸ z)⟩, fun a z => z.1, ⟨by simp [E.len], E.base, E.src, fun a z => ⟨E.sub a z, fun e => hl.2 (e ▸ z)⟩, fun a z => E.live a z.1, fun a z => E.outs a z.1, fun j d q => ?_, fp, fun j S q => ?_, fun j k S S' hjk q q' => ?_⟩⟩
  · by_cases e : i = j
    · subst e
      have hi : i < Γ.length := by
        rcases Nat.lt_or_ge i Γ.length with z | z
        · exact z
        · rw [List.getElem?_eq_none z] at h; cases h
      rw [List.getElem?_set_self hi] at q
      cases q
      subst h5
      exact ⟨_, h3, .lst (SqL.of (by rw [wo_out fun e => e.2 rfl]; exact h6)) (dpAll_same sm _ _ h7)⟩
    · rw [List.getElem?_set_ne e] at q
      obtain ⟨w, q1, q2⟩ := E.val j d q
      exact ⟨w, q1, d.mono sm q2⟩
  · by_cases e : i = j
    · subst e
      have hi : i < Γ.length := by
        rcases Nat.lt_or_ge i Γ.length with z | z
        · exact z
        · rw [List.getElem?_eq_none z] at h; cases h
      rw [List.getElem?_set_self hi] at q
      cases q
    · rw [List.getElem?_set_ne e] at q
      obtain ⟨⟨w, q1, q2⟩, q3⟩ := h1 j S q
      refine ⟨⟨w, q1, S.mono sm (fun _ _ _ z => z) q2⟩, fun a ha => ⟨⟨(q3 a ha).1, fun e2 => ?_⟩, (q3 a ha).2⟩⟩
      subst e2
      exact h2 i j _ _ e h q a (by rw [h4]; simp) ha
  · by_cases e : i = j
    · subst e
      have hi : i < Γ.length := by
        rcases Nat.lt_or_ge i Γ.length with z | z
        · exact z
        · rw [List.getElem?_eq_none z] at h; cases h
      rw [List.getElem?_set_self hi] at q
      cases q
    · by_cases e' : i = k
      · subst e'
        have hi : i < Γ.length := by
          rcases Nat.lt_or_ge i Γ.length with z | z
          · exact z
          · rw [List.getElem?_eq_none z] at h; cases h
        rw [List.getElem?_set_self hi] at q'
        cases q'
      · rw [List.getElem?_set_ne e] at q
        rw [List.getElem?_set_ne e'] at q'
        exact h2 j k S S' hjk q q'
theorem ds_frz (i : Nat) (h : Γ[i]? = some (.own (ownL K ds))) (k : Ds M ts (Γ.set i (.val (dP K (.list ds)))) P) : Ds M ts Γ P := fun B O0 O σ H E D p => by
  obtain ⟨O', _, _, E'⟩ := E.frz h
  exact k B O0 O' σ H E' D p
theorem Sta.mut {B : Hp} {O0 O : Addr → Prop} {σ : L2.St} {H : Hp} (E : Sta M B O0 O Γ σ H) {i : Nat} (h : Γ[i]? = some (.own (ownL K ds))) : ∃ (l : Addr) (xs : List V), σ[i]? = some (some (.ref l)) ∧ H l = some (.lst xs) ∧ DpAll K (wo H O) xs ds ∧
    ∀ (ys : List V) (es : List PyData), DpAll K (wo H O) ys es → Sta M B O0 O (Γ.set i (.own (ownL K es))) σ (upd H l (.lst ys)) := by
  obtain ⟨fp, h1, h2⟩ := E.own
  obtain ⟨⟨v, h3, l, xs, h4, h5, h6, h7⟩, h8⟩ := h1 i _ h
  have hl := h8 l (by rw [h4]; simp)
  subst h5
  have hi : i < Γ.length := by
    rcases Nat.lt_or_ge i Γ.length with z | z
    · exact z
    · rw [List.getElem?_eq_none z] at h; cases h
  refine ⟨l, xs, h3, h6, h7, fun ys es hy => ?_⟩
  have sm : ∀ a, a ≠ l → upd H l (.lst ys) a = H a := fun a z => upd_ne z
  have sw : Same (wo H O) (wo (upd H l (.lst ys)) O) := wo_same fun a o q1 q2 => ⟨q1, by rw [sm a fun e => q1 (e ▸ hl.1)]; exact q2⟩
  have hlB : B l = none := (E.outs l hl.1).resolve_left hl.2
  have hlM : ¬ Mu M l := fun e => hl.2 (E.src l e).2
  refine ⟨by simp [E.len], fun a o hM hB => ?_, fun x e => ⟨?_, (E.src x e).2⟩, E.sub, fun a z => ?_, E.outs, fun j d q => ?_, fp, fun j S q => ?_, fun j k S S' hjk q q' => ?_⟩
  · rw [sm a fun e => by subst e; rw [hlB] at hB; cases hB]
    exact E.base a o hM hB
  · exact (E.src x e).1.upd (fun e2 => hlM (e2 ▸ e)) h6 (fun _ => (nomatch ·)) (fun _ => (nomatch ·))
  · by_cases e : a = l
    · subst e; rw [upd_same]; exact fun z => nomatch z
    · rw [sm a e]; exact E.live a z
  · by_cases e : i = j
    · subst e
      rw [List.getElem?_set_self hi] at q
      cases q
    · rw [List.getElem?_set_ne e] at q
      obtain ⟨w, q1, q2⟩ := E.val j d q
      exact ⟨w, q1, d.mono sw q2⟩
  · by_cases e : i = j
    · subst e
      rw [List.getElem?_set_self hi] at q
      cases q
      exact ⟨⟨_, h3, l, ys, h4, rfl, upd_same, dpAll_same sw _ _ hy⟩, h8⟩
    · rw [List.getElem?_set_ne e] at q
      obtain ⟨⟨w, q1, q2⟩, q3⟩ := h1 j S q
      refine ⟨⟨w, q1, S.mono sw (fun a ha o ho => ?_) q2⟩, q3⟩
      rw [sm a fun e2 => h2 i j _ _ e h q l (by rw [h4]; simp) (e2 ▸ ha)]
      exact ho
  · have hh : ∀ {k : Nat} {S : OP}, (Γ.set i (Slt.own (ownL K es)))[k]? = some (.own S) → ∃ S0, Γ[k]? = some (.own S0) := fun {k S} z => by
      by_cases e : i = k
      · subst e; exact ⟨_, h⟩
      · rw [List.getElem?_set_ne e] at z; exact ⟨S, z⟩
    obtain ⟨S0, z0⟩ := hh q
    obtain ⟨S1, z1⟩ := hh q'
    exact h2 j k S0 S1 hjk z0 z1
/-- l.append(e) -/
theorem ds_append {i : Nat} {x : PyData} (h : Γ[i]? = some (.own (ownL K ds))) (he : Ev M te Γ (dP K x)) (hz : ds.length < sizeLine) (k : P.nx (Γ.set i (.own (ownL K (ds ++ [x]))))) :
    Ds M (tDrop (tBM K "list" rAppend (tVar i) (tCons te tNil))) Γ P := fun B O0 O σ H E D p => by
  obtain ⟨l0, xs0, h1, h2, h3, _⟩ := E.mut h
  refine ⟨_, h1, .inl ⟨rfl, xs0, SqL.of h2⟩, he B O0 O σ H E _ fun v O1 H1 s hv => ?_⟩
  obtain ⟨l, xs, h4, h5, h6, h7⟩ := (E.step s).mut h
  rw [h1] at h4
  cases h4
  refine ⟨l0, xs, v, rfl, rfl, h5, by rw [h6.length]; exact hz, ?_⟩
  exact p.nx _ _ _ O1 k (h7 _ _ (h6.append (.cons hv .nil)))
/-- l.extend(e), e a list -/
theorem ds_extend {i : Nat} (h : Γ[i]? = some (.own (ownL K ds))) (he : EvC M te Γ (.own (ownL K es))) (hz : ds.length + es.length ≤ sizeLine) (k : P.nx (Γ.set i (.own (ownL K (ds ++ es))))) :
    Ds M (tDrop (tBM K "list" rExtend (tVar i) (tCons te tNil))) Γ P := fun B O0 O σ H E D p => by
  obtain ⟨l0, xs0, h1, h2, h3, _⟩ := E.mut h
  refine ⟨_, h1, .inl ⟨rfl, xs0, SqL.of h2⟩, he B O0 O σ H E _ fun v O1 H1 s hv => ?_⟩
  obtain ⟨l, xs, h4, h5, h6, h7⟩ := (E.step s).mut h
  rw [h1] at h4
  cases h4
  obtain ⟨fp, ⟨b, zs, rfl, rfl, q3, q4⟩, q5⟩ := hv
  refine ⟨l0, b, xs, zs, rfl, rfl, h5, q3, by rw [h6.length, q4.length]; exact hz, ?_⟩
  exact p.nx _ _ _ O1 k (h7 _ _ (h6.append q4))
/-- l[i] = e -/
theorem ds_store {i k : Nat} {x : PyData} {ix : Int} (he : Ev M te Γ (dP K x)) (h : Γ[i]? = some (.own (ownL K ds))) (hi : Ev M ti Γ (dP K (.int ix))) (hk : ixN ds.length ix = some k) (hn : P.nx (Γ.set i (.own (ownL K (ds.set k x))))) :
    Ds M (tAsg te (gSub (tVar i) ti rSetL)) Γ P := fun B O0 O σ H E D p => by
  refine he B O0 O σ H E _ fun v O1 H1 s hv => ?_
  obtain ⟨l0, xs0, h1, h2, h3, _⟩ := (E.step s).mut h
  refine ⟨_, h1, hi B O0 O1 σ H1 (E.step s) _ fun w O2 H2 s2 hw => ?_⟩
  obtain ⟨l, xs, h4, h5, h6, h7⟩ := ((E.step s).step s2).mut h
  rw [h1] at h4
  cases h4
  have hw : Dp K (wo H2 O2) w (.int ix) := hw
  cases hw
  exact ⟨l0, xs, ix, k, rfl, rfl, h5, by rw [h6.length]; exact hk, p.nx _ _ _ O2 hn (h7 _ _ (h6.set k (dp_same s2.same _ _ hv)))⟩
/-- the list's item, for xs[i] op= e -/
def gIxL (K : PySem.W.Frag) : V → V → Hp → VK → Prop := rIxL K
/-- l[i] op= e (ints) -/
theorem ds_augS {f : Int → Int → Int} {i k : Nat} {a b ix : Int} (h : Γ[i]? = some (.own (ownL K ds))) (hi : Ev M ti Γ (dP K (.int ix))) (hk : ixN ds.length ix = some k) (ha : ds[k]? = some (.int a)) (he : Ev M te Γ (dP K (.int b)))
    (hn : P.nx (Γ.set i (.own (ownL K (ds.set k (.int (f a b))))))) : Ds M (tAugS (tVar i) ti te (rIxL K) (ipI f) rSetL) Γ P := fun B O0 O σ H E D p => by
  obtain ⟨l0, xs0, h1, h2, h3, _⟩ := E.mut h
  refine ⟨_, h1, hi B O0 O σ H E _ fun w O2 H2 s2 hw => ?_⟩
  obtain ⟨l, xs, h4, h5, h6, h7⟩ := (E.step s2).mut h
  rw [h1] at h4
  cases h4
  have hw : Dp K (wo H2 O2) w (.int ix) := hw
  cases hw
  obtain ⟨u, q1, q2⟩ := h6.get ha
  cases q2
  refine ⟨l0, xs, ix, .int a, rfl, rfl, SqL.of h5, by unfold atI; rw [h6.length, hk]; exact q1, ?_⟩
  refine he B O0 O2 σ H2 (E.step s2) _ fun v O3 H3 s3 hv => ?_
  obtain ⟨l', xs', h8, h9, h10, h11⟩ := ((E.step s2).step s3).mut h
  rw [h1] at h8
  cases h8
  have hv : Dp K (wo H3 O3) v (.int b) := hv
  cases hv
  exact ⟨a, b, rfl, rfl, l0, xs', ix, k, rfl, rfl, h9, by rw [h10.length]; exact hk, p.nx _ _ _ O3 hn (h11 _ _ (h10.set k (.int _)))⟩
/-- x op= e (ints) -/
theorem ds_aug {f : Int → Int → Int} {i : Nat} {a b : Int} (h : Γ[i]? = some (.val (dP K (.int a)))) (he : Ev M te Γ (dP K (.int b))) (hn : P.nx (Γ.set i (.val (dP K (.int (f a b)))))) : Ds M (tAug i te (ipI f)) Γ P := fun B O0 O σ H E D p => by
  obtain ⟨v, h1, h2⟩ := E.val i _ h
  have h2 : Dp K (wo H O) v (.int a) := h2
  cases h2
  refine ⟨_, h1, he B O0 O σ H E _ fun w O2 H2 s2 hw => ?_⟩
  have hw : Dp K (wo H2 O2) w (.int b) := hw
  cases hw
  exact ⟨a, b, rfl, rfl, p.nx _ _ _ O2 hn ((E.step s2).put (.int _))⟩
/-- two slots at once -/
theorem ds_par {i k : Nat} {c2 : Slt} (h1 : EvC M ta Γ c) (h2 : EvC M tb Γ c2) (hik : i ≠ k) (hn : P.nx ((Γ.set i c).set k c2)) : Ds M (tPar i k (tCons ta (tCons tb tNil))) Γ P := fun B O0 O σ H E D p => by
  refine h1 B O0 O σ H E _ fun v O1 H1 s hv => ?_
  have E1 := E.step s
  refine h2 B O0 O1 σ H1 E1 _ fun w O2 H2 s2 hw => ?_
  refine ⟨v, w, rfl, p.nx _ _ _ O2 hn ?_⟩
  have hc : CH c O O2 H2 v := by
    cases c with
    | un => trivial
    | val d => exact d.mono s2.same hv
    | own S =>
      obtain ⟨fp, q1, q2⟩ := hv
      refine ⟨fp, S.mono s2.same (fun a ha o ho => s2.rl.1 a o (fun e => (q2 a ha).2 (E.sub a (E.src a e).2)) ho) q1, fun a ha => ⟨s2.up a (q2 a ha).1, (q2 a ha).2⟩⟩
  -- the first store, then the second as a store in one step
  have E2 : Sta M B O0 O2 (Γ.set i c) (σ.set i (some v)) H2 := E.set (s.trans s2) hc
  have Ea : Sta M B O0 O1 (Γ.set i c) (σ.set i (some v)) H1 := E.set s hv
  exact Ea.set s2 hw
/-- while -/
theorem ds_while {tc : TT} (Iv : Nat → List Slt → Prop) (m0 : Nat) (h0 : Iv m0 Γ) (hs : ∀ m Γ', Iv m Γ' → ∃ p : Bool → Prop, EvT M tc Γ' p ∧ (p false → P.nx Γ') ∧
    (p true → Ds M ts Γ' { nx := fun Γ'' => ∃ m', m' < m ∧ Iv m' Γ'', ct := fun Γ'' => ∃ m', m' < m ∧ Iv m' Γ'', bk := P.nx, rt := P.rt })) : Ds M (tWhile tc ts) Γ P := fun B O0 O σ H E D p => by
  refine ⟨fun m σ H => ∃ O Γ', Iv m Γ' ∧ Sta M B O0 O Γ' σ H, ⟨m0, O, Γ, h0, E⟩, ?_⟩
  rintro m σ' H' ⟨O', Γ', hI, E'⟩
  obtain ⟨q, hc, hf, ht⟩ := hs m Γ' hI
  refine hc B O0 O' σ' H' E' _ fun b O1 H1 s hb => ?_
  cases b with
  | true =>
    rw [if_pos rfl]
    refine ⟨fun σ H => ∃ m', m' < m ∧ ∃ O Γ', Iv m' Γ' ∧ Sta M B O0 O Γ' σ H, fun σ2 H2 ⟨m', h1, O2, Γ2, h2, E2⟩ => ⟨m', h1, O2, Γ2, h2, E2⟩, ?_⟩
    exact ht hb B O0 O1 σ' H1 (E'.step s) _ ⟨fun Γ2 σ2 H2 O2 ⟨m', h1, h2⟩ E2 => ⟨m', h1, O2, Γ2, h2, E2⟩, p.rt, p.nx, fun Γ2 σ2 H2 O2 ⟨m', h1, h2⟩ E2 => ⟨m', h1, O2, Γ2, h2, E2⟩⟩
  | false =>
    rw [if_neg Bool.false_ne_true]
    exact p.nx _ _ _ O1 (hf hb) (E'.step s)
/-- for -/
theorem ds_for (hi : EvI M wi Γ n it) (Iv : Nat → List Slt → Prop) (h0 : Iv 0 Γ) (hs : ∀ i Γ', i < n → Iv i Γ' → ∃ Γ'' vs, Gt M g vs Γ' (it i) Γ'' ∧ Ds M ts Γ'' { nx := Iv (i + 1), ct := Iv (i + 1), bk := P.nx, rt := P.rt })
    (he : ∀ Γ', Iv n Γ' → P.nx Γ') : Ds M (tFor wi g ts) Γ P := fun B O0 O σ H E D p => by
  refine hi B O0 O σ H E _ fun J O1 H1 s wk => ?_
  obtain ⟨B', E1, back, pk⟩ := (E.step s).rebase
  refine ⟨fun i m σ H => m = n - i ∧ i ≤ n ∧ ∃ O Γ', Iv i Γ' ∧ Sta M B' O0 O Γ' σ H, ⟨n, by simp, Nat.zero_le _, O1, Γ, h0, E1⟩, ?_⟩
  rintro i m σ' H' ⟨rfl, hin, O', Γ', hI, E'⟩
  have sF := (back E').2
  by_cases hlt : i < n
  · refine .inr ⟨wk.goes i H' hlt (sF.trans wo_sub), fun σ H => ∃ O Γ', Iv (i + 1) Γ' ∧ Sta M B' O0 O Γ' σ H, fun σ2 H2 h => ⟨n - (i + 1), by omega, rfl, hlt, h⟩, fun x H2 y => ?_⟩
    obtain ⟨q1, q2⟩ := wk.yields i H' x H2 hlt (sF.trans wo_sub) y
    have hx := q2 O' E'.live sF
    obtain ⟨Γ'', vs', hg, hb⟩ := hs i Γ' hlt hI
    refine hg B' O0 O' σ' H2 x (E'.step (.of_rl E' (.of q1))) hx _ fun σ2 E2 _ => ?_
    exact hb B' O0 O' σ2 H2 E2 _ ⟨fun Γ3 σ3 H3 O3 h3 E3 => ⟨O3, Γ3, h3, E3⟩, (pk p).rt, (pk p).nx, fun Γ3 σ3 H3 O3 h3 E3 => ⟨O3, Γ3, h3, E3⟩⟩
  · have e : i = n := by omega
    subst e
    exact .inl ⟨wk.stops H' (sF.trans wo_sub), p.nx _ _ _ O' (he Γ' hI) (back E').1⟩
/-! ### comprehensions -/
def wipeG (Γ : List Slt) : List Nat → List Slt
  | [] => Γ
  | v :: vs => (wipeG Γ vs).set v .un
theorem Sta.unset {B : Hp} {O0 O : Addr → Prop} {σ : L2.St} {H : Hp} (E : Sta M B O0 O Γ σ H) (i : Nat) : Sta M B O0 O (Γ.set i .un) (σ.set i none) H := by
  have hh : ∀ {k : Nat} {x : Slt}, x ≠ .un → (Γ.set i .un)[k]? = some x → Γ[k]? = some x ∧ (σ.set i none)[k]? = σ[k]? := fun {k x} hx z => by
    by_cases e : i = k
    · subst e
      by_cases hi : i < Γ.length
      · rw [List.getElem?_set_self hi] at z; cases z; exact absurd rfl hx
      · rw [List.getElem?_eq_none (by simp; omega)] at z; cases z
    · rw [List.getElem?_set_ne e] at z; exact ⟨z, List.getElem?_set_ne e⟩
  obtain ⟨fp, h1, h2⟩ := E.own
  refine ⟨by simp [E.len], E.base, E.src, E.sub, E.live, E.outs, fun j d q => ?_, fp, fun j S q => ?_, fun j k S S' hjk q q' => ?_⟩
  · obtain ⟨z1, z2⟩ := hh (by intro z; cases z) q
    rw [z2]
    exact E.val j d z1
  · obtain ⟨z1, z2⟩ := hh (by intro z; cases z) q
    rw [z2]
    exact h1 j S z1
  · exact h2 j k S S' hjk (hh (by intro z; cases z) q).1 (hh (by intro z; cases z) q').1
theorem Sta.wipe {B : Hp} {O0 O : Addr → Prop} {σ : L2.St} {H : Hp} (E : Sta M B O0 O Γ σ H) : ∀ vs : List Nat, Sta M B O0 O (wipeG Γ vs) (L2.wipe σ vs) H
  | [] => E
  | v :: vs => (Sta.wipe E vs).unset v
theorem wipe_in {σ : L2.St} {i : Nat} (hi : i < σ.length) : ∀ {vs : List Nat}, i ∈ vs → (L2.wipe σ vs)[i]? = some none
  | v :: vs, h => by
    unfold L2.wipe
    by_cases e : v = i
    · subst e
      exact List.getElem?_set_self (by rw [wipe_length]; exact hi)
    · rw [List.getElem?_set_ne e]
      exact wipe_in hi ((List.mem_cons.mp h).resolve_left (Ne.symm e))
theorem wipe_eq {σ σ' : L2.St} (vs : List Nat) (hl : σ'.length = σ.length) (h : ∀ i, i ∉ vs → σ'[i]? = σ[i]?) : L2.wipe σ' vs = L2.wipe σ vs := by
  apply List.ext_getElem?
  intro i
  by_cases hi : i ∈ vs
  · by_cases hz : i < σ.length
    · rw [wipe_in hz hi, wipe_in (by rw [hl]; exact hz) hi]
    · rw [List.getElem?_eq_none (by rw [wipe_length]; omega), List.getElem?_eq_none (by rw [wipe_length]; omega)]
  · rw [wipe_out hi, wipe_out hi, h i hi]
theorem evc_lcX (hi : EvI M wi Γ n it) (A : Nat → List PyData → Prop) (h0 : A 0 []) (hs : ∀ i acc, i < n → A i acc → acc.length < sizeLine ∧ ∃ Γ'', Gt M g vs (wipeG Γ vs) (it i) Γ'' ∧ ∃ p, EvT M tt Γ'' p ∧
    (p true → Ev M te Γ'' (exP fun x : { x : PyData // A (i + 1) (acc ++ [x]) } => dP K x.1)) ∧ (p false → A (i + 1) acc)) : EvC M (tLc wi g tt te vs) Γ (.own (ownX fun x : { x : List PyData // A n x } => ownL K x.1)) := fun B O0 O σ H E Q q => by
  refine hi B O0 O σ H E _ fun J O1 H1 s wk D hD => ?_
  have E1 := E.step s
  have s0 := E1.laidO (o := .lst []) hD
  refine ⟨fun i m H' => m = n - i ∧ i ≤ n ∧ ∃ O' acc va, Stp M O1 H1 O' H' ∧ O' D ∧ H' D = some (.lst va) ∧ DpAll K (wo H' O') va acc ∧ A i acc, ⟨n, by simp, Nat.zero_le _, _, [], [], s0, .inr rfl, upd_same, .nil, h0⟩, ?_⟩
  rintro i m H' ⟨rfl, hin, O', acc, va, s1, hO, hva, hd, hA⟩
  have sF : Same (wo H1 O1) (wo H' O') := s1.same
  by_cases hlt : i < n
  · refine .inr ⟨wk.goes i H' hlt (sF.trans wo_sub), fun H' => ∃ O' acc va, Stp M O1 H1 O' H' ∧ O' D ∧ H' D = some (.lst va) ∧ DpAll K (wo H' O') va acc ∧ A (i + 1) acc, fun H2 h => ⟨n - (i + 1), by omega, rfl, hlt, h⟩, fun x H2 y => ?_⟩
    have E' := E1.step s1
    obtain ⟨q1, q2⟩ := wk.yields i H' x H2 hlt (sF.trans wo_sub) y
    have hx := q2 O' E'.live sF
    have st2 : Stp M O' H' O' H2 := .of_rl E' (.of q1)
    have E2 := (E'.step st2).wipe vs
    obtain ⟨hz, Γ'', hg, p, hp, ht, hf⟩ := hs i acc hlt hA
    refine hg B O0 O' _ H2 x E2 hx _ fun σ2 E3 k => ⟨?_, ?_⟩
    · have e : L2.wipe (L2.wipe σ vs) vs = L2.wipe σ vs := wipe_eq vs (wipe_length σ vs) fun i hi => wipe_out hi
      exact (wipe_eq vs k.1 k.2).trans e
    · refine hp B O0 O' σ2 H2 E3 _ fun b O3 H3 s3 hb => ?_
      have s13 := (s1.trans st2).trans s3
      have hD3 : ∀ {O4 : Addr → Prop} {H4 : Hp}, Stp M O' H' O4 H4 → H4 D = some (.lst va) := fun {O4 H4} s => s.rl.1 D _ (fun e => E1.live D ((s1.src D e).1) hD) hva
      cases b with
      | false =>
        rw [if_neg Bool.false_ne_true]
        exact ⟨O3, acc, va, s13, s3.up D hO, hD3 (st2.trans s3), dpAll_same (st2.trans s3).same _ _ hd, hf hb⟩
      | true =>
        rw [if_pos rfl]
        refine ht hb B O0 O3 σ2 H3 (E3.step s3) _ fun y O4 H4 s4 hy => ?_
        obtain ⟨⟨x, hx⟩, hy⟩ := hy
        have s24 := (st2.trans s3).trans s4
        refine ⟨va, hD3 s24, by rw [hd.length]; exact hz, O4, acc ++ [x], va ++ [y], ?_, s24.up D hO, upd_same, ?_, hx⟩
        · have s14 := s13.trans s4
          refine ⟨⟨fun a o hM h => ?_, fun z e hz => ?_⟩, s14.src, s14.up, s14.new, fun a h => ?_⟩
          · rw [upd_ne (ne_of_none h hD)]
            exact s14.rl.1 a o hM h
          · have hne : z ≠ D := fun e2 => E1.live z ((s1.src z e).1) (e2 ▸ hD)
            exact (s14.rl.2 z e hz).updP hne (.lst (hD3 s24))
          · by_cases e : a = D
            · subst e; rw [upd_same]; exact fun z => nomatch z
            · rw [upd_ne e]; exact s14.live a h
        · have sm : Same (wo H4 O4) (wo (upd H4 D (.lst (va ++ [y]))) O4) := wo_same fun a o h1 h2 => ⟨h1, by rw [upd_ne fun (e : a = D) => h1 (by rw [e]; exact s24.up D hO)]; exact h2⟩
          exact (dpAll_same (s24.same.trans sm) _ _ hd).append (.cons (dp_same sm _ _ hy) .nil)
  · have e : i = n := by omega
    subst e
    refine .inl ⟨wk.stops H' (sF.trans wo_sub), q _ O' H' (s.trans s1) ⟨[D], ⟨⟨acc, hA⟩, D, va, rfl, rfl, hva, hd⟩, fun a ha => ?_⟩⟩
    have e : a = D := by simpa using ha
    subst e
    exact ⟨hO, fun z => E1.live a (s.up a z) hD⟩
/-- what comes is known -/
theorem evc_lc (hi : EvI M wi Γ n it) (A : Nat → List PyData) (h0 : A 0 = []) (hs : ∀ i, i < n → (A i).length < sizeLine ∧ ∃ Γ'', Gt M g vs (wipeG Γ vs) (it i) Γ'' ∧ ∃ p, EvT M tt Γ'' p ∧
    (p true → ∃ x, Ev M te Γ'' (dP K x) ∧ A (i + 1) = A i ++ [x]) ∧ (p false → A (i + 1) = A i)) : EvC M (tLc wi g tt te vs) Γ (.own (ownL K (A n))) := by
  refine (evc_lcX (K := K) hi (fun i acc => acc = A i) h0.symm fun i acc hin e => ?_).monoO fun fp F H v ⟨⟨x, hx⟩, h⟩ => by cases hx; exact h
  subst e
  obtain ⟨h1, Γ'', h2, p, h3, h4, h5⟩ := hs i hin
  refine ⟨h1, Γ'', h2, p, h3, fun e => ?_, fun e => (h5 e).symm⟩
  obtain ⟨x, h6, h7⟩ := h4 e
  exact h6.mono fun F v hv => ⟨⟨x, h7.symm⟩, hv⟩
end
end TPE
end
section
set_option maxHeartbeats 4000000
namespace TPE
open PySem PySem.Spec PyProof.Rows L2 TPI

section
variable [Tb] {M : Option Addr} {K : PySem.W.Frag} {Γ Γ' Γ'' : List Slt} {t ta tb tc to ti te : TE} {tr : TA} {d da db : Pd} {c : Slt} {sk : Sk} {ds es : List PyData} {j j1 j2 : VJ M} {js : List (VJ M)} {P : Po} {ts tu : TS} {wi : TI} {g : TG} {gs : TGs} {vs : List Nat} {n : Nat} {it : Nat → Pd} {tt tv : TT} {b b' : Bool}
/-! ### tests -/
theorem evt_test (h : Ev M t Γ (dP K (.bool b))) : EvT M (tTest t) Γ (· = b) := fun B O0 O σ H E Q q => h B O0 O σ H E _ fun v O1 H1 s hv => by
  have hv : Dp K (wo H1 O1) v (.bool b) := hv
  cases hv
  exact ⟨b, rfl, q b O1 H1 s rfl⟩
theorem evt_tB (h : Ev M t Γ (dP K (.bool b))) : EvT M (tB t) Γ (· = b) := fun B O0 O σ H E Q q => h B O0 O σ H E _ fun v O1 H1 s hv => by
  have hv : Dp K (wo H1 O1) v (.bool b) := hv
  cases hv
  exact ⟨b, rfl, q b O1 H1 s rfl⟩
/-- any answer -/
def bP (K : PySem.W.Frag) (p : Bool → Prop) : Pd := exP fun x : { b : Bool // p b } => dP K (.bool x.1)
theorem evt_testX {p : Bool → Prop} (h : Ev M t Γ (bP K p)) : EvT M (tTest t) Γ p := fun B O0 O σ H E Q q => h B O0 O σ H E _ fun v O1 H1 s hv => by
  obtain ⟨⟨b, hb⟩, hv⟩ := hv
  have hv : Dp K (wo H1 O1) v (.bool b) := hv
  cases hv
  exact ⟨b, rfl, q b O1 H1 s hb⟩
theorem evt_and (h : EvT M tt Γ (· = b)) (h' : b = true → EvT M tv Γ (· = b')) : EvT M (tAnd tt tv) Γ (· = (b && b')) := fun B O0 O σ H E Q q => h B O0 O σ H E _ fun x O1 H1 s hx => by
  subst hx
  cases x with
  | true =>
    rw [if_pos rfl]
    exact h' rfl B O0 O1 σ H1 (E.step s) _ fun y O2 H2 s2 hy => q y O2 H2 (s.trans s2) (by simpa using hy)
  | false => exact q false O1 H1 s rfl
theorem evt_or (h : EvT M tt Γ (· = b)) (h' : b = false → EvT M tv Γ (· = b')) : EvT M (tOr tt tv) Γ (· = (b || b')) := fun B O0 O σ H E Q q => h B O0 O σ H E _ fun x O1 H1 s hx => by
  subst hx
  cases x with
  | false =>
    rw [if_neg Bool.false_ne_true]
    exact h' rfl B O0 O1 σ H1 (E.step s) _ fun y O2 H2 s2 hy => q y O2 H2 (s.trans s2) (by simpa using hy)
  | true => exact q true O1 H1 s rfl
theorem evt_not (h : EvT M tt Γ (· = b)) : EvT M (tNot tt) Γ (· = !b) := fun B O0 O σ H E Q q => h B O0 O σ H E _ fun x O1 H1 s hx => q _ O1 H1 s (by subst hx; rfl)
/-- with any answers -/
theorem evt_andX {p p' : Bool → Prop} (h : EvT M tt Γ p) (h' : p true → EvT M tv Γ p') : EvT M (tAnd tt tv) Γ (fun x => (p true ∧ p' x) ∨ (p false ∧ x = false)) := fun B O0 O σ H E Q q => h B O0 O σ H E _ fun x O1 H1 s hx => by
  cases x with
  | true =>
    rw [if_pos rfl]
    exact h' hx B O0 O1 σ H1 (E.step s) _ fun y O2 H2 s2 hy => q y O2 H2 (s.trans s2) (.inl ⟨hx, hy⟩)
  | false => exact q false O1 H1 s (.inr ⟨hx, rfl⟩)
theorem EvT.mono {p p' : Bool → Prop} (h : EvT M tt Γ p) (k : ∀ x, p x → p' x) : EvT M tt Γ p' := fun B O0 O σ H E Q q => h B O0 O σ H E Q fun x O1 H1 s hx => q x O1 H1 s (k x hx)
theorem evt_eq (h : EvT M tt Γ (· = b)) (e : b = b') : EvT M tt Γ (· = b') := e ▸ h
theorem evt_yes : EvT M tYes Γ (· = true) := fun B O0 O σ H E Q q => q true O H E.refl rfl
theorem ev_andV (h : Ev M ta Γ (dP K (.bool b))) (h' : b = true → Ev M tb Γ (dP K (.bool b'))) : Ev M (tAndV ta tb) Γ (dP K (.bool (b && b'))) := fun B O0 O σ H E Q q => h B O0 O σ H E _ fun v O1 H1 s hv => by
  have hv : Dp K (wo H1 O1) v (.bool b) := hv
  cases hv
  refine ⟨b, rfl, ?_⟩
  cases b with
  | true =>
    rw [if_pos rfl]
    exact h' rfl B O0 O1 σ H1 (E.step s) _ fun y O2 H2 s2 hy => q y O2 H2 (s.trans s2) (by simpa using hy)
  | false => exact q _ O1 H1 s (.bl false)
theorem ev_orV (h : Ev M ta Γ (dP K (.bool b))) (h' : b = false → Ev M tb Γ (dP K (.bool b'))) : Ev M (tOrV ta tb) Γ (dP K (.bool (b || b'))) := fun B O0 O σ H E Q q => h B O0 O σ H E _ fun v O1 H1 s hv => by
  have hv : Dp K (wo H1 O1) v (.bool b) := hv
  cases hv
  refine ⟨b, rfl, ?_⟩
  cases b with
  | false =>
    rw [if_neg Bool.false_ne_true]
    exact h' rfl B O0 O1 σ H1 (E.step s) _ fun y O2 H2 s2 hy => q y O2 H2 (s.trans s2) (by simpa using hy)
  | true => exact q _ O1 H1 s (.bl true)
theorem ev_notV (h : Ev M ta Γ (dP K (.bool b))) : Ev M (tNotV ta) Γ (dP K (.bool (!b))) := fun B O0 O σ H E Q q => h B O0 O σ H E _ fun v O1 H1 s hv => by
  have hv : Dp K (wo H1 O1) v (.bool b) := hv
  cases hv
  exact ⟨b, rfl, q _ O1 H1 s (.bl _)⟩
theorem ev_eq {x y : PyData} (h : Ev M t Γ (dP K x)) (e : x = y) : Ev M t Γ (dP K y) := e ▸ h
theorem evc_eqL (h : EvC M t Γ (.own (ownL K ds))) (e : ds = es) : EvC M t Γ (.own (ownL K es)) := e ▸ h
/-- a op b op' c, by comparisons -/
theorem ev_chain {r r' : R2} {j3 : VJ M} (ha : EvJ M ta Γ j1) (hb : EvJ M tb Γ j2) (hr : OpJ M r j1 j2 (.val (dP K (.bool b)))) (hc : b = true → EvJ M tc Γ j3) (hr' : OpJ M r' j2 j3 (.val (dP K (.bool b')))) :
    Ev M (tChain r r' ta tb tc) Γ (dP K (.bool (b && b'))) := fun B O0 O σ H E Q q => by
  refine ha B O0 O σ H E _ fun x O1 H1 s hx => ?_
  refine hb B O0 O1 σ H1 (E.step s) _ fun y O2 H2 s2 hy => ?_
  have E2 := (E.step s).step s2
  refine hr B O0 O2 Γ σ H2 x y E2 (j1.st s2 hx) hy _ fun v O3 H3 s3 hv => ?_
  have hv : Dp K (wo H3 O3) v (.bool b) := hv
  cases hv
  refine ⟨b, rfl, ?_⟩
  have s123 := (s.trans s2).trans s3
  cases b with
  | false => exact q _ O3 H3 s123 (.bl false)
  | true =>
    rw [if_pos rfl]
    refine hc rfl B O0 O3 σ H3 (E2.step s3) _ fun z O4 H4 s4 hz => ?_
    refine hr' B O0 O4 Γ σ H4 y z ((E2.step s3).step s4) (j2.st (s3.trans s4) hy) hz _ fun v O5 H5 s5 hv => q v O5 H5 ((s123.trans s4).trans s5) (by rw [Bool.true_and]; exact hv)
/-- a if t else b -/
theorem evc_if {p : Bool → Prop} (hc : EvT M tt Γ p) (h1 : p true → EvC M ta Γ c) (h2 : p false → EvC M tb Γ c) : EvC M (tIf tt ta tb) Γ c := fun B O0 O σ H E Q q => hc B O0 O σ H E _ fun x O1 H1 s hx => by
  have k : ∀ {v O2 H2}, Stp M O1 H1 O2 H2 → CH c O1 O2 H2 v → CH c O O2 H2 v := fun {v O2 H2} s2 h => by
    cases c with
    | un => trivial
    | val d => exact h
    | own S =>
      obtain ⟨fp, h1, h2⟩ := h
      exact ⟨fp, h1, fun a ha => ⟨(h2 a ha).1, fun z => (h2 a ha).2 (s.up a z)⟩⟩
  cases x with
  | true =>
    rw [if_pos rfl]
    exact h1 hx B O0 O1 σ H1 (E.step s) _ fun v O2 H2 s2 hv => q v O2 H2 (s.trans s2) (k s2 hv)
  | false =>
    rw [if_neg Bool.false_ne_true]
    exact h2 hx B O0 O1 σ H1 (E.step s) _ fun v O2 H2 s2 hv => q v O2 H2 (s.trans s2) (k s2 hv)
theorem ev_if {p : Bool → Prop} (hc : EvT M tt Γ p) (h1 : p true → Ev M ta Γ d) (h2 : p false → Ev M tb Γ d) : Ev M (tIf tt ta tb) Γ d := evc_if (c := .val d) hc h1 h2
/-! ### displays -/
theorem ev_tup {ps : List Pd} (h : EvA M tr Γ ps) (hz : ps.length ≤ sizeLine) : Ev M (tTup tr) Γ (tupP K ps) := fun B O0 O σ H E Q q => h B O0 O σ H E _ fun vs O1 H1 s hvs => by
  refine ⟨by rw [← Paired.length hvs]; exact hz, fun p hp => ?_⟩
  obtain ⟨s2, sm, hw⟩ := pd_new E s (ob := .tup vs) hp
  exact q _ O1 _ s2 ⟨p, vs, rfl, SqT.of hw, hvs.same sm⟩
theorem ev_tupD (h : EvA M tr Γ (ds.map (dP K))) (hz : ds.length ≤ sizeLine) : Ev M (tTup tr) Γ (dP K (.tuple ds)) := (ev_tup (K := K) h (by rw [List.length_map]; exact hz)).mono fun F v hv => d_tupP hv
theorem evc_lst (h : EvA M tr Γ (ds.map (dP K))) (hz : ds.length ≤ sizeLine) : EvC M (tLst tr) Γ (.own (ownL K ds)) := fun B O0 O σ H E Q q => h B O0 O σ H E _ fun vs O1 H1 s hvs => by
  have hd := of_hs hvs
  refine ⟨by rw [hd.length]; exact hz, fun p hp => ?_⟩
  obtain ⟨s2, hc⟩ := ch_new E s hd hp
  exact q _ _ _ s2 hc
/-! ### built-ins -/
def CallJ (M : Option Addr) (r : List V → Hp → VK → Prop) (js : List (VJ M)) (c : Slt) : Prop := ∀ B O0 O Γ σ H vs, Sta M B O0 O Γ σ H → Paired (fun (j : VJ M) v => j.h O H v) js vs → ∀ Q : VK, (∀ v O1 H1, Stp M O H O1 H1 → CH c O O1 H1 v → Q v H1) → r vs H Q
theorem evc_cb {r : List V → Hp → VK → Prop} (ha : EvJs M tr Γ js) (hr : CallJ M r js c) : EvC M (tCB r tr) Γ c := fun B O0 O σ H E Q q => ha B O0 O σ H E _ fun vs O1 H1 s hvs =>
  hr B O0 O1 Γ σ H1 vs (E.step s) hvs _ fun v O2 H2 s2 hv => q v O2 H2 (s.trans s2) (by
    cases c with
    | un => trivial
    | val d => exact hv
    | own S =>
      obtain ⟨fp, h1, h2⟩ := hv
      exact ⟨fp, h1, fun a ha => ⟨(h2 a ha).1, fun z => (h2 a ha).2 (s.up a z)⟩⟩)
theorem ev_cb {r : List V → Hp → VK → Prop} (ha : EvJs M tr Γ js) (hr : CallJ M r js (.val d)) : Ev M (tCB r tr) Γ d := evc_cb (c := .val d) ha hr
theorem one_of {F : VJ M → V → Prop} {vs : List V} (h : Paired F [j] vs) : ∃ v, vs = [v] ∧ F j v := by
  cases h with
  | cons h t => cases t; exact ⟨_, rfl, h⟩
theorem two_of {F : VJ M → V → Prop} {vs : List V} (h : Paired F [j1, j2] vs) : ∃ v w, vs = [v, w] ∧ F j1 v ∧ F j2 w := by
  cases h with
  | cons h t =>
    cases t with
    | cons h2 t => cases t; exact ⟨_, _, rfl, h, h2⟩
theorem cj_len : CallJ M (fun xs H Q => ∃ x n, xs = [x] ∧ LenV K x H n ∧ Q (.int n) H) [jq K sk ds] (.val (dP K (.int ds.length))) := fun B O0 O Γ σ H vs E hvs Q q => by
  obtain ⟨v, rfl, a, xs, rfl, h1, h2⟩ := one_of hvs
  refine ⟨_, ds.length, rfl, ?_, q _ O H E.refl (.int _)⟩
  rcases h1.any with z | z
  · exact .inl ⟨xs, z, h2.length.symm⟩
  · exact .inr ⟨xs, z, h2.length.symm⟩
theorem cj_lenS {z : Str} (hz : z.length ≤ sizeLine) : CallJ M (fun xs H Q => ∃ x n, xs = [x] ∧ LenV K x H n ∧ Q (.int n) H) [jD K (.str z)] (.val (dP K (.int z.length))) := fun B O0 O Γ σ H vs E hvs Q q => by
  obtain ⟨v, rfl, h⟩ := one_of hvs
  cases Sta.jstr h
  exact ⟨_, z.length, rfl, ⟨hz, rfl⟩, q _ O H E.refl (.int _)⟩
theorem cj_all {bs : List Bool} : CallJ M (rAll K) [jq K .l (bs.map PyData.bool)] (.val (dP K (.bool (bs.all id)))) := fun B O0 O Γ σ H vs E hvs Q q => by
  obtain ⟨v, rfl, a, xs, rfl, h1, h2⟩ := one_of hvs
  refine ⟨a, bs, rfl, ?_, q _ O H E.refl (.bl _)⟩
  rw [← dpAll_bools h2]
  exact Same.seq ws_sub h1
theorem cj_any {bs : List Bool} : CallJ M (rAny K) [jq K .l (bs.map PyData.bool)] (.val (dP K (.bool (bs.any id)))) := fun B O0 O Γ σ H vs E hvs Q q => by
  obtain ⟨v, rfl, a, xs, rfl, h1, h2⟩ := one_of hvs
  refine ⟨a, bs, rfl, ?_, q _ O H E.refl (.bl _)⟩
  rw [← dpAll_bools h2]
  exact Same.seq ws_sub h1
theorem cj_sum {ns : List Int} : CallJ M (rSum K) [jq K .l (ns.map PyData.int)] (.val (dP K (.int ns.sum))) := fun B O0 O Γ σ H vs E hvs Q q => by
  obtain ⟨v, rfl, a, xs, rfl, h1, h2⟩ := one_of hvs
  refine ⟨a, ns, rfl, ?_, q _ O H E.refl (.int _)⟩
  rw [← dpAll_ints h2]
  exact Same.seq ws_sub h1
theorem cj_min {ns : List Int} {m : Int} (hm : m ∈ ns) (hl : ∀ y ∈ ns, m ≤ y) : CallJ M (rMin K) [jq K .l (ns.map PyData.int)] (.val (dP K (.int m))) := fun B O0 O Γ σ H vs E hvs Q q => by
  obtain ⟨v, rfl, a, xs, rfl, h1, h2⟩ := one_of hvs
  refine ⟨a, ns, rfl, ?_, List.length_pos_of_mem hm, fun m' h3 h4 => ?_⟩
  · rw [← dpAll_ints h2]
    exact Same.seq ws_sub h1
  · have e : m' = m := Int.le_antisymm (h4 m hm) (hl m' h3)
    subst e
    exact q _ O H E.refl (.int _)
theorem cj_min2 {i k : Int} : CallJ M (fun xs H Q => ∃ i j, xs = [.int i, .int j] ∧ Q (.int (if j < i then j else i)) H) [jD K (.int i), jD K (.int k)] (.val (dP K (.int (if k < i then k else i)))) := fun B O0 O Γ σ H vs E hvs Q q => by
  obtain ⟨v, w, rfl, h1, h2⟩ := two_of hvs
  cases Sta.jint h1; cases Sta.jint h2
  exact ⟨i, k, rfl, q _ O H E.refl (.int _)⟩
theorem cj_list : CallJ M (fun xs H Q => ∃ p ys, xs = [.ref p] ∧ (SqL K H p ys ∨ SqT K H p ys) ∧ ∀ l, H l = none → Q (.ref l) (upd H l (.lst ys))) [jq K sk ds] (.own (ownL K ds)) := fun B O0 O Γ σ H vs E hvs Q q => by
  obtain ⟨v, rfl, a, xs, rfl, h1, h2⟩ := one_of hvs
  refine ⟨a, xs, rfl, h1.any, fun l hl => ?_⟩
  obtain ⟨s2, hc⟩ := ch_new E E.refl h2 hl
  exact q _ _ _ s2 hc
theorem cj_tuple : CallJ M (fun xs H Q => ∃ p ys, xs = [.ref p] ∧ ((SqL K H p ys ∧ ∀ l, H l = none → Q (.ref l) (upd H l (.tup ys))) ∨ (SqT K H p ys ∧ Q (.ref p) H))) [jq K sk ds] (.val (dP K (.tuple ds))) := fun B O0 O Γ σ H vs E hvs Q q => by
  obtain ⟨v, rfl, a, xs, rfl, h1, h2⟩ := one_of hvs
  rcases h1.jany with z | z
  · refine ⟨a, xs, rfl, .inl ⟨Same.seq ws_sub z, fun l hl => ?_⟩⟩
    obtain ⟨s2, sm, hw⟩ := pd_new E E.refl (ob := .tup xs) hl
    exact q _ _ _ s2 (.tup (SqT.of hw) (dpAll_same sm _ _ h2))
  · exact ⟨a, xs, rfl, .inr ⟨sqT_same wo_sub z, q _ O H E.refl (.tup z h2)⟩⟩
/-- isinstance -/
def tyN : PyData → String
  | .none => "NoneType"
  | .bool _ => "bool"
  | .int _ => "int"
  | .str _ => "str"
  | .list _ => "list"
  | .tuple _ => "tuple"
  | .dict _ => "dict"
theorem tyx_of {F : Hp} {v : V} {x : PyData} (h : Dp K F v x) : TyX K F v (.type (tyN x)) := by
  cases h with
  | non => exact .base .non
  | bl b => exact .base (.bl b)
  | int i => exact .base (.int i)
  | str z => exact .base (.str z)
  | lst h1 h2 =>
    rcases h1 with (h | ⟨o, h⟩) | ⟨o, its, n, hk, hc, _⟩
    · exact .base (.lst h)
    · exact .base (.frz h)
    · exact .kList hk hc
  | tup h1 h2 =>
    rcases h1 with (h | ⟨o, h⟩) | ⟨o, its, n, hk, hc, _⟩
    · exact .base (.tup h)
    · exact .fTuple h
    · exact .kTuple hk hc
end
end TPE
end
section
set_option maxHeartbeats 4000000
namespace TPE
open PySem PySem.Spec PyProof.Rows L2 TPI RT

section
variable [Tb] {M : Option Addr} {K : PySem.W.Frag} {Γ Γ' Γ'' : List Slt} {t ta tb tc to ti te : TE} {tr : TA} {d da db : Pd} {c : Slt} {sk : Sk} {ds es : List PyData} {j j1 j2 : VJ M} {js : List (VJ M)} {P : Po} {ts tu : TS} {wi : TI} {g : TG} {gs : TGs} {vs : List Nat} {n : Nat} {it : Nat → Pd} {tt tv : TT} {b b' : Bool}
theorem cj_isi {x : PyData} {C : String} (h : kitB (tyN x) C = some b) : CallJ M (rIsi K) [jD K x, jd (cP (.ty C))] (.val (dP K (.bool b))) := fun B O0 O Γ σ H vs E hvs Q q => by
  obtain ⟨v, w, rfl, h1, h2⟩ := two_of hvs
  have h2 : w = .ty C := h2
  subst h2
  exact ⟨v, _, _, _, b, rfl, .ty C, tyx_of (toD_d _ _ _ h1), kit_ty h, q _ O H E.refl (.bl _)⟩
/-- a tuple that was just laid -/
def tupN (cs : List V) : Pd := ⟨fun H v => ∃ a, v = .ref a ∧ H a = some (.tup cs), fun e ⟨a, h1, h2⟩ => ⟨a, h1, e _ _ h2⟩⟩
theorem hs_c {F : Hp} : ∀ {cs vs : List V}, Hs F (cs.map cP) vs → vs = cs
  | [], _, h => by cases h; rfl
  | c :: cs, _, h => by
    cases h with
    | cons h t =>
      have h : _ = c := h
      rw [h, hs_c t]
theorem ev_tupN {cs : List V} (h : EvA M tr Γ (cs.map cP)) (hz : cs.length ≤ sizeLine) : Ev M (tTup tr) Γ (tupN cs) := fun B O0 O σ H E Q q => h B O0 O σ H E _ fun vs O1 H1 s hvs => by
  have e := hs_c hvs
  subst e
  refine ⟨hz, fun p hp => ?_⟩
  obtain ⟨s2, sm, hw⟩ := pd_new E s (ob := .tup vs) hp
  exact q _ O1 _ s2 ⟨p, rfl, hw⟩
theorem cj_isiT {x : PyData} {Cs : List String} (h : PySem.W.kitAny K (.type (tyN x)) (Cs.map Value.type) = some b) : CallJ M (rIsiT K) [jD K x, jd (tupN (Cs.map V.ty))] (.val (dP K (.bool b))) := fun B O0 O Γ σ H vs E hvs Q q => by
  obtain ⟨v, w, rfl, h1, a, rfl, h2⟩ := two_of hvs
  have hC : ∀ Cs : List String, Paired ClsV (Cs.map V.ty) (Cs.map Value.type) := fun Cs => by
    induction Cs with
    | nil => exact .nil
    | cons C Cs ih => exact .cons (.ty C) ih
  exact ⟨v, a, _, _, _, b, rfl, wo_sub _ _ h2, hC Cs, tyx_of (toD_d _ _ _ h1), h, q _ O H E.refl (.bl _)⟩
/-- sorted(list of ints) -/
theorem cj_sorted {ns out : List Int} (hp : out.Perm ns) (hs : out.Pairwise (· ≤ ·)) (hz : ns.length < 64) : CallJ M (rSorted K) [jq K .l (ns.map PyData.int)] (.own (ownL K (out.map PyData.int))) := fun B O0 O Γ σ H vs E hvs Q q => by
  obtain ⟨v, rfl, a, xs, rfl, h1, h2⟩ := one_of hvs
  refine ⟨a, ns, rfl, ?_, hz, fun ns' p h3 h4 hl => ?_⟩
  · rw [← dpAll_ints h2]
    exact Same.seq ws_sub h1
  · have e : ns' = out := List.Perm.eq_of_pairwise (fun x y _ _ h5 h6 => Int.le_antisymm h5 h6) h4 hs (h3.trans hp.symm)
    subst e
    obtain ⟨s2, hc⟩ := ch_new E E.refl (K := K) (vs := ns'.map V.int) (ds := ns'.map PyData.int) ints_dpAll hl
    exact q _ _ _ s2 hc
/-! ### iterators -/
/-- d may be walked: ds its items -/
def ItD (K : PySem.W.Frag) (d : Pd) (ds : List PyData) : Prop := ∀ F v, d.hold F v → ∃ S : Src, v = S.v ∧ S.ok K F ∧ DpAll K F S.its ds
theorem itd_l : ItD K (dP K (.list ds)) ds := fun F v h => by
  have h : Dp K F v (.list ds) := h
  cases h with
  | lst h1 h2 => exact ⟨.l _ _, rfl, h1, h2⟩
theorem itd_t : ItD K (dP K (.tuple ds)) ds := fun F v h => by
  have h : Dp K F v (.tuple ds) := h
  cases h with
  | tup h1 h2 => exact ⟨.t _ _, rfl, h1, h2⟩
theorem itd_q : ItD K (sqP K sk ds) ds := fun F v ⟨a, vs, h1, h2, h3⟩ => by
  rcases h2.any with z | z
  · exact ⟨.l a vs, h1, z, h3⟩
  · exact ⟨.t a vs, h1, z, h3⟩
/-- the signs of a text -/
def sgn (z : Str) : List PyData := z.cps.toList.map fun c => .str ⟨#[c]⟩
theorem itd_s {z : Str} : ItD K (dP K (.str z)) (sgn z) := fun F v h => by
  have h : Dp K F v (.str z) := h
  cases h
  refine ⟨.s z, rfl, trivial, ?_⟩
  show DpAll K F (z.cps.toList.map fun c => .str ⟨#[c]⟩) (z.cps.toList.map fun c => .str ⟨#[c]⟩)
  induction z.cps.toList with
  | nil => exact .nil
  | cons c cs ih => exact .cons (.str _) ih
theorem Wk.of {J : It} {G : Hp → Prop} {Y : Nat → Hp → V → Hp → Prop} {F : Hp} (w : Walk J n G Y) (hG : ∀ H, Same F H → G H)
    (hY : ∀ i H x H', i < n → Same F H → Y i H x H' → Same H H' ∧ ∀ O : Addr → Prop, (∀ a, O a → H a ≠ none) → Same F (wo H O) → (it i).hold (wo H' O) x) : Wk J n it F :=
  ⟨fun i H hi e => w.goes i H hi (hG H e), fun H e => w.stops H (hG H e), fun i H x H' hi e y => hY i H x H' hi e (w.yields i H x H' hi (hG H e) y)⟩
theorem getD_dp {F : Hp} {vs : List V} {i : Nat} {x : V} (h : DpAll K F vs ds) (e : vs[i]? = some x) : Dp K F x (ds.getD i .none) := by
  obtain ⟨d, h1, h2⟩ := h.getV e
  rw [List.getD_eq_getElem?_getD, h1]
  exact h2
theorem evi_src (h : Ev M te Γ d) (hd : ItD K d ds) : EvI M (iSrc K te) Γ ds.length (fun i => dP K (ds.getD i .none)) := fun B O0 O σ H E Q q => h B O0 O σ H E _ fun v O1 H1 s hv => by
  obtain ⟨S, h1, h2, h3⟩ := hd _ _ hv
  refine ⟨S, h1, Src.same h2 wo_sub, q _ O1 H1 s ?_⟩
  rw [← h3.length]
  refine Wk.of walkS (fun H e => Src.same h2 e) fun i H x H' hi e y => ?_
  obtain ⟨rfl, y⟩ := y
  exact ⟨.refl _, fun O hO e' => dp_same e' _ _ (getD_dp h3 y)⟩
/-- a new pair -/
theorem ypair {F H H' : Hp} {x : V} {p : PyData} {f1 f2 : Nat → Option V} {i : Nat} (hp : ∀ a b, f1 i = some a → f2 i = some b → ∃ p1 p2, p = .tuple [p1, p2] ∧ Dp K F a p1 ∧ Dp K F b p2)
    (y : YPair f1 f2 i H x H') : Same H H' ∧ ∀ O : Addr → Prop, (∀ a, O a → H a ≠ none) → Same F (wo H O) → (dP K p).hold (wo H' O) x := by
  obtain ⟨T, a, b, rfl, hT, rfl, e1, e2⟩ := y
  obtain ⟨p1, p2, rfl, h1, h2⟩ := hp a b e1 e2
  refine ⟨fun c o h => by rw [upd_ne (ne_of_none h hT)]; exact h, fun O hO e => ?_⟩
  have sm : Same F (wo (upd H T (.tup [a, b])) O) := fun c o h => by
    obtain ⟨q1, q2⟩ := wo_some (e c o h)
    rw [wo_out q1, upd_ne (ne_of_none q2 hT)]
    exact q2
  refine .tup (xs := [a, b]) (SqT.of ?_) (.cons (dp_same sm _ _ h1) (.cons (dp_same sm _ _ h2) .nil))
  rw [wo_out fun z => hO T z hT]
  exact upd_same
theorem evi_enum (h : Ev M te Γ d) (hd : ItD K d ds) {k0 : Int} : EvI M (iEn K (tCons te tNil) k0) Γ ds.length (fun i => dP K (.tuple [.int (k0 + (i : Nat)), ds.getD i .none])) := fun B O0 O σ H E Q q => h B O0 O σ H E _ fun v O1 H1 s hv => by
  obtain ⟨S, h1, h2, h3⟩ := hd _ _ hv
  refine ⟨S, by rw [h1], Src.same h2 wo_sub, q _ O1 H1 s ?_⟩
  rw [← h3.length]
  refine Wk.of walkE (fun H e => Src.same h2 e) fun i H x H' hi e y => ypair (fun a b e1 e2 => ?_) y
  cases e1
  exact ⟨_, _, rfl, .int _, getD_dp h3 e2⟩
theorem evi_zip {d1 d2 : Pd} {ds1 ds2 : List PyData} {st : Bool} (h : EvA M tr Γ [d1, d2]) (hd1 : ItD K d1 ds1) (hd2 : ItD K d2 ds2) (hst : st = true → ds1.length = ds2.length) :
    EvI M (iZ K st (aSrc2 K st tr)) Γ (min ds1.length ds2.length) (fun i => dP K (.tuple [ds1.getD i .none, ds2.getD i .none])) := fun B O0 O σ H E Q q => h B O0 O σ H E _ fun vs O1 H1 s hvs => by
  cases hvs with
  | cons ha t =>
    cases t with
    | cons hb t =>
      cases t
      obtain ⟨S1, h1, h2, h3⟩ := hd1 _ _ ha
      obtain ⟨S2, h4, h5, h6⟩ := hd2 _ _ hb
      refine ⟨S1, S2, by rw [h1, h4], Src.same h2 wo_sub, Src.same h5 wo_sub, q _ O1 H1 s ?_⟩
      rw [← h3.length, ← h6.length] at *
      refine Wk.of (walkZ hst) (fun H e => ⟨Src.same h2 e, Src.same h5 e⟩) fun i H x H' hi e y => ypair (fun a b e1 e2 => ?_) y
      exact ⟨_, _, rfl, getD_dp h3 e1, getD_dp h6 e2⟩
theorem evi_enumZ {d1 d2 : Pd} {ds1 ds2 : List PyData} {st : Bool} {k0 : Int} (h : EvA M tr Γ [d1, d2]) (hd1 : ItD K d1 ds1) (hd2 : ItD K d2 ds2) (hst : st = true → ds1.length = ds2.length) :
    EvI M (iEZ K st k0 (aSrc2 K st tr)) Γ (min ds1.length ds2.length) (fun i => dP K (.tuple [.int (k0 + (i : Nat)), .tuple [ds1.getD i .none, ds2.getD i .none]])) := fun B O0 O σ H E Q q => h B O0 O σ H E _ fun vs O1 H1 s hvs => by
  cases hvs with
  | cons ha t =>
    cases t with
    | cons hb t =>
      cases t
      obtain ⟨S1, h1, h2, h3⟩ := hd1 _ _ ha
      obtain ⟨S2, h4, h5, h6⟩ := hd2 _ _ hb
      refine ⟨S1, S2, by rw [h1, h4], Src.same h2 wo_sub, Src.same h5 wo_sub, q _ O1 H1 s ?_⟩
      rw [← h3.length, ← h6.length] at *
      refine Wk.of (walkEZ hst) (fun H e => ⟨Src.same h2 e, Src.same h5 e⟩) fun i H x H' hi e y => ?_
      obtain ⟨T, T', a, b, rfl, hTT, hT, hT', rfl, e1, e2⟩ := y
      have n1 : ∀ {c : Addr} {o : HO}, H c = some o → upd (upd H T' (.tup [.int (k0 + (i : Nat)), .ref T])) T (.tup [a, b]) c = some o := fun {c o} h => by
        rw [upd_ne (ne_of_none h hT), upd_ne (ne_of_none h hT')]; exact h
      refine ⟨fun c o h => n1 h, fun O hO e' => ?_⟩
      have sm : Same (wo H1 O1) (wo (upd (upd H T' (.tup [.int (k0 + (i : Nat)), .ref T])) T (.tup [a, b])) O) := fun c o h => by
        obtain ⟨q1, q2⟩ := wo_some (e' c o h)
        rw [wo_out q1]
        exact n1 q2
      refine .tup (xs := [.int (k0 + (i : Nat)), .ref T]) (SqT.of ?_) (.cons (.int _) (.cons (.tup (xs := [a, b]) (SqT.of ?_) (.cons (dp_same sm _ _ (getD_dp h3 e1)) (.cons (dp_same sm _ _ (getD_dp h6 e2)) .nil))) .nil))
      · rw [wo_out fun z => hO T' z hT', upd_ne (Ne.symm hTT)]
        exact upd_same
      · rw [wo_out fun z => hO T z hT]
        exact upd_same
theorem evi_range1 {k : Int} (h : Ev M te Γ (dP K (.int k))) (h1 : -(2 ^ 62) ≤ k) (h2 : k < 2 ^ 62) : EvI M (iRng1 (tCons te tNil)) Γ k.toNat (fun i => dP K (.int (i : Nat))) := fun B O0 O σ H E Q q => h B O0 O σ H E _ fun v O1 H1 s hv => by
  have hv : Dp K (wo H1 O1) v (.int k) := hv
  cases hv
  refine ⟨k, rfl, h1, h2, q _ O1 H1 s ?_⟩
  refine Wk.of walk_range (fun H e => trivial) fun i H x H' hi e y => ?_
  obtain ⟨rfl, rfl⟩ := y
  refine ⟨.refl _, fun O hO e' => ?_⟩
  show Dp K _ (.int (0 + (i : Nat))) (.int (i : Nat))
  rw [Int.zero_add]
  exact .int _
theorem rev_dp {F : Hp} {xs : List V} {i : Nat} {x : V} (h : DpAll K F xs ds) (hi : i < xs.length) (e : xs[xs.length - 1 - i]? = some x) : Dp K F x (ds.reverse.getD i .none) := by
  refine getD_dp h.reverse ?_
  rw [List.getElem?_reverse hi]
  exact e
theorem evi_rev (h : Ev M te Γ (sqP K sk ds)) : EvI M (iRevA K te) Γ ds.length (fun i => dP K (ds.reverse.getD i .none)) := fun B O0 O σ H E Q q => h B O0 O σ H E _ fun v O1 H1 s hv => by
  obtain ⟨a, xs, h1, h2, h3⟩ := hv
  rcases h2.any with z | z
  · refine ⟨a, xs, h1, .inl ⟨Same.seq wo_sub z, q _ O1 H1 s ?_⟩⟩
    rw [← h3.length]
    refine Wk.of walk_rev (fun H e => Same.seq e z) fun i H x H' hi e y => ?_
    obtain ⟨rfl, y⟩ := y
    exact ⟨.refl _, fun O hO e' => dp_same e' _ _ (rev_dp h3 hi y)⟩
  · refine ⟨a, xs, h1, .inr ⟨sqT_same wo_sub z, q _ O1 H1 s ?_⟩⟩
    rw [← h3.length]
    refine Wk.of (G := fun H => SqT K H a xs) (Y := fun i H x H' => H' = H ∧ xs[xs.length - 1 - i]? = some x) ⟨fun i H hi q => ⟨hi, xs, xs[xs.length - 1 - i]'(by omega), q, by simp [show xs.length - 1 - i < xs.length by omega]⟩, fun _ _ => Nat.le_refl _, fun _ _ _ _ _ q y => ⟨y.1, y.2 xs q⟩⟩ (fun H e => sqT_same e z) fun i H x H' hi e y => ?_
    obtain ⟨rfl, y⟩ := y
    exact ⟨.refl _, fun O hO e' => dp_same e' _ _ (rev_dp h3 hi y)⟩
/-! ### slices -/
def EvO (M : Option Addr) (t : TO) (Γ : List Slt) (o : Option Int) : Prop := ∀ B O0 O σ H, Sta M B O0 O Γ σ H → ∀ Q : Option Int → Hp → Prop, (∀ O1 H1, Stp M O H O1 H1 → Q o H1) → t σ H Q
theorem evo_none : EvO M tNoPart Γ none := fun B O0 O σ H E Q q => q O H E.refl
theorem evo_some {i : Int} (h : Ev M te Γ (dP K (.int i))) : EvO M (tPart te) Γ (some i) := fun B O0 O σ H E Q q => h B O0 O σ H E _ fun v O1 H1 s hv => by
  have hv : Dp K (wo H1 O1) v (.int i) := hv
  cases hv
  exact ⟨i, rfl, q O1 H1 s⟩
def cutD {α : Type} (xs : List α) (lo hi : Option Int) : List α := (xs.drop (HT.sIx xs.length 0 lo)).take (HT.sIx xs.length xs.length hi - HT.sIx xs.length 0 lo)
theorem cut_dp {F : Hp} {xs : List V} (h : DpAll K F xs ds) (lo hi : Option Int) : DpAll K F (cutV xs lo hi) (cutD ds lo hi) := by
  unfold cutV cutD
  rw [h.length]
  exact (h.drop _).take _
def SlJ (M : Option Addr) (r : V → Option Int → Option Int → Hp → VK → Prop) (j : VJ M) (lo hi : Option Int) (c : Slt) : Prop := ∀ B O0 O Γ σ H x, Sta M B O0 O Γ σ H → j.h O H x → ∀ Q : VK, (∀ v O1 H1, Stp M O H O1 H1 → CH c O O1 H1 v → Q v H1) → r x lo hi H Q
theorem evc_sl {r : V → Option Int → Option Int → Hp → VK → Prop} {tl th : TO} {lo hi : Option Int} (h : EvJ M te Γ j) (hl : EvO M tl Γ lo) (hh : EvO M th Γ hi) (hr : SlJ M r j lo hi c) : EvC M (tSl r te tl th) Γ c := fun B O0 O σ H E Q q => by
  refine h B O0 O σ H E _ fun x O1 H1 s hx => hl B O0 O1 σ H1 (E.step s) _ fun O2 H2 s2 => hh B O0 O2 σ H2 ((E.step s).step s2) _ fun O3 H3 s3 => ?_
  refine hr B O0 O3 Γ σ H3 x (((E.step s).step s2).step s3) (j.st (s2.trans s3) hx) _ fun v O4 H4 s4 hv => q v O4 H4 (((s.trans s2).trans s3).trans s4) ?_
  cases c with
  | un => trivial
  | val d => exact hv
  | own S =>
    obtain ⟨fp, h1, h2⟩ := hv
    exact ⟨fp, h1, fun a ha => ⟨(h2 a ha).1, fun z => (h2 a ha).2 (s3.up a (s2.up a (s.up a z)))⟩⟩
theorem sj_l {lo hi : Option Int} : SlJ M (rSlL K) (jq K .l ds) lo hi (.own (ownL K (cutD ds lo hi))) := fun B O0 O Γ σ H x E hx Q q => by
  obtain ⟨a, xs, rfl, h1, h2⟩ := hx
  refine ⟨a, xs, rfl, Same.seq ws_sub h1, fun p hp => ?_⟩
  obtain ⟨s2, hc⟩ := ch_new E E.refl (cut_dp h2 lo hi) hp
  exact q _ _ _ s2 hc
theorem cut_all {α : Type} {xs : List α} {lo hi : Option Int} (h : HT.sIx xs.length 0 lo = 0 ∧ HT.sIx xs.length xs.length hi = xs.length) : cutD xs lo hi = xs := by
  unfold cutD
  rw [h.1, h.2, List.drop_zero, Nat.sub_zero, List.take_length]
theorem sj_t {lo hi : Option Int} : SlJ M (rSlA K) (jD K (.tuple ds)) lo hi (.val (dP K (.tuple (cutD ds lo hi)))) := fun B O0 O Γ σ H x E hx Q q => by
  have hx : Dp K (wo H O) x (.tuple ds) := hx
  cases hx with
  | @tup a xs _ h1 h2 =>
    refine ⟨a, xs, rfl, sqT_same wo_sub h1, fun e => ?_, fun e p hp => ?_⟩
    · rw [h2.length] at e
      refine q _ O H E.refl ?_
      rw [cut_all e]
      exact .tup h1 h2
    · obtain ⟨s2, sm, hw⟩ := pd_new E E.refl (ob := .tup (cutV xs lo hi)) hp
      exact q _ O _ s2 (.tup (SqT.of hw) (dpAll_same sm _ _ (cut_dp h2 lo hi)))
/-! ### a def's body -/
def Gam (N : List Str) (ds : List Pd) : List Slt := ds.map Slt.val ++ List.replicate (N.length - ds.length) .un
theorem Gam.get {N : List Str} {ds : List Pd} {vs : List V} {F : Hp} (h : Hs F ds vs) {i : Nat} {d : Pd} (e : (Gam N ds)[i]? = some (.val d)) : ∃ v, (L2.start N vs)[i]? = some (some v) ∧ d.hold F v := by
  unfold Gam L2.start at *
  have hl : ds.length = vs.length := Paired.length h
  by_cases hi : i < ds.length
  · rw [List.getElem?_append_left (by rw [List.length_map]; exact hi)] at e
    rw [List.getElem?_append_left (by rw [List.length_map, ← hl]; exact hi)]
    clear hl hi
    induction h generalizing i with
    | nil => simp at e
    | cons h t ih =>
      cases i with
      | zero => simp at e; subst e; exact ⟨_, by simp, h⟩
      | succ i =>
        obtain ⟨v, h1, h2⟩ := ih (i := i) (by simpa using e)
        exact ⟨v, by simpa using h1, h2⟩
  · rw [List.getElem?_append_right (by rw [List.length_map]; omega), List.getElem?_replicate] at e
    split at e <;> cases e
theorem Gam.noown {N : List Str} {ds : List Pd} {i : Nat} {S : OP} (e : (Gam N ds)[i]? = some (.own S)) : False := by
  unfold Gam at e
  have := List.mem_of_getElem? e
  rcases List.mem_append.mp this with z | z
  · obtain ⟨d, _, z⟩ := List.mem_map.mp z
    cases z
  · have := List.eq_of_mem_replicate z
    cases this
def Sub (d d' : Pd) : Prop := ∀ F v, d.hold F v → d'.hold F v
theorem Sub.refl (d : Pd) : Sub d d := fun _ _ h => h
theorem SpF.len {g : Option Addr → List Pd → Pd → Prop} {k : Nat} (hk : ∀ M ds d, g M ds d → ds.length = k) {vs : List V} {H : Hp} {Q : VK} {E : XK} (h : SpF g vs H Q E) : vs.length = k := by
  obtain ⟨M, O, ds, d, hg, hs, _⟩ := h
  exact (Paired.length hs).symm.trans (hk M ds d hg)
/-- what a body is to give -/
def PoR (d : Pd) : Po := { nx := fun _ => ∀ F, d.hold F .non, rt := fun d' => Sub d' d }
theorem body_of {g : Option Addr → List Pd → Pd → Prop} {N : List Str} {ts : TS} (hb : ∀ M ds d, g M ds d → ds.length ≤ N.length ∧ Ds M ts (Gam N ds) (PoR d)) {vs : List V} {H : Hp} {Q : VK} {E : XK} (h : SpF g vs H Q E) :
    ts { nx := fun _ H' => Q .non H', rt := Q } (L2.start N vs) H := by
  obtain ⟨M, O, ds, d, hg, hs, hO, hM, q⟩ := h
  obtain ⟨hl, hd⟩ := hb M ds d hg
  have hl' : ds.length = vs.length := Paired.length hs
  have E0 : Sta M H O O (Gam N ds) (L2.start N vs) H := by
    refine ⟨by unfold Gam L2.start; simp [hl'], fun a o _ h => h, hM, fun a h => h, hO, fun a h => .inl h, fun i d e => Gam.get hs e, fun _ => [], fun i S e => (Gam.noown e).elim, fun i j S S' _ e => (Gam.noown e).elim⟩
  refine hd H O O _ H E0 _ ⟨fun Γ σ H' O' hx E' => ?_, fun d' v H' hx h1 h2 h3 => ?_, fun _ _ _ _ z => z.elim, fun _ _ _ _ z => z.elim⟩
  · exact q .non H' ⟨E'.base, fun s e _ => (E'.src s e).1⟩ (hx _)
  · exact q v H' ⟨h1, fun s e _ => h2 s e⟩ (hx _ _ h3)
end
end TPE
end
section
set_option maxHeartbeats 4000000
/-! rules that the layer lacks -/
namespace TPE
open PySem PySem.Spec PyProof.Rows L2 HT

section
variable {X : Cx}
/-! ### list + list: any lists that may be read -/
def rCatL (K : PySem.W.Frag) : R2 := fun x y H Q => ∃ l b xs zs, x = .ref l ∧ y = .ref b ∧ SqL K H l xs ∧ SqL K H b zs ∧ xs.length + zs.length ≤ sizeLine ∧ ∀ p, H p = none → Q (.ref p) (upd H p (.lst (xs ++ zs)))
theorem op_catL : OpR X (binaryOp .Add) (rCatL X.K) := by
  intro pins s σ H x y v u Q I rx ry h
  obtain ⟨l, b, xs, zs, rfl, rfl, hH, hB, hz, q⟩ := h
  cases rx
  cases ry
  obtain ⟨its, r, p1, z1⟩ := I.list hH
  obtain ⟨its2, r2, p2, z2⟩ := I.list hB
  have e1 := r.length
  have e2 := r2.length
  obtain ⟨⟨cls, dd, data, sl⟩, ho, hc, n, hd⟩ := p1.isList
  obtain ⟨⟨cls2, dd2, data2, sl2⟩, ho2, hc2, n2, hd2⟩ := p2.isList
  simp only at hc hd hc2 hd2
  subst hc hd hc2 hd2
  have ea : its.toArray ++ its2.toArray = (its ++ its2).toArray := by simp
  refine concat_meets ⟨_, ho, rfl⟩ ⟨_, ho2, rfl⟩ noFill_list_add seq_list_add PySem.F.slot_list_add PySem.F.entry_list_add (PySem.F.args_list_add_2 _ _)
    (list_addW l b its.toArray its2.toArray n n2 dd dd2 sl sl2 (by rw [List.size_toArray, List.size_toArray]; omega)) ⟨ho, ho2, ?_⟩
  rw [ea]
  exact ⟨.ref _, _, I.lnew (t' := s.toks) (r.append r2) (by rw [List.length_append]; omega), rfl, q _ I.fresh⟩
/-! ### xs[i], for xs[i] op= e (0 ≤ i) -/
def rGetL (K : PySem.W.Frag) : V → V → Hp → VK → Prop := fun x y H Q => ∃ p xs i v, x = .ref p ∧ y = .int i ∧ SqL K H p xs ∧ 0 ≤ i ∧ atI xs i = some v ∧ Q v H
theorem pget_list : PGet X (rGetL X.K) := by
  intro pins s σ H x y v u Q I rx ry h
  obtain ⟨p, xs, i, z, rfl, rfl, hq, h0, he, q⟩ := h
  cases rx
  obtain ⟨t, rfl⟩ := ry
  obtain ⟨its, r, pl, hz⟩ := I.list hq
  obtain ⟨j, h1, h2, h3, h4, h5⟩ := atI_get he
  obtain ⟨w, ew, rw'⟩ := r.get h2
  have hl := r.length
  have hn := line63
  have hj : i.toNat = j := by
    rw [seqIndex_of h0 h5] at h1
    exact Option.some.inj h1
  exact wpAny_getItem_list pl.isList h0 (by omega) (by rw [hj]; simpa using ew) ⟨z, H, I, rw', q⟩
/-! ### sum(t), sorted(t), t a tuple of ints -/
def rSumT (K : PySem.W.Frag) : List V → Hp → VK → Prop := fun vs H Q => ∃ (a : Addr) (ns : List Int), vs = [V.ref a] ∧ SqT K H a (ns.map V.int) ∧ Q (.int ns.sum) H
theorem cr_sumT (hc : X.calm = true) : CallR X (.builtin "sum") (rSumT X.K) := by
  intro pins s σ H vs us Q I r h
  obtain ⟨a, ns, rfl, hs, q⟩ := h
  obtain ⟨its, rv, hl, _⟩ := I.tuple hs
  rw [Vals.ref1 r]
  have hi := rv.ints
  obtain ⟨xs, e⟩ := hi.allInts.items
  have hn : numsOf (intItems xs).toList = ns := by rw [← e]; exact hi.numsOf
  rw [nums_intItems] at hn
  have hl : s.heap.IsTuple a its.toArray := hl
  rw [e] at hl
  refine PySem.W.ktm_sumG (I.ok.hd hc) hl fun h' tk t' hk => ?_
  rw [preSum_eq, List.take_of_length_le (by simp), hn]
  exact ⟨.int _, H, I.kept hk, ⟨_, rfl⟩, q⟩
theorem collect_tup {M : Model} {prog : Program} {w : World} {A : Around} {E : Value → Shared → Prop} {s : Shared} {l : Addr} {vs : List Value} {Q : List Value → Shared → Prop} (hl : IsTup s.heap l vs.toArray)
    (h : Q vs { s with heap := (s.heap.push (seqObj "list" #[] 0)).update s.heap.objs.size (Obj.mapSeq (· ++ vs.toArray)) }) (hsz : vs.length ≤ sizeLine) :
    wpAny (model prog w) A (collect (.ref l)) Q E s := by
  obtain ⟨o, ho, hc, n, hd⟩ := id hl
  unfold collect
  refine wpAny_bind (wpAny_runValue (codeAny_builtin entry_proto_collect' ?_))
  show wpAny _ _ (do again (.builtin "list.__iadd__" ⟨[← newList [], .ref l], []⟩)) _ _ s
  refine wpAny_bind (wpAny_newList (wpAny_pure ⟨Code.quiet_builtin _ (by decide +kernel), codeAny_builtin entry_list_iadd' ?_⟩))
  show wpAny _ _ (Builtin.List.listExtendWith (.ref s.heap.objs.size) (.ref l) (.ref s.heap.objs.size)) _ _ { s with heap := s.heap.push (seqObj "list" #[] 0) }
  unfold Builtin.List.listExtendWith
  have ho' : (s.heap.push (seqObj "list" #[] 0)).get? l = some o := Heap.get?_push_of_some _ ho
  refine wpAny_bind (wpAny_typeOf (T := "tuple") ⟨o, ho', hc⟩ ?_)
  have ht : (Value.type "tuple" == Value.type "tuple") = true := by rfl
  rw [if_pos (by rw [ht]; simp)]
  refine wpAny_bind (listItems_at ho' hd ?_)
  refine wpAny_bind (listItems_at (xs := #[]) (n := 0) (Heap.get?_push_size _ rfl) rfl ?_)
  rw [if_neg (by simp)]
  refine wpAny_bind (listUpdate_at (xs := #[]) (n := 0) (Heap.get?_push_size _ rfl) rfl ?_ (Nat.zero_le _) (by show (#[] ++ vs.toArray).size ≤ sizeLine + 1; simp only [Array.size_append, List.size_toArray, List.length_nil]; omega))
  refine wpAny_pure ?_
  show wpAny (model prog w) A (do
      let o ← load s.heap.objs.size
      match o.data with
      | .seq xs _ => pure xs.toList
      | _ => unsupported "internal:collect") Q E { s with heap := (s.heap.push (seqObj "list" #[] 0)).update s.heap.objs.size (Obj.mapSeq (· ++ vs.toArray)) }
  refine wpAny_bind (wpAny_load (get?_update_seq (Heap.get?_push_size _ rfl) _) ?_)
  show wpAny _ _ (pure ((#[] : Array Value) ++ vs.toArray).toList) Q E _
  rw [show ((#[] : Array Value) ++ vs.toArray).toList = vs by simp]
  exact wpAny_pure h
theorem sorted_tup {prog : Program} {w : World} {A : Around} {E : Value → Shared → Prop} {s : Shared} {l : Addr} {vs : List Value} {ns : List Int} {Q : Value → Shared → Prop} (hl : IsTup s.heap l vs.toArray) (hI : IntsAre vs ns) (h64 : vs.length < 64)
    (h : ∀ (out : Array Value) (ns' : List Int), IntsAre out.toList ns' → ns'.Perm ns → ns'.Pairwise (· ≤ ·) → Q (.ref (s.heap.objs.size + 1)) { s with heap := sortedAll s.heap vs out }) :
    wpAny (model prog w) A (call (.builtin "sorted") [.ref l]) Q E s := by
  refine Calls.call_function_entry kind_sorted plain_sorted entry_sorted (args_sorted1 _) ?_
  unfold Builtin.«sorted»
  refine wpAny_bind (m := checkCount "sorted" 1 1 _) (wpAny_pure ?_)
  refine wpAny_bind (collect_tup (M := model prog w) hl ?_ (small64 h64))
  refine wpAny_bind (wpAny_newList ?_ (by show vs.length ≤ sizeLine; exact small64 h64))
  have hsz : ((s.heap.push (seqObj "list" #[] 0)).update s.heap.objs.size (Obj.mapSeq (· ++ vs.toArray))).objs.size = s.heap.objs.size + 1 := by
    rw [Heap.size_update, size_push']
  have hoL : (((s.heap.push (seqObj "list" #[] 0)).update s.heap.objs.size (Obj.mapSeq (· ++ vs.toArray))).push (seqObj "list" vs.toArray 0)).get? (s.heap.objs.size + 1) = some (seqObj "list" vs.toArray 0) := by
    rw [← hsz]; exact Heap.get?_push_size _ rfl
  show wpAny _ _ _ _ _ { s with heap := ((s.heap.push (seqObj "list" #[] 0)).update s.heap.objs.size (Obj.mapSeq (· ++ vs.toArray))).push (seqObj "list" vs.toArray 0) }
  rw [hsz]
  refine wpAny_bind (wpAny_holding (wpAny_call_entry PyProof.Rows.slot_list_sort ⟨_, hoL, rfl⟩ entry_list_sort (list_sort_tree hoL hI h64 fun out ns' a1 a2 a3 => ⟨_, rfl, ?_⟩) (args_list_sort _)))
  exact wpAny_pure ⟨_, rfl, h out ns' a1 a2 a3⟩
def rSortedT (K : PySem.W.Frag) : List V → Hp → VK → Prop := fun vs H Q => ∃ (a : Addr) (ns : List Int), vs = [V.ref a] ∧ SqT K H a (ns.map V.int) ∧ ns.length < 64 ∧
  ∀ (ns' : List Int) (p : Addr), ns'.Perm ns → ns'.Pairwise (· ≤ ·) → H p = none → Q (.ref p) (upd H p (.lst (ns'.map V.int)))
theorem cr_sortedT : CallR X (.builtin "sorted") (rSortedT X.K) := by
  intro pins s σ H vs us Q I r h
  obtain ⟨a, ns, rfl, hs, h64, q⟩ := h
  obtain ⟨its, rv, hl, _⟩ := I.tuple hs
  rw [Vals.ref1 r]
  have hi := rv.ints
  refine sorted_tup hl hi (by rw [hi.length]; exact h64) fun out ns' h1 h2 h3 => ?_
  obtain ⟨ep, he'⟩ := PyProof.Rows.sortedAll_at s.heap its out
  have hlen : (ns'.map V.int).length ≤ sizeLine := by rw [List.length_map, h2.length_eq]; exact small64 h64
  exact ⟨.ref _, upd H (s.heap.objs.size + 1) (.lst (ns'.map V.int)), I.laid (t' := s.toks) (fun _ _ => PyProof.Rows.sortedAll_old) (Nat.le_succ _) ⟨hlen, out.toList, ep, vals_of_ints h1, he'⟩, rfl, q ns' _ h2 h3 (I.hok.fresh (Nat.le_succ _))⟩
/-! ### x in t, t a tuple of data -/
def rInT (K : PySem.W.Frag) : R2 := fun x y H Q => ∃ d ds, Dp K H x d ∧ Dp K H y (.tuple ds) ∧ SeqAt.shaped d = true ∧ SeqAt.shaped (.tuple ds) = true ∧ Q (.bl (ds.any fun z => PyData.eqv z d)) H
def rNotInT (K : PySem.W.Frag) : R2 := fun x y H Q => ∃ d ds, Dp K H x d ∧ Dp K H y (.tuple ds) ∧ SeqAt.shaped d = true ∧ SeqAt.shaped (.tuple ds) = true ∧ Q (.bl (!ds.any fun z => PyData.eqv z d)) H
theorem op_inT (hu : X.A.units + 65 < cLine) : OpR X (compareOp .In) (rInT X.K) := by
  intro pins s σ H x y v u Q I rx ry h
  obtain ⟨d, ds, hd, he, sd, se, q⟩ := h
  obtain ⟨as, r1⟩ := Dp.reads I d x v hd rx
  obtain ⟨bs, r2⟩ := Dp.reads I (.tuple ds) y u he ry
  exact SeqAt.in_tuple_reads r2 r1 (SeqAt.canLay_of_shaped se) (SeqAt.canLay_of_shaped sd) (PyProof.Rows.room_in_shaped sd hu) ⟨.bl _, H, I, rfl, q⟩
theorem op_notInT (hu : X.A.units + 65 < cLine) : OpR X (compareOp .NotIn) (rNotInT X.K) := by
  intro pins s σ H x y v u Q I rx ry h
  obtain ⟨d, ds, hd, he, sd, se, q⟩ := h
  obtain ⟨as, r1⟩ := Dp.reads I d x v hd rx
  obtain ⟨bs, r2⟩ := Dp.reads I (.tuple ds) y u he ry
  exact SeqAt.notIn_tuple_reads r2 r1 (SeqAt.canLay_of_shaped se) (SeqAt.canLay_of_shaped sd) (PyProof.Rows.room_in_shaped sd hu) ⟨.bl _, H, I, rfl, q⟩
/-! ### text * int -/
def rMulS : R2 := fun x y H Q => ∃ (z : Str) (k : Nat), x = .str z ∧ y = .int (k : Nat) ∧ z.length * k ≤ sizeLine ∧ k < 2 ^ 31 ∧ z.length < 2 ^ 24 ∧ Q (.str ⟨(List.replicate k z.cps.toList).flatten.toArray⟩) H
end
end TPE
end
section
set_option maxHeartbeats 4000000
/-! more rules that the layer lacks -/
namespace TPE
open PySem PySem.Spec PyProof.Rows L2 HT

section
variable {X : Cx}
def repS (z : Str) (k : Nat) : Str := ⟨(List.replicate k z.cps.toList).flatten.toArray⟩
theorem rep_fold (c : Array Nat) (k : Nat) : (List.replicate k c).foldl (· ++ ·) #[] = (List.replicate k c.toList).flatten.toArray := by
  have h : ∀ (k : Nat) (acc : List Nat), (List.replicate k c).foldl (· ++ ·) acc.toArray = (acc ++ (List.replicate k c.toList).flatten).toArray := by
    intro k
    induction k with
    | zero => intro acc; simp
    | succ k ih =>
      intro acc
      rw [List.replicate_succ, List.foldl_cons, List.replicate_succ, List.flatten_cons]
      have e : acc.toArray ++ c = (acc ++ c.toList).toArray := by simp
      rw [e, ih, List.append_assoc]
  have := h k []
  simpa using this
/-- a text of one sign, some times -/
def rMulS1 : R2 := fun x y H Q => ∃ (z : Str) (k : Nat), x = .str z ∧ y = .int (k : Nat) ∧ z.length = 1 ∧ k ≤ 1000 ∧ Q (.str (repS z k)) H
theorem op_mulS : OpR X (binaryOp .Mult) rMulS1 := by
  intro pins s σ H x y v u Q I rx ry h
  obtain ⟨z, k, rfl, rfl, hz, hk, q⟩ := h
  obtain ⟨t, rfl⟩ := rx
  obtain ⟨t', rfl⟩ := ry
  have hl : Builtin.Str.tooLong (z.length * ((k : Nat) : Int).toNat) = false := by
    rw [hz]
    unfold Builtin.Str.tooLong
    rw [decide_eq_false]
    have := sizeLine_eq
    simp only [Int.toNat_natCast]
    omega
  refine PySem.P.mul_str ?_ (fun h0' _ => ?_) (fun _ _ => hl) ?_
  · have e1 : decide (((k : Nat) : Int) < -(2 ^ 63 : Int)) = false := decide_eq_false (by omega)
    have e2 : decide (((k : Nat) : Int) ≥ 2 ^ 63) = false := decide_eq_false (by omega)
    rw [e1, e2]; rfl
  · rw [hz]
    by_cases h0 : k = 0
    · subst h0; exact absurd (by decide) h0'
    · have : (1 : Int) ≤ (2 ^ 63 - 1) / (k : Int) := (Int.le_ediv_iff_mul_le (by omega)).mpr (by omega)
      omega
  · by_cases h1 : ((k : Nat) : Int) < 1
    · rw [if_pos h1]
      have e : k = 0 := by omega
      subst e
      exact ⟨Nat.zero_le _, .str _, H, I.tok _, ⟨_, rfl⟩, q⟩
    · rw [if_neg h1]
      by_cases h2 : (((k : Nat) : Int) == 1 || z.length == 0) = true
      · rw [if_pos h2]
        rw [hz] at h2
        have e : k = 1 := by
          have h3 : ((k : Nat) : Int) = 1 := by simpa using h2
          omega
        subst e
        have e2 : repS z 1 = z := by
          unfold repS
          simp
        rw [e2] at q
        exact ⟨.str _, H, I, ⟨_, rfl⟩, q⟩
      · rw [if_neg h2]
        simp only [Int.toNat_natCast]
        have e : (⟨(List.replicate k z.cps).foldl (· ++ ·) #[]⟩ : Str) = repS z k := by
          unfold repS
          rw [rep_fold]
        rw [e]
        refine ⟨?_, .str _, H, I.tok _, ⟨_, rfl⟩, q⟩
        have hz' : z.cps.toList.length = 1 := by simpa [Str.length] using hz
        have := sizeLine_eq
        show (repS z k).cps.size ≤ sizeLine
        unfold repS
        simp only [List.size_toArray, List.length_flatten, List.map_replicate, hz']
        simp
        omega
/-! ### text[::-1] -/
def revS (z : Str) : Str := ⟨z.cps.toList.reverse.toArray⟩
def tRevS (te : TE) : TE := fun σ H Q => te σ H fun x H1 => ∃ z, x = .str z ∧ z.length ≤ sizeLine ∧ Q (.str (revS z)) H1
theorem sliceRev (z : Str) : ((Builtin.Str.strSliceIndices none none (-1) z.length).filterMap (z.cps[·]?)) = z.cps.toList.reverse := by
  have e : Builtin.Str.strSliceIndices none none (-1) z.length = sliceRange ((z.length : Int) - 1) (-1) (-1) := by
    unfold Builtin.Str.strSliceIndices
    rfl
  rw [e, PySem.W.krv_sliceRange, PySem.W.krv_range, List.filterMap_reverse]
  show ((List.range z.cps.size).filterMap (z.cps[·]?)).reverse = _
  rw [PySem.W.krv_all]
theorem pe_revS {e : Expr} {te : TE} {k : Nat} {p1 p2 p3 pos : Pos} (he : PE X e te) : PE X (.Subscript e (.Slice none none (some (.UnaryOp .USub (.Constant (.int 1) k p1) p2)) p3) pos) (tRevS te) := by
  refine ⟨fun pins s σ H Q I h => ?_⟩
  refine Subscript_ (thn (he.run pins s σ H _ I h) fun v s1 ⟨x, H1, I1, r1, q1⟩ => ?_)
  obtain ⟨z, ex, hz, q⟩ := q1
  subst ex
  obtain ⟨tz, rfl⟩ := r1
  have hst : PO X (some (.UnaryOp .USub (.Constant (.int 1) k p1) p2)) (tPart (tUn (rU fun i => .int (-i)) (tC (.int 1)))) := po_some (pe_un un_neg pe_int)
  refine wpAny_Slice (thn (po_none.run pins s1 σ H1 (fun o H2 => o = none ∧ H2 = H1) I1 ⟨rfl, rfl⟩) fun vl s2 ⟨l, H2, I2, pl, el, e2⟩ => ?_)
  subst el e2
  refine thn (po_none.run pins s2 σ H2 (fun o H3 => o = none ∧ H3 = H2) I2 ⟨rfl, rfl⟩) fun vu s3 ⟨u, H3, I3, pu, eu, e3⟩ => ?_
  subst eu e3
  refine thn (hst.run pins s3 σ H3 (fun o H4 => o = some (-1) ∧ H4 = H3) I3 ⟨1, rfl, -1, rfl, rfl, rfl⟩) fun vs s4 ⟨o, H4, I4, ps, eo, e4⟩ => ?_
  subst eo e4
  have I5 : Inv X pins σ H4 { s4 with heap := s4.heap.push { cls := .type "slice", data := .fields #[vl, vu, vs] } } := I4.kept (t' := s4.toks) fun b ob q => Heap.get?_push_of_some _ q
  obtain ⟨l, rfl, el⟩ := IsPart.raw pl
  obtain ⟨u, rfl, eu⟩ := IsPart.raw pu
  obtain ⟨st, rfl, es⟩ := IsPart.raw ps
  obtain ⟨os, hos, hcs, hds⟩ := Heap.IsSliceOf.new s4.heap (partValue l) (partValue u) (partValue st)
  show wpAny (model X.prog X.w) X.A (subscriptTail e (.Slice none none (some (.UnaryOp .USub (.Constant (.int 1) k p1) p2)) p3) (.str z tz) (.ref s4.heap.objs.size)) (EP X pins σ Q) X.xe { s4 with heap := s4.heap.push { cls := .type "slice", data := .fields #[partValue l, partValue u, partValue st] } }
  refine tail_any (ops := [.str z tz, .ref s4.heap.objs.size]) (typeIs_str _ _ _) (F.slot_str_getitem.lookup) ?_ (by with_unfolding_all rfl)
  refine wpAny_getItem_str_slice (l := l) (u := u) (st := st) ⟨os, hos, hcs, hds⟩ (by rw [es]; rfl) ?_
  unfold sliceMade slicePicked
  rw [el, eu, es]
  rw [if_neg (by
    rw [show ((some (-1 : Int)).getD 1 == 1) = false by decide, Bool.false_and]
    exact Bool.false_ne_true)]
  show Made.post (.str ⟨((Builtin.Str.strSliceIndices none none (-1) z.length).filterMap (z.cps[·]?)).toArray⟩) (EP X pins σ Q) _
  rw [sliceRev]
  refine ⟨?_, .str _, H4, I5.tok _, ⟨_, rfl⟩, q⟩
  show (z.cps.toList.reverse.toArray).size ≤ sizeLine
  simpa [Str.length] using hz
/-! ### tuple[::-1] -/
def tRevT (K : PySem.W.Frag) (te : TE) : TE := fun σ H Q => te σ H fun x H1 => ∃ a xs, x = .ref a ∧ SqT K H1 a xs ∧ ∀ p, H1 p = none → Q (.ref p) (upd H1 p (.tup xs.reverse))
theorem pick_rev (xs : Array Value) : ((List.range xs.size).filterMap fun (m : Nat) => xs[(((xs.size : Int) - 1) + (m : Int) * (-1)).toNat]?).toArray = xs.toList.reverse.toArray := by
  have e : ((List.range xs.size).filterMap fun (m : Nat) => xs[(((xs.size : Int) - 1) + (m : Int) * (-1)).toNat]?) = ((List.range xs.size).map fun k => xs.size - 1 - k).filterMap (xs[·]?) := by
    rw [List.filterMap_map]
    have g : ∀ l : List Nat, (∀ m ∈ l, m < xs.size) → (l.filterMap fun (m : Nat) => xs[(((xs.size : Int) - 1) + (m : Int) * (-1)).toNat]?) = l.filterMap ((fun i => xs[i]?) ∘ fun k => xs.size - 1 - k) := by
      intro l
      induction l with
      | nil => intro _; rfl
      | cons m l ih =>
        intro h
        have hm := h m (List.mem_cons_self ..)
        have e : (((xs.size : Int) - 1) + (m : Int) * (-1)).toNat = xs.size - 1 - m := by omega
        rw [List.filterMap_cons, List.filterMap_cons, ih fun k hk => h k (List.mem_cons_of_mem _ hk), e]
        rfl
    exact g _ fun m hm => List.mem_range.mp hm
  rw [e, PySem.W.krv_range, List.filterMap_reverse, PySem.W.krv_all]
theorem getItem_tuple_rev {prog : Program} {w : World} {A : Around} {E : Value → Shared → Prop} {s : Shared} {t sl : Addr} {items : Array Value} {u : Tok} {Q : Value → Shared → Prop} (ht : IsTup s.heap t items) (hs : s.heap.IsSliceOf sl .none .none (.int (-1) u))
    (h : Q (.ref s.heap.objs.size) { s with heap := s.heap.push { cls := .type "tuple", data := .seq items.toList.reverse.toArray } })
    (hsz : items.size ≤ sizeLine) : wpAny (model prog w) A (getItem (.ref t) (.ref sl)) Q E s := by
  obtain ⟨os, hos, hcs, hds⟩ := id hs
  have hTs : s.TypeIs (.ref sl) "slice" := ⟨os, hos, hcs⟩
  have hok : sizeOk (.seq items.toList.reverse.toArray) := by
    show items.toList.reverse.toArray.size ≤ sizeLine
    simpa using hsz
  unfold getItem
  try with_reducible refine wpAny_holding ?_
  first | refine wpAny_bind (wpAny_pure ?_) | skip
  refine wpAny_bind (wpAny_sequenceKey ht.typeIs (by decide) ?_)
  refine wpAny_bind (wpAny_callSpecial?_slot (name := Str.ofString "__getitem__") ht.typeIs PyProof.Rows.slot_tuple_getitem
    (wpAny_call_entry PyProof.Rows.slot_tuple_getitem ht.typeIs entry_tuple_getitem ?_ (args_tuple_getitem _ _)))
  show wpAny _ _ (Builtin.Tuple.tupleItemsOf (.ref t) >>= _) _ _ s
  refine wpAny_bind (tupleItemsOf_ ht ?_)
  refine wpAny_bind (wpAny_typeOf hTs ?_)
  rw [if_pos (by decide)]
  refine wpAny_bind ?_
  unfold Builtin.Slice.sliceApplied Builtin.Slice.sliceFields
  refine wpAny_bind (wpAny_bind (wpAny_field hos hds (x := .none) rfl (wpAny_bind (wpAny_field hos hds (x := .none) rfl (wpAny_bind (wpAny_field hos hds (x := .int (-1) u) rfl (wpAny_pure ?_)))))))
  refine wpAny_bind (slicePart_int ?_)
  show wpAny _ _ (if ((-1 : Int) == 0) = true then _ else _) _ _ s
  rw [if_neg (by decide)]
  refine wpAny_bind (slicePart_none (wpAny_bind (slicePart_none (wpAny_bind (wpAny_pure ?_)))))
  show wpAny _ _ (match Builtin.Slice.sliceAdjust none none (-1) (items.size : Int) with | (lo, hi) => pure (lo, (-1 : Int), Builtin.Slice.slicePlaces lo hi (-1))) _ _ s
  have e1 : Builtin.Slice.sliceAdjust none none (-1) (items.size : Int) = ((items.size : Int) - 1, -1) := by
    unfold Builtin.Slice.sliceAdjust
    rfl
  rw [e1]
  have e2 : Builtin.Slice.slicePlaces ((items.size : Int) - 1) (-1) (-1) = items.size := by
    unfold Builtin.Slice.slicePlaces
    rw [if_neg (by decide)]
    by_cases h0 : (items.size : Int) - 1 > -1
    · rw [if_pos h0, show (-(-1) : Int) = 1 by decide, Int.ediv_one]
      omega
    · rw [if_neg h0]
      omega
  show wpAny _ _ (pure ((items.size : Int) - 1, (-1 : Int), Builtin.Slice.slicePlaces ((items.size : Int) - 1) (-1) (-1))) _ _ s
  rw [e2]
  refine wpAny_pure ?_
  have hno : ¬ ((((items.size : Int) - 1) == 0 && (-1 : Int) == 1 && items.size == items.size) = true) := by
    rw [show ((-1 : Int) == 1) = false by decide]
    simp
  show wpAny _ _ (if ((((items.size : Int) - 1) == 0 && (-1 : Int) == 1 && items.size == items.size) = true) then _ else _) _ _ s
  rw [if_neg hno, pick_rev]
  first
    | exact wpAny_bind (m := Builtin.Tuple.tupleExact _) (wpAny_newObj_type (wpAny_pure ⟨_, rfl, wpAny_pure h⟩) hok)
    | exact wpAny_bind (m := Builtin.Tuple.tupleExact _) (wpAny_newObj_type (wpAny_bind (wpAny_pure (wpAny_pure ⟨_, rfl, wpAny_pure h⟩))) hok)
    | exact wpAny_bind (wpAny_bind (m := Builtin.Tuple.tupleExact _) (wpAny_newObj_type (wpAny_pure (wpAny_pure ⟨_, rfl, wpAny_pure h⟩)) hok))
    | exact wpAny_bind (wpAny_bind (m := Builtin.Tuple.tupleExact _) (wpAny_newObj_type (wpAny_pure ⟨_, rfl, wpAny_pure h⟩) hok))
theorem pe_revT {e : Expr} {te : TE} {k : Nat} {p1 p2 p3 pos : Pos} (he : PE X e te) : PE X (.Subscript e (.Slice none none (some (.UnaryOp .USub (.Constant (.int 1) k p1) p2)) p3) pos) (tRevT X.K te) := by
  refine ⟨fun pins s σ H Q I h => ?_⟩
  refine Subscript_ (thn (he.run pins s σ H _ I h) fun v s1 ⟨x, H1, I1, r1, q1⟩ => ?_)
  obtain ⟨a, xs, ex, hx, q⟩ := q1
  subst ex
  cases r1
  have hst : PO X (some (.UnaryOp .USub (.Constant (.int 1) k p1) p2)) (tPart (tUn (rU fun i => .int (-i)) (tC (.int 1)))) := po_some (pe_un un_neg pe_int)
  refine wpAny_Slice (thn (po_none.run pins s1 σ H1 (fun o H2 => o = none ∧ H2 = H1) I1 ⟨rfl, rfl⟩) fun vl s2 ⟨l, H2, I2, pl, el, e2⟩ => ?_)
  subst el e2
  refine thn (po_none.run pins s2 σ H2 (fun o H3 => o = none ∧ H3 = H2) I2 ⟨rfl, rfl⟩) fun vu s3 ⟨u, H3, I3, pu, eu, e3⟩ => ?_
  subst eu e3
  refine thn (hst.run pins s3 σ H3 (fun o H4 => o = some (-1) ∧ H4 = H3) I3 ⟨1, rfl, -1, rfl, rfl, rfl⟩) fun vs s4 ⟨o, H4, I4, ps, eo, e4⟩ => ?_
  subst eo e4
  have I5 : Inv X pins σ H4 { s4 with heap := s4.heap.push { cls := .type "slice", data := .fields #[vl, vu, vs] } } := I4.kept (t' := s4.toks) fun b ob q => Heap.get?_push_of_some _ q
  obtain ⟨its, r, ht, hz⟩ := I5.tuple hx
  have hlen := r.length
  cases pl
  cases pu
  cases ps with
  | int _ tk =>
    show wpAny (model X.prog X.w) X.A (subscriptTail e (.Slice none none (some (.UnaryOp .USub (.Constant (.int 1) k p1) p2)) p3) (.ref a) (.ref s4.heap.objs.size)) (EP X pins σ Q) X.xe { s4 with heap := s4.heap.push { cls := .type "slice", data := .fields #[.none, .none, .int (-1) tk] } }
    refine tail_any (ops := [.ref a, .ref s4.heap.objs.size]) ht.typeIs (PyProof.Rows.slot_tuple_getitem.lookup) ?_ (by with_unfolding_all rfl)
    refine getItem_tuple_rev ht (Heap.IsSliceOf.new _ _ _ _) ?_ (by rw [List.size_toArray]; omega)
    refine ⟨.ref _, _, I5.laid (t' := s4.toks) (o := .tup xs.reverse) (fun b ob q => Heap.get?_push_of_some _ q) (Nat.le_refl _) ?_, rfl, q _ (I5.hok.fresh (Nat.le_refl _))⟩
    exact ⟨by rw [List.length_reverse]; exact hz, _, r.reverse, IsTup.new _ _⟩
end
end TPE
end
section
set_option maxHeartbeats 4000000
/-! tuples that are known to be plain: tuple(..), slices, count, index; a target o.f -/
namespace TPE
open PySem PySem.Spec PyProof.Rows L2 HT

/-- a tuple without a dict of its own -/
def PlT (K : PySem.W.Frag) (H : Hp) (p : Addr) : Prop := (∃ o xs, H p = some (.frz o (.tup xs)) ∧ o.cls = .type "tuple" ∧ o.dict = none) ∨ ∃ o, K.lookup p = some o ∧ o.cls = .type "tuple" ∧ o.dict = none
theorem PlT.same {K : PySem.W.Frag} {H H' : Hp} {p : Addr} (e : Same H H') (h : PlT K H p) : PlT K H' p := h.imp (fun ⟨o, xs, h1, h2⟩ => ⟨o, xs, e _ _ h1, h2⟩) id
def plP (K : PySem.W.Frag) (ds : List PyData) : Pd := ⟨fun H v => ∃ p, v = .ref p ∧ PlT K H p ∧ Dp K H v (.tuple ds), fun e ⟨p, h1, h2, h3⟩ => ⟨p, h1, h2.same e, dp_same e _ _ h3⟩⟩
section
variable {X : Cx}
/-- tuple(xs): of a list a new plain one; of a tuple itself -/
def rTupX (K : PySem.W.Frag) : List V → Hp → VK → Prop := fun xs H Q => ∃ p ys, xs = [.ref p] ∧ ((SqL K H p ys ∧ ∀ l o, H l = none → o.cls = .type "tuple" → o.dict = none → Q (.ref l) (upd H l (.frz o (.tup ys)))) ∨ (SqT K H p ys ∧ Q (.ref p) H))
theorem call_tupX : CallR X (.type "tuple") (rTupX X.K) := by
  intro pins s σ H xs us Q I r h
  obtain ⟨p, ys, rfl, h⟩ := h
  obtain ⟨u, rfl, rx⟩ := vals1 r
  cases rx
  rcases h with ⟨hq, q⟩ | ⟨hq, q⟩
  · obtain ⟨its, r', pl, hz⟩ := I.list hq
    have hlen := r'.length
    refine call_tuple_list pl.isList (fun h' kp => ?_) (by simp only [List.size_toArray] <;> omega)
    have I1 : Inv X pins σ H { s with heap := h' } := I.kept (t' := s.toks) kp
    have I2 : Inv X pins σ (upd H h'.objs.size (.frz { cls := .type "tuple", data := .seq its.toArray } (.tup ys))) { s with heap := h'.push { cls := .type "tuple", data := .seq its.toArray } } :=
      I1.laid (t' := s.toks) (fun b o e => Heap.get?_push_of_some _ e) (Nat.le_refl _) (show ObjOk X.prog X.w _ _ _ (.frz _ (.tup ys)) from ⟨Heap.get?_push_size _ rfl, hz, its, r', IsTup.new _ _⟩)
    exact ⟨.ref h'.objs.size, _, I2, rfl, q _ _ (I1.hok.fresh (Nat.le_refl _)) rfl rfl⟩
  · obtain ⟨its, r', pl, hz⟩ := I.tuple hq
    exact call_tuple_same pl ⟨.ref p, H, I, rfl, q⟩
/-- t[a:b], a new plain one or itself -/
def rSlX (K : PySem.W.Frag) : V → Option Int → Option Int → Hp → VK → Prop := fun x lo hi H Q => ∃ a xs, x = .ref a ∧ SqT K H a xs ∧
  (HT.sIx xs.length 0 lo = 0 ∧ HT.sIx xs.length xs.length hi = xs.length → Q (.ref a) H) ∧
  (¬ (HT.sIx xs.length 0 lo = 0 ∧ HT.sIx xs.length xs.length hi = xs.length) → ∀ p o, H p = none → o.cls = .type "tuple" → o.dict = none → Q (.ref p) (upd H p (.frz o (.tup (cutV xs lo hi)))))
theorem sl_tupX : SlR X (rSlX X.K) := by
  intro pins s σ H x v vl vu lo hi sl Q I rx hs pl pu h
  obtain ⟨a, xs, rfl, hx, q1, q2⟩ := h
  cases rx
  obtain ⟨its, r, ht, hz⟩ := I.tuple hx
  have hlen : its.toArray.size = xs.length := by rw [List.size_toArray]; exact r.length.symm
  refine ⟨"tuple", _, PyProof.Rows.slot_tuple_getitem.lookup, ht.typeIs, ?_⟩
  by_cases hw : HT.sIx xs.length 0 lo = 0 ∧ HT.sIx xs.length xs.length hi = xs.length
  · exact L2.getItem_tuple_whole ht hs pl pu (by rw [hlen]; exact hw) ⟨.ref a, H, I, rfl, q1 hw⟩
  · refine HT.getItem_tuple_cut ht hs pl pu (by rw [hlen]; exact hw) ?_ (by rw [hlen]; exact hz)
    rw [hlen]
    refine ⟨.ref s.heap.objs.size, _, I.laid (t' := s.toks) (o := .frz { cls := .type "tuple", data := .seq ((its.drop (HT.sIx xs.length 0 lo)).take (HT.sIx xs.length xs.length hi - HT.sIx xs.length 0 lo)).toArray } (.tup (cutV xs lo hi))) (fun b ob q => Heap.get?_push_of_some _ q) (Nat.le_refl _) ?_, rfl, q2 hw _ _ (I.hok.fresh (Nat.le_refl _)) rfl rfl⟩
    exact ⟨Heap.get?_push_size _ rfl, Nat.le_trans (cutV_length xs lo hi) hz, _, (r.drop (HT.sIx xs.length 0 lo)).take (HT.sIx xs.length xs.length hi - HT.sIx xs.length 0 lo), IsTup.new _ _⟩
/-- a plain tuple's method with arguments -/
def tBT (K : PySem.W.Frag) (r : V → List V → Hp → VK → Prop) (to : TE) (t : TA) : TE := fun σ H Q => to σ H fun x H1 => (∃ p xs, x = .ref p ∧ PlT K H1 p ∧ SqT K H1 p xs) ∧ t σ H1 fun xs H2 => r x xs H2 Q
theorem pe_bt {o e : Expr} {es : List Expr} {to : TE} {t : TA} {name : Str} {apos cpos : Pos} {id : String} {r : V → List V → Hp → VK → Prop}
    (slot : Slot "tuple" name id) (hty : typeOf (.builtin id) = pure (.type "method_descriptor")) (hm : MtR X id r) (ho : PE X o to) (ha : PA X (e :: es) t)
    (hbase : attributeBase o name X.env (eval o X.env) = eval o X.env := by rfl)
    (hfew : ((backTo cpos (starEach (e :: es) X.env)).all (fun x => !x.1) && (backToKw cpos (keywordEach [] X.env)).all (fun x => x.1.isSome)
      && decide ((e :: es).length + ([] : List Keyword).length + (if ([] : List Keyword).isEmpty then 0 else 1) < 30)) = true := by rfl)
    (hline : (apos.endLine == cpos.line) = true := by rfl) (hs : starEach (e :: es) X.env = (false, eval e X.env) :: starEach es X.env := by rfl) (hplain : (backTo cpos (starEach es X.env)).any (·.1) = false := by rfl) :
    PE X (.Call (.Attribute o name apos) (e :: es) [] cpos) (tBT X.K r to t) := by
  refine ⟨fun pins s σ H Q I h => ?_⟩
  refine wpAny_Call_method_late hbase hfew hline rfl (thn (ho.run pins s σ H _ I h) fun v s1 ⟨x, H1, I1, r1, ⟨p, xs, ex, hp, hq⟩, q1⟩ => ?_)
  subst ex
  cases r1
  obtain ⟨its, rv, ht, hz⟩ := I1.tuple hq
  have hd : ∀ a, Value.ref p = .ref a → ∃ ob, s1.heap.get? a = some ob ∧ ob.dict = none := fun a ea => by
    cases ea
    rcases hp with ⟨o, ys, h1, h2, h3⟩ | ⟨o, h1, h2, h3⟩
    · obtain ⟨h4, _⟩ := (show ObjOk X.prog X.w H1 s1.heap p (.frz o (.tup ys)) from I1.hok p _ h1)
      exact ⟨o, h4, h3⟩
    · exact ⟨o, I1.kIn p o h1, h3⟩
  refine ⟨"tuple", id, PySem.F.plainAttrs_tuple, slot, hty, ht.typeIs, hd, ?_⟩
  have hA := ha.run cpos pins s1 σ H1 _ I1 q1
  rw [hs] at hA ⊢
  refine Calls.callWith_builtin (by show (false || (backTo cpos (starEach es X.env)).any (·.1)) = false; rw [hplain] <;> rfl) (Calls.evalArgs_plain ?_)
  exact thn hA fun us s2 ⟨vs, H2, I2, r2, q2⟩ => hm pins s2 σ H2 (.ref p) vs (.ref p) us Q I2 rfl r2 q2
/-- t.index(k), ints -/
def rTIdx (K : PySem.W.Frag) : V → List V → Hp → VK → Prop := fun x xs H Q => ∃ (p : Addr) (ns : List Int) (k : Int), x = .ref p ∧ xs = [.int k] ∧ SqT K H p (ns.map V.int) ∧ k ∈ ns ∧ Q (.int (ns.idxOf k : Nat)) H
theorem mt_tidx : MtR X "tuple.index" (rTIdx X.K) := by
  intro pins s σ H x xs v us Q I rx rs h
  obtain ⟨p, ns, k, rfl, rfl, hq, hk, q⟩ := h
  cases rx
  obtain ⟨u, rfl, t, rfl⟩ := vals1 rs
  obtain ⟨its, r, ht, hz⟩ := I.tuple hq
  exact PySem.SeqAt.tuple_index_ints (show s.heap.IsTuple p its.toArray from ht) r.ints hk ⟨.int _, H, I.tok _, ⟨_, rfl⟩, q⟩
/-- t.count(k), ints -/
def rTCnt (K : PySem.W.Frag) : V → List V → Hp → VK → Prop := fun x xs H Q => ∃ (p : Addr) (ns : List Int) (k : Int), x = .ref p ∧ xs = [.int k] ∧ SqT K H p (ns.map V.int) ∧ Q (.int (ns.count k : Nat)) H
theorem plain_ints : ∀ ns : List Int, PyData.plainAll (ns.map PyData.int) = true
  | [] => rfl
  | n :: ns => by simp [PyData.plainAll, PyData.plain, plain_ints ns]
theorem count_ints (k : Int) : ∀ ns : List Int, (ns.map PyData.int).countP (fun y => PyData.eqv y (.int k)) = ns.count k
  | [] => rfl
  | n :: ns => by
    rw [List.map_cons, List.countP_cons, List.count_cons, count_ints k ns]
    congr 1
theorem depth_ints : ∀ ns : List Int, PyData.depthAll (ns.map PyData.int) = 0
  | [] => rfl
  | n :: ns => by simp [PyData.depthAll, PyData.depth, depth_ints ns]
theorem mt_tcnt (hu : X.A.units + 1 < cLine) : MtR X "tuple.count" (rTCnt X.K) := by
  intro pins s σ H x xs v us Q I rx rs h
  obtain ⟨p, ns, k, rfl, rfl, hq, q⟩ := h
  cases rx
  obtain ⟨u, rfl, r1⟩ := vals1 rs
  obtain ⟨its, r, ht, hz⟩ := I.tuple hq
  obtain ⟨as, ra⟩ := Dp.readsAll I (ns.map .int) _ its ints_dpAll r
  obtain ⟨bs, rb⟩ := Dp.reads I (.int k) _ u (.int k) r1
  refine SeqAt.count_tuple_data (show s.heap.IsTuple p its.toArray from ht) (xs := ns.map .int) (d := .int k) (by simpa using ra) rb (plain_ints ns) rfl (by rw [depth_ints]; simpa using hu) ?_
  rw [count_ints]
  exact ⟨.int _, H, I.tok _, ⟨_, rfl⟩, q⟩
/-! ### o.f = .. as a part of a tuple target -/
def gFld (K : PySem.W.Frag) (ta : TE) (f : Str) : TG := fun y σ H Q => ta σ H fun x H2 => ∃ a C dx fs, x = .ref a ∧ H2 a = some (.ins C dx fs) ∧ Cls K C ∧ NoAttr K C f ∧ fs.length < 1000 ∧ Q σ (upd H2 a (.ins C dx (putF f y fs)))
theorem pg_fld {o : Expr} {f : Str} {pos : Pos} {ta : TE} (ha : PE X o ta) : PG X (.Attribute o f pos) (gFld X.K ta f) := by
  refine ⟨fun pins s σ H v u Q I r h => ?_⟩
  rw [assign_Attribute]
  refine wpAny_bind (wpAny_holding (thn (ha.run pins s σ H _ I h) fun ov s2 ⟨x, H2, I2, rx, a, C, dx, fs, ex, ea, c, n, l, q2⟩ => ?_))
  subst ex
  obtain rfl : ov = Value.ref a := rx
  refine wpAny_bind (wpAny_standAt (wpAny_bind (wpAny_holding (setattr_ok I2 ea c n l r fun s3 I3 => ?_))))
  exact wpAny_release ⟨σ, _, I3, q2⟩
end
/-! ### readings of these -/
section
variable [Tb] {M : Option Addr} {K : PySem.W.Frag} {Γ Γ' Γ'' : List Slt} {t ta tb tc to ti te : TE} {tr : TA} {d da db : Pd} {c : Slt} {sk : Sk} {ds es : List PyData} {j j1 j2 : VJ M} {js : List (VJ M)} {P : Po} {ts tu : TS}
theorem plP_d {F : Hp} {v : V} (h : (plP K ds).hold F v) : Dp K F v (.tuple ds) := by
  obtain ⟨p, h1, h2, h3⟩ := h
  exact h3
theorem ev_pl (h : Ev M t Γ (plP K ds)) : Ev M t Γ (dP K (.tuple ds)) := h.mono fun F v h => plP_d h
theorem itd_p : ItD K (plP K ds) ds := fun F v h => itd_t F v (plP_d h)
theorem cj_tupX : CallJ M (rTupX K) [jq K .l ds] (.val (plP K ds)) := fun B O0 O Γ σ H vs E hvs Q q => by
  obtain ⟨v, rfl, a, xs, rfl, h1, h2⟩ := one_of hvs
  refine ⟨a, xs, rfl, .inl ⟨Same.seq ws_sub h1, fun l o hl ho hd => ?_⟩⟩
  obtain ⟨s2, sm, hw⟩ := pd_new E E.refl (ob := .frz o (.tup xs)) hl
  exact q _ _ _ s2 ⟨l, rfl, .inl ⟨o, xs, hw, ho, hd⟩, .tup (.inl (.inr ⟨o, hw⟩)) (dpAll_same sm _ _ h2)⟩
theorem sj_p {lo hi : Option Int} : SlJ M (rSlX K) (jd (plP K ds)) lo hi (.val (plP K (cutD ds lo hi))) := fun B O0 O Γ σ H x E hx Q q => by
  obtain ⟨p, rfl, hp, hx⟩ := hx
  cases hx with
  | @tup a xs _ h1 h2 =>
    refine ⟨_, xs, rfl, sqT_same wo_sub h1, fun e => ?_, fun e p' o hp' ho hd => ?_⟩
    · rw [h2.length] at e
      refine q _ O H E.refl ?_
      show (plP K (cutD ds lo hi)).hold _ _
      rw [cut_all e]
      exact ⟨_, rfl, hp, .tup h1 h2⟩
    · obtain ⟨s2, sm, hw⟩ := pd_new E E.refl (ob := .frz o (.tup (cutV xs lo hi))) hp'
      exact q _ O _ s2 ⟨p', rfl, .inl ⟨o, _, hw, ho, hd⟩, .tup (.inl (.inr ⟨o, hw⟩)) (dpAll_same sm _ _ (cut_dp h2 lo hi))⟩
theorem ev_tidx {ns : List Int} {k : Int} (ho : Ev M to Γ (plP K (ns.map PyData.int))) (ha : Ev M ta Γ (dP K (.int k))) (hk : k ∈ ns) : Ev M (tBT K (rTIdx K) to (tCons ta tNil)) Γ (dP K (.int (ns.idxOf k : Nat))) := fun B O0 O σ H E Q q => by
  refine ho B O0 O σ H E _ fun v O1 H1 s hv => ?_
  obtain ⟨p, rfl, hp, hx⟩ := hv
  cases hx with
  | @tup a xs _ h1 h2 =>
    refine ⟨⟨_, xs, rfl, hp.same wo_sub, sqT_same wo_sub h1⟩, ha B O0 O1 σ H1 (E.step s) _ fun w O2 H2 s2 hw => ?_⟩
    have hw : Dp K (wo H2 O2) w (.int k) := hw
    cases hw
    refine ⟨_, ns, k, rfl, rfl, ?_, hk, q _ O2 H2 (s.trans s2) (.int _)⟩
    rw [← dpAll_ints h2]
    exact sqT_same wo_sub (sqT_same s2.same h1)
theorem ev_tcnt {ns : List Int} {k : Int} (ho : Ev M to Γ (plP K (ns.map PyData.int))) (ha : Ev M ta Γ (dP K (.int k))) : Ev M (tBT K (rTCnt K) to (tCons ta tNil)) Γ (dP K (.int (ns.count k : Nat))) := fun B O0 O σ H E Q q => by
  refine ho B O0 O σ H E _ fun v O1 H1 s hv => ?_
  obtain ⟨p, rfl, hp, hx⟩ := hv
  cases hx with
  | @tup a xs _ h1 h2 =>
    refine ⟨⟨_, xs, rfl, hp.same wo_sub, sqT_same wo_sub h1⟩, ha B O0 O1 σ H1 (E.step s) _ fun w O2 H2 s2 hw => ?_⟩
    have hw : Dp K (wo H2 O2) w (.int k) := hw
    cases hw
    refine ⟨_, ns, k, rfl, rfl, ?_, q _ O2 H2 (s.trans s2) (.int _)⟩
    rw [← dpAll_ints h2]
    exact sqT_same wo_sub (sqT_same s2.same h1)
theorem cj_sumT {ns : List Int} : CallJ M (rSumT K) [jD K (.tuple (ns.map PyData.int))] (.val (dP K (.int ns.sum))) := fun B O0 O Γ σ H vs E hvs Q q => by
  obtain ⟨v, rfl, hx⟩ := one_of hvs
  have hx : Dp K (wo H O) v (.tuple (ns.map PyData.int)) := hx
  cases hx with
  | @tup a xs _ h1 h2 =>
    refine ⟨a, ns, rfl, ?_, q _ O H E.refl (.int _)⟩
    rw [← dpAll_ints h2]
    exact sqT_same wo_sub h1
theorem cj_sortedT {ns out : List Int} (hp : out.Perm ns) (hs : out.Pairwise (· ≤ ·)) (hz : ns.length < 64) : CallJ M (rSortedT K) [jD K (.tuple (ns.map PyData.int))] (.own (ownL K (out.map PyData.int))) := fun B O0 O Γ σ H vs E hvs Q q => by
  obtain ⟨v, rfl, hx⟩ := one_of hvs
  have hx : Dp K (wo H O) v (.tuple (ns.map PyData.int)) := hx
  cases hx with
  | @tup a xs _ h1 h2 =>
    refine ⟨a, ns, rfl, ?_, hz, fun ns' p h3 h4 hl => ?_⟩
    · rw [← dpAll_ints h2]
      exact sqT_same wo_sub h1
    · have e : ns' = out := List.Perm.eq_of_pairwise (fun x y _ _ h5 h6 => Int.le_antisymm h5 h6) h4 hs (h3.trans hp.symm)
      subst e
      obtain ⟨s2, hc⟩ := ch_new E E.refl (K := K) (vs := ns'.map V.int) (ds := ns'.map PyData.int) ints_dpAll hl
      exact q _ _ _ s2 hc
theorem oj_inT {x : PyData} (sx : SeqAt.shaped x = true) (sy : SeqAt.shaped (.tuple ds) = true) : OpJ M (rInT K) (jD K x) (jD K (.tuple ds)) (.val (dP K (.bool (ds.any fun z => PyData.eqv z x)))) := fun B O0 O Γ σ H v w E hx hy Q q =>
  ⟨x, ds, toD_d _ _ _ hx, toD_d _ _ _ hy, sx, sy, q _ O H E.refl (.bl _)⟩
theorem oj_notInT {x : PyData} (sx : SeqAt.shaped x = true) (sy : SeqAt.shaped (.tuple ds) = true) : OpJ M (rNotInT K) (jD K x) (jD K (.tuple ds)) (.val (dP K (.bool (!ds.any fun z => PyData.eqv z x)))) := fun B O0 O Γ σ H v w E hx hy Q q =>
  ⟨x, ds, toD_d _ _ _ hx, toD_d _ _ _ hy, sx, sy, q _ O H E.refl (.bl _)⟩
theorem oj_catL (hz : ds.length + es.length ≤ sizeLine) : OpJ M (rCatL K) (jq K .l ds) (jq K .l es) (.own (ownL K (ds ++ es))) := fun B O0 O Γ σ H v w E hx hy Q q => by
  obtain ⟨a, vs, rfl, h2, h3⟩ := hx
  obtain ⟨b, ws', rfl, h4, h5⟩ := hy
  refine ⟨a, b, vs, ws', rfl, rfl, Same.seq ws_sub h2, Same.seq ws_sub h4, by rw [h3.length, h5.length]; exact hz, fun p hp => ?_⟩
  obtain ⟨s2, hc⟩ := ch_new E E.refl (h3.append h5) hp
  exact q _ _ _ s2 hc
/-- a list that was just made, as an own one -/
def jo {M : Option Addr} (K : PySem.W.Frag) (ds : List PyData) : VJ M := ⟨fun O H v => ∃ l vs, v = .ref l ∧ H l = some (.lst vs) ∧ ¬ Mu M l ∧ DpAll K (wo H O) vs ds, fun s ⟨l, vs, h1, h2, h3, h4⟩ => ⟨l, vs, h1, s.rl.1 _ _ h3 h2, h3, dpAll_same s.same _ _ h4⟩⟩
theorem evj_o (h : EvC M t Γ (.own (ownL K ds))) : EvJ M t Γ (jo K ds) := fun B O0 O σ H E Q q => h B O0 O σ H E _ fun v O1 H1 s hv => by
  obtain ⟨fp, ⟨l, vs, rfl, h2, h3, h4⟩, h5⟩ := hv
  exact q v O1 H1 s ⟨l, vs, h2, h3, fun e => (h5 l (by simp)).2 (E.srcO l e).1, h4⟩
theorem oj_rep {k : Int} (h1 : -(2 ^ 63) ≤ k) (h2 : k < 2 ^ 63) (hz : ds.length * k.toNat ≤ sizeLine) : OpJ M rRep (jo K ds) (jD K (.int k)) (.own (ownL K (List.replicate k.toNat ds).flatten)) := fun B O0 O Γ σ H v w E hx hy Q q => by
  obtain ⟨l, vs, rfl, h3, h4, h5⟩ := hx
  cases Sta.jint hy
  refine ⟨l, k, vs, rfl, rfl, h3, h1, h2, by rw [h5.length]; exact hz, fun p hp => ?_⟩
  obtain ⟨s2, hc⟩ := ch_new E E.refl (h5.rep k.toNat) hp
  exact q _ _ _ s2 hc
theorem oj_mulS {z : Str} {k : Nat} (h1 : z.length = 1) (h2 : k ≤ 1000) : OpJ M rMulS1 (jD K (.str z)) (jD K (.int (k : Nat))) (.val (dP K (.str (repS z k)))) := fun B O0 O Γ σ H v w E hx hy Q q =>
  ⟨z, k, Sta.jstr hx, Sta.jint hy, h1, h2, q _ O H E.refl (.str _)⟩
theorem ev_revS {z : Str} (h : Ev M t Γ (dP K (.str z))) (hz : z.length ≤ sizeLine) : Ev M (tRevS t) Γ (dP K (.str (revS z))) := fun B O0 O σ H E Q q => h B O0 O σ H E _ fun v O1 H1 s hv => by
  have hv : Dp K (wo H1 O1) v (.str z) := hv
  cases hv
  exact ⟨z, rfl, hz, q _ O1 H1 s (.str _)⟩
theorem ev_revT (h : Ev M t Γ (dP K (.tuple ds))) : Ev M (tRevT K t) Γ (dP K (.tuple ds.reverse)) := fun B O0 O σ H E Q q => h B O0 O σ H E _ fun v O1 H1 s hv => by
  have hv : Dp K (wo H1 O1) v (.tuple ds) := hv
  cases hv with
  | @tup a xs _ h1 h2 =>
    refine ⟨a, xs, rfl, sqT_same wo_sub h1, fun p hp => ?_⟩
    obtain ⟨s2, sm, hw⟩ := pd_new E s (ob := .tup xs.reverse) hp
    exact q _ O1 _ s2 (.tup (SqT.of hw) (dpAll_same sm _ _ h2.reverse))
theorem evc_revL (h : EvJ M t Γ (jq K .l ds)) : EvC M (tRevL K t) Γ (.own (ownL K ds.reverse)) := fun B O0 O σ H E Q q => h B O0 O σ H E _ fun v O1 H1 s hv => by
  obtain ⟨a, xs, rfl, h1, h2⟩ := hv
  refine ⟨a, xs, rfl, Same.seq ws_sub h1, fun p hp => ?_⟩
  obtain ⟨s2, hc⟩ := ch_new E s h2.reverse hp
  exact q _ _ _ s2 hc
/-- a text's slice -/
theorem sj_s {z : Str} {lo hi : Option Int} (hz : z.length ≤ sizeLine) : SlJ M rSlS (jD K (.str z)) lo hi (.val (dP K (.str (cutS z lo hi)))) := fun B O0 O Γ σ H x E hx Q q =>
  ⟨z, Sta.jstr hx, hz, q _ O H E.refl (.str _)⟩
/-- a text's method -/
def MtJ (M : Option Addr) (r : V → List V → Hp → VK → Prop) (z : Str) (js : List (VJ M)) (d : Pd) : Prop := ∀ B O0 O Γ σ H vs, Sta M B O0 O Γ σ H → Paired (fun (j : VJ M) v => j.h O H v) js vs → ∀ Q : VK, (∀ v O1 H1, Stp M O H O1 H1 → d.hold (wo H1 O1) v → Q v H1) → r (.str z) vs H Q
theorem ev_bmS {z : Str} {r : V → List V → Hp → VK → Prop} (ho : Ev M to Γ (dP K (.str z))) (ha : EvJs M tr Γ js) (hr : MtJ M r z js d) : Ev M (tBM K "str" r to tr) Γ d := fun B O0 O σ H E Q q => by
  refine ho B O0 O σ H E _ fun v O1 H1 s hv => ?_
  have hv : Dp K (wo H1 O1) v (.str z) := hv
  cases hv
  exact ⟨rfl, ha B O0 O1 σ H1 (E.step s) _ fun vs O2 H2 s2 hvs => hr B O0 O2 Γ σ H2 vs ((E.step s).step s2) hvs _ fun v O3 H3 s3 hv => q v O3 H3 ((s.trans s2).trans s3) hv⟩
theorem mj_count {z y : Str} : MtJ M (fun x xs H Q => ∃ a b, x = .str a ∧ xs = [.str b] ∧ Q (.int (Txt.count a b)) H) z [jD K (.str y)] (dP K (.int (Txt.count z y))) := fun B O0 O Γ σ H vs E hvs Q q => by
  obtain ⟨v, rfl, hx⟩ := one_of hvs
  cases Sta.jstr hx
  exact ⟨z, y, rfl, rfl, q _ O H E.refl (.int _)⟩
theorem mj_sw {z y : Str} : MtJ M (fun x xs H Q => ∃ a b, x = .str a ∧ xs = [.str b] ∧ Q (.bl (Txt.startswith a b)) H) z [jD K (.str y)] (dP K (.bool (Txt.startswith z y))) := fun B O0 O Γ σ H vs E hvs Q q => by
  obtain ⟨v, rfl, hx⟩ := one_of hvs
  cases Sta.jstr hx
  exact ⟨z, y, rfl, rfl, q _ O H E.refl (.bl _)⟩
end
end TPE
end
section
set_option maxHeartbeats 4000000
namespace L2
open PySem PySem.Spec PyProof.Rows
theorem Room.units65 {k : Nat} {A : Around} (r : Room k A) : A.units + 65 < cLine := by have := r.un; omega
end L2
namespace TPE
open PySem PySem.Spec PyProof.Rows L2 TPI RT
def top (i : Nat) : Stmt := PySem.Challenge.pw_turnpicks_k60_whole_players_without_loss.main.body.getD i (.Pass ⟨0, 0, 0, 0⟩)
/-- what the names of the built-ins and the constants hold -/
structure Bi (K : PySem.W.Frag) (mg : Str → Option Value) (pA oA : Addr) : Prop where
  isinstance : mg "isinstance" = none
  len : mg "len" = none
  all : mg "all" = none
  any : mg "any" = none
  sum : mg "sum" = none
  min : mg "min" = none
  sorted : mg "sorted" = none
  list : mg "list" = none
  tuple : mg "tuple" = none
  range : mg "range" = none
  enumerate : mg "enumerate" = none
  zip : mg "zip" = none
  reversed : mg "reversed" = none
  int : mg "int" = none
  bool : mg "bool" = none
  str : mg "str" = none
  mPLAYERS : mg "PLAYERS" = some (.ref pA)
  sPLAYERS : ∀ H, SqT K H pA [.str "A", .str "B"]
  oPLAYERS : ∃ o, K.lookup pA = some o ∧ o.cls = .type "tuple" ∧ o.dict = none
  mOPPONENTS : mg "OPPONENTS" = some (.ref oA)
  sOPPONENTS : ∀ H, SqT K H oA [.str "plain", .str "hostile", .str "thinking"]
  mMAX_KINDS : ∃ t, mg "MAX_KINDS" = some (.int 60 t)
  mMAX_BLOCKS : ∃ t, mg "MAX_BLOCKS" = some (.int 200 t)
  mMAX_TURNS : ∃ t, mg "MAX_TURNS" = some (.int 20 t)
  mMAX_PICKS : ∃ t, mg "MAX_PICKS" = some (.int 200 t)
/-- a def of the top, by its global name -/
def FunG (K : PySem.W.Frag) (mg : Str → Option Value) (n x : Str) (st : Stmt) : Prop := ∃ f fd, FunD K x x (defArgs st) (defBody st) (defScope st) [] [] f fd ∧ mg n = some (.ref f)
/-- the global name x keeps its promise -/
def Okd [Tb] (P : Program) (w : World) (K : PySem.W.Frag) (mg : Str → Option Value) (base : Heap) (k : Nat) (x : Str) (ps : List Str) (g : Option Addr → List Pd → Pd → Prop) : Prop :=
  ∃ f fd, FnOk P w K mg base CX0 k f fd ps (SpF g) ∧ mg x = some (.ref f) ∧ PySem.W.keepIn K (.ref f) = true ∧ Binds K fd ps []
section
variable {X : Cx} {k : Nat} {x : Str} {ps : List Str} {g : Option Addr → List Pd → Pd → Prop} {e : Expr} {es : List Expr} {p pos : Pos} {t : TA}
theorem pe_callO [Tb] (O : Okd X.prog X.w X.K X.mg X.base k x ps g) (hr : Room k X.A) (hg : Gl X x) (ha : PA X (e :: es) t) (hdb : (x == ("__debug__" : Str)) = false := by decide) (he : starEach (e :: es) X.env = (false, eval e X.env) :: starEach es X.env := by rfl) (hpl : (backTo pos (starEach es X.env)).any (·.1) = false := by rfl) :
    PE X (.Call (.Name x p) (e :: es) [] pos) (tCall (SpF g) [] E0 t) := by
  obtain ⟨f, fd, F, hm, hk, hb⟩ := O
  exact pe_call F hr hg hm hk hb .nil pass0 ha hdb he hpl
theorem pe_globR {a : Addr} {pos : Pos} (hg : Gl X x) (hm : X.mg x = some (.ref a)) (hd : (x == ("__debug__" : Str)) = false := by decide) : PE X (.Name x pos) (tC (.ref a)) := pe_glob (v := .ref a) hg hm rfl hd
/-- a constant of the module -/
theorem pe_globI {n : Int} {pos : Pos} (hg : Gl X x) (hm : ∃ t, X.mg x = some (.int n t)) (hd : (x == ("__debug__" : Str)) = false := by decide) : PE X (.Name x pos) (tC (.int n)) := by
  obtain ⟨t, hm⟩ := hm
  exact pe_glob hg hm ⟨t, rfl⟩ hd
end
/-! ### numbers as data -/
abbrev nI (n : Nat) : PyData := .int (n : Int)
/-- a list of numbers -/
def LN (ns : List Nat) : List PyData := (ns.map fun (n : Nat) => (n : Int)).map PyData.int
def ZN (ns : List Nat) : List Int := ns.map fun (n : Nat) => (n : Int)
theorem LN_length (ns : List Nat) : (LN ns).length = ns.length := by simp [LN]
theorem LN_eq (ns : List Nat) : LN ns = (ZN ns).map PyData.int := rfl
theorem LN_append (a b : List Nat) : LN (a ++ b) = LN a ++ LN b := by simp [LN]
theorem LN_get {ns : List Nat} {i : Nat} (h : i < ns.length) : (LN ns)[i]? = some (nI (ns.getD i 0)) := by
  simp [LN, List.getElem?_map, List.getElem?_eq_getElem h, List.getD_eq_getElem?_getD]
theorem LN_getD {ns : List Nat} {i : Nat} (h : i < ns.length) : (LN ns).getD i .none = nI (ns.getD i 0) := by
  rw [List.getD_eq_getElem?_getD, LN_get h]; rfl
theorem LN_at {ns : List Nat} {i : Nat} (h : i < ns.length) : atI (LN ns) (i : Int) = some (nI (ns.getD i 0)) := atI_nat (LN_get h)
theorem LN_set (ns : List Nat) (i v : Nat) : (LN ns).set i (nI v) = LN (ns.set i v) := by simp [LN, List.map_set]
theorem ixN_nat {n i : Nat} (h : i < n) : ixN n (i : Int) = some i := by
  unfold ixN
  rw [if_pos (by omega), if_pos (by omega)]
  simp
theorem ZN_sum (ns : List Nat) : (ZN ns).sum = (ns.sum : Nat) := by
  induction ns with
  | nil => rfl
  | cons n ns ih => simp [ZN] at *; omega
theorem eqv_ints : ∀ a b : List Int, PyData.eqvAll (a.map PyData.int) (b.map PyData.int) = decide (a = b) := by
  intro a
  induction a with
  | nil => intro b; cases b <;> rfl
  | cons x a ih =>
    intro b
    cases b with
    | nil => rfl
    | cons y b =>
      have e : PyData.eqvAll ((x :: a).map PyData.int) ((y :: b).map PyData.int) = (PyData.eqv (.int x) (.int y) && PyData.eqvAll (a.map PyData.int) (b.map PyData.int)) := rfl
      rw [e, ih b]
      have e2 : PyData.eqv (.int x) (.int y) = decide (x = y) := by
        by_cases h : x = y
        · subst h; simp [PyData.eqv]
        · simp [PyData.eqv, h]
      rw [e2]
      by_cases h : x = y <;> by_cases h2 : a = b <;> simp [h, h2]
end TPE
namespace TPE
open PySem PySem.Spec PyProof.Rows L2 TPI RT
theorem cxK {CX : CXT} {P : Program} {w : World} {K : PySem.W.Frag} {mg : Str → Option Value} {base : Heap} {N : List Str} {qual : Str} {scope : Scope} {f : Addr} {cd : Value} {A : Around} {outer : List Env} {s : Shared} {H : Hp} {E : XK} :
    (cxOf CX P w K mg base N qual scope f cd A outer s H E).nox.K = K := rfl
theorem cxK2 {CX : CXT} {P : Program} {w : World} {K : PySem.W.Frag} {mg : Str → Option Value} {base : Heap} {N : List Str} {qual : Str} {scope : Scope} {f : Addr} {cd : Value} {A : Around} {outer : List Env} {s : Shared} {H : Hp} {E : XK} :
    (cxOf CX P w K mg base N qual scope f cd A outer s H E).K = K := rfl
theorem cxKB {X : Cx} {s : Shared} {H : Hp} {scope : Scope} {ce : Env} {fp : List Addr} : (X.blk s H scope ce fp).K = X.K := rfl
section
variable {M : Option Addr} {K : PySem.W.Frag} {Γ : List Slt} {te : TE} {d : Pd} {P : Po}
theorem ds_retR [Tb] (he : Ev M te Γ d) (hP : P.rt = (PoR d).rt := by rfl) : Ds M (tRet te) Γ P := ds_ret he (by rw [hP]; exact Sub.refl d)
theorem ds_retS [Tb] {d' : Pd} (he : Ev M te Γ d') (hs : Sub d' d) (hP : P.rt = (PoR d).rt := by rfl) : Ds M (tRet te) Γ P := ds_ret he (by rw [hP]; exact hs)
end
end TPE
namespace TPE
open PySem PySem.Spec PyProof.Rows L2 TPI RT
section
variable {M : Option Addr} {K : PySem.W.Frag} {Γ : List Slt} {t ta tb tc te to ti : TE} {d : Pd} {P : Po} {sk : Sk} {ds es : List PyData} {i k : Int} {b b' : Bool} {z y : Str} {tt : TT}
theorem el_len [Tb] (h : EvJ M t Γ (jq K sk ds)) : Ev M (tCB (fun xs H Q => ∃ x n, xs = [x] ∧ LenV K x H n ∧ Q (.int n) H) (tCons t tNil)) Γ (dP K (.int ds.length)) := ev_cb (evj_cons h evj_nil) cj_len
theorem el_lenS [Tb] (h : Ev M t Γ (dP K (.str z))) (hz : z.length ≤ sizeLine) : Ev M (tCB (fun xs H Q => ∃ x n, xs = [x] ∧ LenV K x H n ∧ Q (.int n) H) (tCons t tNil)) Γ (dP K (.int z.length)) := ev_cb (evj_cons (evj h) evj_nil) (cj_lenS hz)
theorem el_i [Tb] {f : Int → Int → Int} (ha : Ev M ta Γ (dP K (.int i))) (hb : Ev M tb Γ (dP K (.int k))) : Ev M (tOp (rI0 fun i j => .int (f i j)) ta tb) Γ (dP K (.int (f i k))) := ev_op (evj ha) (evj hb) oj_i
theorem el_b [Tb] {f : Int → Int → Bool} (ha : Ev M ta Γ (dP K (.int i))) (hb : Ev M tb Γ (dP K (.int k))) : Ev M (tOp (rI0 fun i j => .bl (f i j)) ta tb) Γ (dP K (.bool (f i k))) := ev_op (evj ha) (evj hb) oj_b
theorem el_eqI [Tb] (ha : Ev M ta Γ (dP K (.int i))) (hb : Ev M tb Γ (dP K (.int k))) : Ev M (tOp rEq ta tb) Γ (dP K (.bool (decide (i = k)))) := ev_op (evj ha) (evj hb) oj_eqI
theorem el_neI [Tb] (ha : Ev M ta Γ (dP K (.int i))) (hb : Ev M tb Γ (dP K (.int k))) : Ev M (tOp rNe ta tb) Γ (dP K (.bool (!decide (i = k)))) := ev_op (evj ha) (evj hb) oj_neI
theorem el_eqS [Tb] (ha : Ev M ta Γ (dP K (.str z))) (hb : Ev M tb Γ (dP K (.str y))) : Ev M (tOp rEq ta tb) Γ (dP K (.bool (decide (z = y)))) := ev_op (evj ha) (evj hb) oj_eqS
theorem el_neS [Tb] (ha : Ev M ta Γ (dP K (.str z))) (hb : Ev M tb Γ (dP K (.str y))) : Ev M (tOp rNe ta tb) Γ (dP K (.bool (!decide (z = y)))) := ev_op (evj ha) (evj hb) oj_neS
theorem el_eqB [Tb] (ha : Ev M ta Γ (dP K (.bool b))) (hb : Ev M tb Γ (dP K (.bool b'))) : Ev M (tOp rEq ta tb) Γ (dP K (.bool (decide (b = b')))) := ev_op (evj ha) (evj hb) oj_eqB
theorem el_neB [Tb] (ha : Ev M ta Γ (dP K (.bool b))) (hb : Ev M tb Γ (dP K (.bool b'))) : Ev M (tOp rNe ta tb) Γ (dP K (.bool (!decide (b = b')))) := ev_op (evj ha) (evj hb) oj_neB
/-- an index -/
theorem el_ix [Tb] {x : PyData} (ha : EvJ M ta Γ (jq K sk ds)) (hb : Ev M tb Γ (dP K (.int i))) (h : atI ds i = some x) : Ev M (tOp (rIx K) ta tb) Γ (dP K x) := ev_op ha (evj hb) (oj_ix h)
/-- l[i] of numbers -/
theorem el_ixN [Tb] {ns : List Nat} {j : Nat} (ha : EvJ M ta Γ (jq K sk (LN ns))) (hb : Ev M tb Γ (dP K (nI j))) (h : j < ns.length) : Ev M (tOp (rIx K) ta tb) Γ (dP K (nI (ns.getD j 0))) := ev_op ha (evj hb) (oj_ix (LN_at h))
theorem el_isi [Tb] {x : PyData} {C : String} (h : Ev M t Γ (dP K x)) (e : kitB (tyN x) C = some b) : Ev M (tCB (rIsi K) (tCons t (tCons (tC (.ty C)) tNil))) Γ (dP K (.bool b)) := ev_cb (evj_cons (evj h) (evj_cons (evj ev_c) evj_nil)) (cj_isi e)
theorem el_all [Tb] {bs : List Bool} (h : EvC M t Γ (.own (ownL K (bs.map PyData.bool)))) : Ev M (tCB (rAll K) (tCons t tNil)) Γ (dP K (.bool (bs.all id))) := ev_cb (evj_cons (EvJ.q_l (ev_frz h)) evj_nil) cj_all
theorem el_any [Tb] {bs : List Bool} (h : EvC M t Γ (.own (ownL K (bs.map PyData.bool)))) : Ev M (tCB (rAny K) (tCons t tNil)) Γ (dP K (.bool (bs.any id))) := ev_cb (evj_cons (EvJ.q_l (ev_frz h)) evj_nil) cj_any
theorem el_sum [Tb] {ns : List Int} (h : EvC M t Γ (.own (ownL K (ns.map PyData.int)))) : Ev M (tCB (rSum K) (tCons t tNil)) Γ (dP K (.int ns.sum)) := ev_cb (evj_cons (EvJ.q_l (ev_frz h)) evj_nil) cj_sum
theorem el_list [Tb] (h : EvJ M t Γ (jq K sk ds)) : EvC M (tCB (fun xs H Q => ∃ p ys, xs = [.ref p] ∧ (SqL K H p ys ∨ SqT K H p ys) ∧ ∀ l, H l = none → Q (.ref l) (upd H l (.lst ys))) (tCons t tNil)) Γ (.own (ownL K ds)) := evc_cb (evj_cons h evj_nil) cj_list
/-- tuple(l), l a list -/
theorem el_tup [Tb] (h : EvJ M t Γ (jq K .l ds)) : Ev M (tCB (rTupX K) (tCons t tNil)) Γ (plP K ds) := ev_cb (evj_cons h evj_nil) cj_tupX
theorem el_testN [Tb] (h : Ev M t Γ (dP K (.bool b))) : EvT M (tTest t) Γ (· = b) := evt_test h
/-- a comprehension where everything is kept -/
theorem evc_map [Tb] {wi : TI} {g : TG} {vs : List Nat} {n : Nat} {it : Nat → Pd} (hi : EvI M wi Γ n it) (xs : List PyData) (hx : xs.length = n) (hz : n ≤ 1000) (hs : ∀ i x, xs[i]? = some x → ∃ Γ'', Gt M g vs (wipeG Γ vs) (it i) Γ'' ∧ Ev M te Γ'' (dP K x)) :
    EvC M (tLc wi g tYes te vs) Γ (.own (ownL K xs)) := by
  subst hx
  refine evc_eqL (evc_lc (K := K) hi (fun i => xs.take i) rfl fun i hi => ⟨?_, ?_⟩) List.take_length
  · rw [List.length_take]
    exact Nat.lt_of_le_of_lt (Nat.min_le_right _ _) (small1000 hz)
  · obtain ⟨Γ'', h1, h2⟩ := hs i xs[i] (List.getElem?_eq_getElem hi)
    refine ⟨Γ'', h1, (· = true), evt_yes, fun _ => ⟨_, h2, ?_⟩, fun z => by cases z⟩
    rw [List.take_add_one, List.getElem?_eq_getElem hi]
    rfl
end
end TPE
end
section
set_option maxHeartbeats 4000000
namespace TPE
open PySem PySem.Spec PyProof.Rows L2 TPI TPZ RT
local macro_rules | `(tactic| walk_at "go") => `(tactic| (try dsimp only [cxK, cxKB, cxK2]); (try dsimp [Gam]); (try dsimp only [List.map_cons, List.map_nil, List.cons_append, List.nil_append]))
local macro_rules | `(tactic| walk_at "ev") => `(tactic| first
  | ((with_reducible refine ev_var ?_); exact rfl)
  | with_reducible exact ev_int
  | with_reducible exact ev_str
  | with_reducible exact ev_bl
  | with_reducible exact ev_non
  | with_reducible exact ev_c
  | ((with_reducible apply el_i) <;> walk_at "ev")
  | ((with_reducible apply el_b) <;> walk_at "ev")
  | ((with_reducible apply el_eqI); (walk_at "ev"); (walk_at "ev"))
  | ((with_reducible apply el_neI); (walk_at "ev"); (walk_at "ev"))
  | ((with_reducible apply el_eqS); (walk_at "ev"); (walk_at "ev"))
  | ((with_reducible apply el_neS); (walk_at "ev"); (walk_at "ev"))
  | ((with_reducible apply ev_notV) <;> walk_at "ev")
  | ((with_reducible apply el_len) <;> walk_at "ej"))
local macro_rules | `(tactic| walk_at "ej") => `(tactic| first
  | ((with_reducible refine ev_own ?_); exact rfl)
  | ((with_reducible refine EvJ.q_s ?_); walk_at "ev")
  | ((with_reducible refine EvJ.q_l ?_); walk_at "ev")
  | ((with_reducible refine EvJ.q_t ?_); walk_at "ev")
  | ((with_reducible refine evj ?_); walk_at "ev"))
local macro_rules | `(tactic| walk_at "ea") => `(tactic| first
  | with_reducible exact eva_nil
  | ((with_reducible refine eva_cons ?_ ?_); (walk_at "ev"); (walk_at "ea")))
section
variable {P : Program} {w : World} {K : PySem.W.Frag} {mg : Str → Option Value} {base : Heap} {pA oA : Addr}
/-- is_integer of an int -/
inductive gIsInt (K : PySem.W.Frag) : Option Addr → List Pd → Pd → Prop
  | mk (n : Int) : gIsInt K none [dP K (.int n)] (dP K (.bool true))
theorem sc_isint : FnScope ["value"] ["value"] (defScope (top 21)) := ⟨rfl, rfl, rfl, by decide +kernel, rfl, by decide +kernel, by decide +kernel⟩
-- slots: 0 value
theorem w_isint [Tb] (B : Bi K mg pA oA) (D : FunG K mg "is_integer" "is_integer" (top 21)) : Okd P w K mg base 1 "is_integer" ["value"] (gIsInt K) := by
  obtain ⟨f, fd, F, m⟩ := D
  refine ⟨f, fd, F.ok sc_isint (fun vs H Q E h => SpF.len (fun M ds d hg => by cases hg; rfl) h) (fun cdv A outer s H vs Q E hr h => ⟨_, PSs.nox ((pss_one (ps_ret (pe_and (pe_callB call_isi rfl B.isinstance (by decide +kernel) (pa_cons (pv 0) (pa_cons (pe_bltn (v := .ty "int") rfl B.int (by decide +kernel) rfl) pa_nil))) (pe_one (pe_not (pe_callB call_isi rfl B.isinstance (by decide +kernel) (pa_cons (pv 0) (pa_cons (pe_bltn (v := .ty "bool") rfl B.bool (by decide +kernel) rfl) pa_nil))))))))), body_of (fun M ds d hg => ?_) h⟩), m, F.kp, F.bindsN (fun _ _ _ _ _ _ us hl => match us, hl with | [_], _ => rfl)⟩
  cases hg with
  | mk n =>
  refine ⟨by simp, ?_⟩
  walk_at "go"
  refine ds_retR (ev_andV (b := true) (b' := true) ?_ fun _ => ev_notV (b := false) ?_)
  · exact el_isi (x := .int n) (by walk_at "ev") rfl
  · exact el_isi (x := .int n) (by walk_at "ev") rfl
inductive gAtLeast (K : PySem.W.Frag) : Option Addr → List Pd → Pd → Prop
  | mk (n low : Int) : gAtLeast K none [dP K (.int n), dP K (.int low)] (dP K (.bool (decide (low ≤ n))))
theorem sc_atleast : FnScope ["value", "low"] ["value", "low"] (defScope (top 22)) := ⟨rfl, rfl, rfl, by decide +kernel, rfl, by decide +kernel, by decide +kernel⟩
-- slots: 0 value, 1 low
theorem w_atleast [Tb] (B : Bi K mg pA oA) (D : FunG K mg "is_at_least" "is_at_least" (top 22)) (O_is_integer : Okd P w K mg base 1 "is_integer" ["value"] (gIsInt K)) : Okd P w K mg base 2 "is_at_least" ["value", "low"] (gAtLeast K) := by
  obtain ⟨f, fd, F, m⟩ := D
  refine ⟨f, fd, F.ok sc_atleast (fun vs H Q E h => SpF.len (fun M ds d hg => by cases hg; rfl) h) (fun cdv A outer s H vs Q E hr h => ⟨_, PSs.nox ((pss_one (ps_ret (pe_and (pe_callO O_is_integer (hr.mono (by decide)) rfl (pa_cons (pv 0) pa_nil)) (pe_one (pe_cmpR op_ge (pv 0) (pv 1) (nomark _))))))), body_of (fun M ds d hg => ?_) h⟩), m, F.kp, F.bindsN (fun _ _ _ _ _ _ us hl => match us, hl with | [_, _], _ => rfl)⟩
  cases hg with
  | mk n low =>
  refine ⟨by simp, ?_⟩
  walk_at "go"
  refine ds_retR (ev_eq (ev_andV (b := true) (b' := decide (low ≤ n)) ?_ fun _ => ?_) (by rw [Bool.true_and]))
  · exact ev_call (eva_cons (by walk_at "ev") eva_nil) (gIsInt.mk n) (.inl rfl)
  · walk_at "ev"
inductive gBetween (K : PySem.W.Frag) : Option Addr → List Pd → Pd → Prop
  | mk (n low high : Int) : gBetween K none [dP K (.int n), dP K (.int low), dP K (.int high)] (dP K (.bool (decide (low ≤ n) && decide (n ≤ high))))
theorem sc_between : FnScope ["value", "low", "high"] ["value", "low", "high"] (defScope (top 23)) := ⟨rfl, rfl, rfl, by decide +kernel, rfl, by decide +kernel, by decide +kernel⟩
-- slots: 0 value, 1 low, 2 high
theorem w_between [Tb] (B : Bi K mg pA oA) (D : FunG K mg "is_between" "is_between" (top 23)) (O_is_integer : Okd P w K mg base 1 "is_integer" ["value"] (gIsInt K)) : Okd P w K mg base 2 "is_between" ["value", "low", "high"] (gBetween K) := by
  obtain ⟨f, fd, F, m⟩ := D
  refine ⟨f, fd, F.ok sc_between (fun vs H Q E h => SpF.len (fun M ds d hg => by cases hg; rfl) h) (fun cdv A outer s H vs Q E hr h => ⟨_, PSs.nox ((pss_one (ps_ret (pe_and (pe_callO O_is_integer (hr.mono (by decide)) rfl (pa_cons (pv 0) pa_nil)) (pe_one (pe_chain op_le op_le (pv 1) (pv 0) (pv 2))))))), body_of (fun M ds d hg => ?_) h⟩), m, F.kp, F.bindsN (fun _ _ _ _ _ _ us hl => match us, hl with | [_, _, _], _ => rfl)⟩
  cases hg with
  | mk n low high =>
  refine ⟨by simp, ?_⟩
  walk_at "go"
  refine ds_retR (ev_eq (ev_andV (b := true) (b' := decide (low ≤ n) && decide (n ≤ high)) ?_ fun _ => ?_) (by rw [Bool.true_and]))
  · exact ev_call (eva_cons (by walk_at "ev") eva_nil) (gIsInt.mk n) (.inl rfl)
  · exact ev_chain (by walk_at "ej") (by walk_at "ej") oj_b (fun _ => by walk_at "ej") oj_b
/-- a bundle of n numbers -/
inductive gBundle (K : PySem.W.Frag) : Option Addr → List Pd → Pd → Prop
  | mk (ns : List Nat) (h : ns.length ≤ 1000) : gBundle K none [dP K (.tuple (LN ns)), dP K (nI ns.length)] (dP K (.bool true))
theorem sc_bundle : FnScope ["value", "many", "entry"] ["value", "many"] (defScope (top 24)) := ⟨rfl, rfl, rfl, by decide +kernel, rfl, by decide +kernel, by decide +kernel⟩
-- slots: 0 value, 1 many, 2 entry
theorem w_bundle [Tb] (B : Bi K mg pA oA) (D : FunG K mg "is_bundle" "is_bundle" (top 24)) (O_is_at_least : Okd P w K mg base 2 "is_at_least" ["value", "low"] (gAtLeast K)) : Okd P w K mg base 3 "is_bundle" ["value", "many"] (gBundle K) := by
  obtain ⟨f, fd, F, m⟩ := D
  refine ⟨f, fd, F.ok sc_bundle (fun vs H Q E h => SpF.len (fun M ds d hg => by cases hg; rfl) h) (fun cdv A outer s H vs Q E hr h => ⟨_, PSs.nox ((pss_one (ps_ret (pe_and (pe_callB call_isi rfl B.isinstance (by decide +kernel) (pa_cons (pv 0) (pa_cons (pe_bltn (v := .ty "tuple") rfl B.tuple (by decide +kernel) rfl) pa_nil))) (pe_and (pe_cmpR op_eq (pe_callB call_len rfl B.len (by decide +kernel) (pa_cons (pv 0) pa_nil)) (pv 1) (nomark _)) (pe_one (pe_callB (cr_all rfl) rfl B.all (by decide +kernel) (pa_cons (pe_lc (own := [("entry", 2)]) rfl sc_bundle.nd (pi_src (pv 0)) (blkOk_by (own := [("entry", 2)]) (N := ["value", "many", "entry"]) (sc := defScope (top 24)) (by decide +kernel)) (fun _ _ _ _ _ => (pg_name (i := 2) sc_bundle.nd rfl (by first | exact Or.inl rfl | exact Or.inr rfl))) (fun _ _ _ _ _ => pts_nil) (fun _ _ _ _ _ => (pe_callO O_is_at_least (hr.mono (by decide)) rfl (pa_cons (pv 2) (pa_cons pe_int pa_nil))))) pa_nil)))))))), body_of (fun M ds d hg => ?_) h⟩), m, F.kp, F.bindsN (fun _ _ _ _ _ _ us hl => match us, hl with | [_, _], _ => rfl)⟩
  cases hg with
  | mk ns hz =>
  refine ⟨by simp, ?_⟩
  walk_at "go"
  have h1 : decide ((((LN ns).length : Nat) : Int) = (ns.length : Int)) = true := by simp [LN_length]
  refine ds_retR (ev_andV (b := true) (b' := true) ?_ fun _ => ev_andV (b := true) (b' := true) ?_ fun _ => ?_)
  · exact el_isi (x := .tuple (LN ns)) (by walk_at "ev") rfl
  · exact ev_eq (by walk_at "ev") (congrArg PyData.bool h1)
  · refine ev_eq (el_all (bs := List.replicate ns.length true) (evc_eqL (evc_map (K := K) (evi_src (ds := LN ns) (by walk_at "ev") itd_t) (List.replicate ns.length (.bool true)) (by simp [LN_length]) (by rw [LN_length]; exact hz) fun i x hx => ⟨_, gt_name (by simp), ?_⟩) (by simp))) (by simp)
    have hi : i < ns.length := by
      rcases Nat.lt_or_ge i ns.length with h | h
      · exact h
      · rw [List.getElem?_eq_none (by simpa using h)] at hx; cases hx
    have e : x = .bool true := by simpa [hi] using hx.symm
    subst e
    rw [LN_getD hi]
    refine ev_eq (ev_call (d := dP K (.bool (decide ((0 : Int) ≤ (ns.getD i 0 : Nat))))) (eva_cons (by walk_at "ev") (eva_cons (by walk_at "ev") eva_nil)) (gAtLeast.mk _ _) (.inl rfl)) (by simp)
end
end TPE
end
section
set_option maxHeartbeats 4000000
namespace TPE
open PySem PySem.Spec PyProof.Rows L2 TPI TPZ RT
/-! ### words, blocks, lists as data -/
def cd (p : Bool) : Nat := if p then 65 else 66
def SW (w : List Bool) : Str := ⟨(w.map cd).toArray⟩
theorem SW_length (w : List Bool) : (SW w).length = w.length := by simp [SW, Str.length]
theorem SW_toList (w : List Bool) : (SW w).cps.toList = w.map cd := by simp [SW]
theorem cd_inj {a b : Bool} (h : cd a = cd b) : a = b := by cases a <;> cases b <;> first | rfl | (simp [cd] at h)
theorem SW_inj {a b : List Bool} (h : SW a = SW b) : a = b := by
  have h2 : a.map cd = b.map cd := by
    have := congrArg (fun s => s.cps.toList) h
    simpa [SW] using this
  exact List.map_inj_right (fun x y => cd_inj) |>.mp h2
theorem SW_eq (a b : List Bool) : decide (SW a = SW b) = decide (a = b) := by
  by_cases h : a = b
  · subst h; simp
  · rw [decide_eq_false h, decide_eq_false fun e => h (SW_inj e)]
theorem SW_A : ("A" : Str) = SW [true] := by rfl
theorem SW_B : ("B" : Str) = SW [false] := by rfl
/-- a player -/
abbrev pD (p : Bool) : PyData := .str (SW [p])
abbrev bD (b : List Bool × Nat) : PyData := .tuple [.str (SW b.1), nI b.2]
def BD (bs : List (List Bool × Nat)) : List PyData := bs.map bD
structure BlOk (bs : List (List Bool × Nat)) : Prop where
  few : bs.length ≤ 100
  ok : ∀ b ∈ bs, b.1 ≠ [] ∧ b.1.length ≤ 20 ∧ 1 ≤ b.2 ∧ b.2 ≤ 1000
/-- the word of a sequence -/
def flat (bs : List (List Bool × Nat)) : List Bool := (bs.map fun b => (List.replicate b.2 b.1).flatten).flatten
theorem flat_nil : flat [] = [] := rfl
theorem flat_cons (b : List Bool × Nat) (bs : List (List Bool × Nat)) : flat (b :: bs) = (List.replicate b.2 b.1).flatten ++ flat bs := by simp [flat]
theorem flat_append (a b : List (List Bool × Nat)) : flat (a ++ b) = flat a ++ flat b := by simp [flat]
theorem rep_length {α : Type} (n : Nat) (w : List α) : (List.replicate n w).flatten.length = n * w.length := by
  induction n with
  | zero => simp
  | succ n ih => rw [List.replicate_succ, List.flatten_cons, List.length_append, ih, Nat.succ_mul, Nat.add_comm]
abbrev lsD (r1 r2 : List Nat) : PyData := .tuple [.tuple (LN r1), .tuple (LN r2)]
abbrev lsP (K : PySem.W.Frag) (r1 r2 : List Nat) : Pd := tupP K [plP K (LN r1), plP K (LN r2)]
theorem lsP_d [Tb] {K : PySem.W.Frag} {r1 r2 : List Nat} {F : Hp} {v : V} (h : (lsP K r1 r2).hold F v) : (dP K (lsD r1 r2)).hold F v := by
  obtain ⟨a, vs, rfl, h1, h2⟩ := h
  cases h2 with
  | cons h3 h2 =>
    cases h2 with
    | cons h4 h2 =>
      cases h2
      exact .tup h1 (.cons (plP_d h3) (.cons (plP_d h4) .nil))
/-- a ranking of k kinds -/
structure RkOk (k : Nat) (r : List Nat) : Prop where
  perm : r.Perm (List.range k)
  few : k ≤ 60
theorem RkOk.length {k : Nat} {r : List Nat} (h : RkOk k r) : r.length = k := by simpa using h.perm.length_eq
theorem RkOk.lt {k : Nat} {r : List Nat} (h : RkOk k r) {x : Nat} (hx : x ∈ r) : x < k := List.mem_range.mp (h.perm.mem_iff.mp hx)
theorem RkOk.mem {k : Nat} {r : List Nat} (h : RkOk k r) {x : Nat} (hx : x < k) : x ∈ r := h.perm.mem_iff.mpr (List.mem_range.mpr hx)
theorem RkOk.nd {k : Nat} {r : List Nat} (h : RkOk k r) : r.Nodup := h.perm.nodup_iff.mpr List.nodup_range
theorem ds_none [Tb] {M : Option Addr} {Γ : List Slt} {ts tu : TS} {tc : TT} {P : Po} (hc : EvT M tc Γ (· = false)) (h2 : Ds M tu Γ P) : Ds M (tIfS tc ts tu) Γ P := ds_ifB hc (fun z => by cases z) fun _ => h2
theorem ev_sub [Tb] {M : Option Addr} {t : TE} {Γ : List Slt} {d d' : Pd} (h : Ev M t Γ d) (k : ∀ F v, d.hold F v → d'.hold F v) : Ev M t Γ d' := h.mono k
section
variable {M : Option Addr} {K : PySem.W.Frag} {Γ Γ' : List Slt} {t ta tb tc' te to ti : TE} {d : Pd} {c c2 : Slt} {P : Po} {ts tu tv : TS} {tc : TT} {b : Bool} {ds es : List PyData} {i k : Nat} {vs : List Nat} {g : TG}
/-- a guard that does not strike -/
theorem dq_guard [Tb] (hc : EvT M tc Γ (· = b)) (e : b = false) (h : Ds M tu Γ P) : Ds M (tSeq (tIfS tc ts tNext) tu) Γ P := ds_seq (ds_ifB hc (fun z => by rw [z] at e; cases e) fun _ => ds_next h)
theorem dq_guardL [Tb] (hc : EvT M tc Γ (· = b)) (e : b = false) (h : P.nx Γ) : Ds M (tIfS tc ts tNext) Γ P := ds_ifB hc (fun z => by rw [z] at e; cases e) fun _ => ds_next h
theorem dq_set [Tb] (he : EvC M te Γ c) (h : Ds M tu (Γ.set i c) P) : Ds M (tSeq (tAsg te (gName i)) tu) Γ P := ds_seq (ds_set he h)
theorem dq_setV [Tb] (he : Ev M te Γ d) (h : Ds M tu (Γ.set i (.val d)) P) : Ds M (tSeq (tAsg te (gName i)) tu) Γ P := ds_seq (ds_setV he h)
theorem dq_drop [Tb] (he : Ev M te Γ d) (h : Ds M tu Γ P) : Ds M (tSeq (tDrop te) tu) Γ P := ds_seq (ds_drop he h)
theorem dq_asg [Tb] (he : Ev M te Γ d) (hg : Gt M g vs Γ d Γ') (h : Ds M tu Γ' P) : Ds M (tSeq (tAsg te g) tu) Γ P := ds_seq (ds_asg he hg h)
theorem dq_par [Tb] (h1 : EvC M ta Γ c) (h2 : EvC M tb Γ c2) (hik : i ≠ k) (hn : Ds M tu ((Γ.set i c).set k c2) P) : Ds M (tSeq (tPar i k (tCons ta (tCons tb tNil))) tu) Γ P := ds_seq (ds_par h1 h2 hik hn)
theorem dq_append [Tb] {x : PyData} (h : Γ[i]? = some (.own (ownL K ds))) (he : Ev M te Γ (dP K x)) (hz : ds.length < sizeLine) (k : Ds M tu (Γ.set i (.own (ownL K (ds ++ [x])))) P) :
    Ds M (tSeq (tDrop (tBM K "list" rAppend (tVar i) (tCons te tNil))) tu) Γ P := ds_seq (ds_append h he hz k)
theorem dq_if [Tb] (hc : EvT M tc Γ (· = b)) (h1 : b = true → Ds M ts Γ { P with nx := fun Γ' => Ds M tv Γ' P }) (h2 : b = false → Ds M tu Γ { P with nx := fun Γ' => Ds M tv Γ' P }) : Ds M (tSeq (tIfS tc ts tu) tv) Γ P := ds_seq (ds_ifB hc h1 h2)
/-- a for, then the rest -/
theorem dq_for [Tb] {wi : TI} {n : Nat} {it : Nat → Pd} (hi : EvI M wi Γ n it) (Iv : Nat → List Slt → Prop) (h0 : Iv 0 Γ) (hs : ∀ i Γ', i < n → Iv i Γ' → ∃ Γ'' vs, Gt M g vs Γ' (it i) Γ'' ∧ Ds M ts Γ'' { nx := Iv (i + 1), ct := Iv (i + 1), bk := fun Γ' => Ds M tu Γ' P, rt := P.rt })
    (he : ∀ Γ', Iv n Γ' → Ds M tu Γ' P) : Ds M (tSeq (tFor wi g ts) tu) Γ P := ds_seq (ds_for hi Iv h0 hs he)
theorem dq_retN [Tb] (K : PySem.W.Frag) {d : Pd} (h : ∀ F, d.hold F .non) (hP : P.rt = (PoR d).rt := by rfl) : Ds M tRetN Γ P := ds_retN (K := K) (by
  rw [hP]
  intro F v hv
  have hv : Dp K F v .none := hv
  cases hv
  exact h F)
/-- list(range(n)) -/
theorem el_rng [Tb] {n : Nat} (h : Ev M te Γ (dP K (nI n))) (hn : n ≤ 1000) : EvC M (tLstRg (tRg1 te)) Γ (.own (ownL K (LN (List.range n)))) := fun B O0 O σ H E Q q => h B O0 O σ H E _ fun v O1 H1 s hv => by
  have hv : Dp K (wo H1 O1) v (nI n) := hv
  cases hv
  refine ⟨n, rfl, .of_le (by omega) (by omega) (by omega) (by omega), fun p hp => ?_⟩
  have e : rgV 0 (n : Int) = (ZN (List.range n)).map V.int := by
    unfold rgV ZN
    simp
  rw [e]
  obtain ⟨s2, hc⟩ := ch_new E s (K := K) (vs := (ZN (List.range n)).map V.int) (ds := LN (List.range n)) ints_dpAll hp
  exact q _ _ _ s2 hc
end
theorem lay_ints : ∀ ns : List Int, PyData.canLayAll0 (ns.map PyData.int) = true
  | [] => rfl
  | n :: ns => by simp [PyData.canLayAll0, PyData.canLay0, lay_ints ns]
theorem shaped_intsL (ns : List Int) : SeqAt.shaped (.list (ns.map PyData.int)) = true := by
  unfold SeqAt.shaped
  simp [PyData.canLay0, PyData.depth, lay_ints, depth_ints]
theorem shaped_intsT (ns : List Int) : SeqAt.shaped (.tuple (ns.map PyData.int)) = true := by
  unfold SeqAt.shaped
  simp [PyData.canLay0, PyData.depth, lay_ints, depth_ints]
theorem eqv_intsL (a b : List Int) : PyData.eqv (.list (a.map PyData.int)) (.list (b.map PyData.int)) = decide (a = b) := eqv_ints a b
theorem eqv_intsT (a b : List Int) : PyData.eqv (.tuple (a.map PyData.int)) (.tuple (b.map PyData.int)) = decide (a = b) := eqv_ints a b
theorem ZN_inj {a b : List Nat} (h : ZN a = ZN b) : a = b := List.map_inj_right (fun (x y : Nat) (e : (x : Int) = (y : Int)) => by omega) |>.mp h
theorem ZN_eq (a b : List Nat) : decide (ZN a = ZN b) = decide (a = b) := by
  by_cases h : a = b
  · subst h; simp
  · rw [decide_eq_false h, decide_eq_false fun e => h (ZN_inj e)]
end TPE
end
section
set_option maxHeartbeats 400000
namespace TPE
open PySem PySem.Spec PyProof.Rows L2 TPI TPZ RT
local macro_rules | `(tactic| walk_at "go") => `(tactic| (try dsimp only [cxK, cxKB, cxK2]); (try dsimp [Gam]); (try simp only [List.map_cons, List.map_nil, List.cons_append, List.nil_append]))
local macro_rules | `(tactic| walk_at "ev") => `(tactic| first
  | ((with_reducible apply ev_var); exact rfl)
  | with_reducible exact ev_int
  | with_reducible exact ev_str
  | with_reducible exact ev_bl
  | with_reducible exact ev_non
  | with_reducible exact ev_c
  | ((with_reducible apply el_i) <;> walk_at "ev")
  | ((with_reducible apply el_b) <;> walk_at "ev")
  | ((with_reducible apply el_eqI); (walk_at "ev"); (walk_at "ev"))
  | ((with_reducible apply el_neI); (walk_at "ev"); (walk_at "ev"))
  | ((with_reducible apply el_eqS); (walk_at "ev"); (walk_at "ev"))
  | ((with_reducible apply el_neS); (walk_at "ev"); (walk_at "ev"))
  | ((with_reducible apply ev_notV) <;> walk_at "ev")
  | ((with_reducible apply el_isi); (walk_at "ev"); exact rfl)
  | ((with_reducible apply el_len) <;> walk_at "ej")
  | (((with_reducible apply ev_aT); (walk_at "ev")))
  | (((with_reducible apply ev_aL); (walk_at "ev")))
  | (((with_reducible apply ev_aP); (walk_at "ev")))
  | (((with_reducible apply ev_pl); (walk_at "ev"))))
local macro_rules | `(tactic| walk_at "ej") => `(tactic| first
  | ((with_reducible apply ev_own); exact rfl)
  | ((with_reducible apply EvJ.q_s); walk_at "ev")
  | ((with_reducible apply EvJ.q_l); walk_at "ev")
  | ((with_reducible apply EvJ.q_t); walk_at "ev")
  | ((with_reducible apply evj); walk_at "ev"))
local macro_rules | `(tactic| walk_at "ea") => `(tactic| first
  | with_reducible exact eva_nil
  | ((with_reducible apply eva_cons); (walk_at "ev"); (walk_at "ea")))
local macro_rules | `(tactic| walk_at "et") => `(tactic| first
  | ((with_reducible apply evt_or); (walk_at "et"); (intro _; walk_at "et"))
  | ((with_reducible apply evt_and); (walk_at "et"); (intro _; walk_at "et"))
  | ((with_reducible apply evt_not); (walk_at "et"))
  | ((with_reducible apply evt_test); (walk_at "ev"))
  | ((with_reducible apply evt_tB); (walk_at "ev")))
local macro_rules | `(tactic| walk_at "le") => `(tactic| ((try simp only [List.set_cons_zero, List.set_cons_succ]); repeat' (first | exact Le.nil | (with_reducible apply Le.un) | (apply Le.eq rfl) | apply Le.eq)))
section
variable {P : Program} {w : World} {K : PySem.W.Frag} {mg : Str → Option Value} {base : Heap} {pA oA : Addr}
inductive gList (K : PySem.W.Frag) : Option Addr → List Pd → Pd → Prop
  | mk (k : Nat) (r : List Nat) (h : RkOk k r) : gList K none [dP K (.tuple (LN r)), dP K (nI k)] (dP K (.bool true))
theorem sc_islist : FnScope ["value", "many", "kind"] ["value", "many"] (defScope (top 25)) := ⟨rfl, rfl, rfl, by decide +kernel, rfl, by decide +kernel, by decide +kernel⟩
-- slots: 0 value, 1 many*, 2 kind
theorem w_islist [Tb] (B : Bi K mg pA oA) (D : FunG K mg "is_list" "is_list" (top 25)) (O_is_between : Okd P w K mg base 2 "is_between" ["value", "low", "high"] (gBetween K)) : Okd P w K mg base 3 "is_list" ["value", "many"] (gList K) := by
  obtain ⟨f, fd, F, m⟩ := D
  refine ⟨f, fd, F.ok sc_islist (fun vs H Q E h => SpF.len (fun M ds d hg => by cases hg; rfl) h) (fun cdv A outer s H vs Q E hr h => ⟨_, PSs.nox ((pss_cons (ps_if (PW.pt (pw_or (pt_not (pt_val (pe_callB call_isi rfl B.isinstance (by decide +kernel) (pa_cons (pv 0) (pa_cons (pe_bltn (v := .ty "tuple") rfl B.tuple (by decide +kernel) rfl) pa_nil))))) (pw_or1 (pt_cmpR op_ne (pe_callB call_len rfl B.len (by decide +kernel) (pa_cons (pv 0) pa_nil)) (pv 1) (nomark _)))))
    (pss_one (ps_ret pe_bl))
    pss_nil)
    (pss_one (ps_ret (pe_and (pe_callB (cr_all rfl) rfl B.all (by decide +kernel) (pa_cons (pe_lc (own := [("kind", 2)]) rfl sc_islist.nd (pi_src (pv 0)) (blkOk_by (own := [("kind", 2)]) (N := ["value", "many", "kind"]) (sc := defScope (top 25)) (by decide +kernel)) (fun _ _ _ _ _ => (pg_name (i := 2) sc_islist.nd rfl (by first | exact Or.inl rfl | exact Or.inr rfl))) (fun _ _ _ _ _ => pts_nil) (fun _ _ _ _ _ => (pe_callO O_is_between (hr.mono (by decide)) rfl (pa_cons (pv 2) (pa_cons pe_int (pa_cons (pe_op op_sub (pv 1) pe_int) pa_nil)))))) pa_nil)) (pe_one (pe_cmpR (op_eqD hr.units) (pe_callB cr_sortedT rfl B.sorted (by decide +kernel) (pa_cons (pv 0) pa_nil)) (pe_listRg rfl rfl B.list (prg_1 rfl B.range (pv 1))) (nomark _)))))))), body_of (fun M ds d hg => ?_) h⟩), m, F.kp, F.bindsN (fun _ _ _ _ _ _ us hl => match us, hl with | [_, _], _ => rfl)⟩
  cases hg with
  | mk k r h =>
  refine ⟨by simp, ?_⟩
  walk_at "go"
  have hl := h.length
  have hk := h.few
  apply dq_guard
  · walk_at "et"
  · simp [LN_length, hl]
  refine ds_retR (ev_andV (b := true) (b' := true) ?_ fun _ => ?_)
  · refine ev_eq (el_all (bs := List.replicate k true) (evc_eqL (evc_map (K := K) (evi_src (ds := LN r) (by walk_at "ev") itd_t) (List.replicate k (.bool true)) (by simp [LN_length, hl]) (by rw [LN_length]; omega) fun i x hx => ⟨_, gt_name (by simp), ?_⟩) (by simp))) (by simp)
    have hi : i < k := by
      rcases Nat.lt_or_ge i k with h | h
      · exact h
      · rw [List.getElem?_eq_none (by simpa using h)] at hx; cases hx
    have e : x = .bool true := by simpa [hi] using hx.symm
    subst e
    rw [LN_getD (by omega)]
    have h2 : r.getD i 0 < k := h.lt (by rw [List.getD_eq_getElem?_getD, List.getElem?_eq_getElem (by omega)]; exact List.getElem_mem _)
    refine ev_eq (ev_call (d := dP K (.bool (decide ((0 : Int) ≤ (r.getD i 0 : Nat)) && decide (((r.getD i 0 : Nat) : Int) ≤ (k : Int) - 1)))) (by walk_at "ea") (gBetween.mk _ _ _) (.inl rfl)) ?_
    have h3 : ((r.getD i 0 : Nat) : Int) ≤ (k : Int) - 1 := by omega
    simp only [h3, decide_true, Bool.and_true, Int.natCast_nonneg]
  · have hp : (ZN (List.range k)).Perm (ZN r) := (h.perm.map _).symm
    refine ev_eq (ev_op (d := dP K (.bool (PyData.eqv (.list ((ZN (List.range k)).map PyData.int)) (.list ((ZN (List.range k)).map PyData.int))))) (EvJ.q_l (ev_frz (evc_cb (evj_cons (evj (by walk_at "ev")) evj_nil) (cj_sortedT (ns := ZN r) (out := ZN (List.range k)) hp ?_ ?_)))) (EvJ.q_l (ev_frz (ds := LN (List.range k)) ?_)) (oj_eqD toD_l toD_l (shaped_intsL _) (shaped_intsL _))) ?_
    · exact List.Pairwise.map _ (fun a b (h : a < b) => by omega) List.pairwise_lt_range
    · simp [ZN, hl]; omega
    · exact el_rng (by walk_at "ev") (by omega)
    · rw [eqv_intsL]; simp
end
end TPE
end
section
set_option maxHeartbeats 4000000
namespace TPE
open PySem PySem.Spec PyProof.Rows L2 TPI TPZ RT
open PySem.StrLaws in
theorem occ_count (x : Str) (c lim : Nat) : ∀ (n a : Nat) (st : Array Nat × Nat), a + n = x.length + 1 → st.2 ≤ a → st.1.size + n ≤ lim →
    (forIn (List.range' a n) st (occBody x ⟨#[c]⟩ x.length lim)).run.fst.size = st.1.size + (x.cps.toList.drop a).count c
  | 0, a, st, h, h2, h3 => by
    have e : x.cps.toList.drop a = [] := List.drop_eq_nil_of_le (by simp [Str.length] at *; omega)
    simp [e]
  | n + 1, a, st, h, h2, h3 => by
    rw [List.range'_succ, List.forIn_cons]
    have hs := subAt_one x c a
    unfold occBody
    by_cases hc : x.cps.toList[a]? = some c
    · have h4 := hs.mpr hc
      rw [if_pos ⟨⟨⟨by omega, h2⟩, h4.1⟩, h4.2⟩]
      obtain ⟨hlt, hget⟩ := List.getElem?_eq_some_iff.mp hc
      have e := List.drop_eq_getElem_cons hlt
      rw [e, hget, List.count_cons_self]
      have ih := occ_count x c lim n (a + 1) (st.1.push a, a + (⟨#[c]⟩ : Str).length) (by omega) (Nat.le_refl _) (by simp; omega)
      rw [Array.size_push] at ih
      have ih2 : (forIn (List.range' (a + 1) n) (st.1.push a, a + (⟨#[c]⟩ : Str).length) (occBody x ⟨#[c]⟩ x.length lim)).run.fst.size = st.1.size + 1 + (x.cps.toList.drop (a + 1)).count c := ih
      show (forIn (List.range' (a + 1) n) (st.1.push a, a + (⟨#[c]⟩ : Str).length) (occBody x ⟨#[c]⟩ x.length lim)).run.fst.size = _
      rw [ih2]
      omega
    · rw [if_neg fun z => hc (hs.mp ⟨z.1.2, z.2⟩)]
      have ih := occ_count x c lim n (a + 1) (st.1, st.2) (by omega) (by show st.2 ≤ a + 1; omega) (by show st.1.size + n ≤ lim; omega)
      show (forIn (List.range' (a + 1) n) (st.1, st.2) (occBody x ⟨#[c]⟩ x.length lim)).run.fst.size = _
      rw [ih]
      by_cases hlt : a < x.cps.toList.length
      · have e := List.drop_eq_getElem_cons hlt
        rw [e, List.count_cons_of_ne]
        intro e2
        exact hc (by rw [List.getElem?_eq_getElem hlt, e2])
      · rw [List.drop_eq_nil_of_le (by omega), List.drop_eq_nil_of_le (by omega)]
theorem cnt_cd (w : List Bool) (p : Bool) : (w.map cd).count (cd p) = w.count p := by
  induction w with
  | nil => rfl
  | cons x w ih =>
    rw [List.map_cons, List.count_cons, List.count_cons, ih]
    congr 1
    cases x <;> cases p <;> rfl
theorem txt_count (w : List Bool) (p : Bool) : Txt.count (SW w) (SW [p]) = ((w.count p : Nat) : Int) := by
  show (((Builtin.Str.occurrences (SW w) ⟨#[cd p]⟩ 0 (SW w).length ((SW w).length + 1)).length : Nat) : Int) = _
  rw [PySem.StrLaws.occ_eq, Array.length_toList, occ_count (SW w) (cd p) _ _ 0 _ (by omega) (Nat.le_refl _) (by simp), SW_toList, List.drop_zero, cnt_cd]
  simp
theorem sgn_SW [Tb] (w : List Bool) : sgn (SW w) = w.map pD := by
  unfold sgn
  rw [SW_toList, List.map_map]
  apply List.map_congr_left
  intro p _
  rfl
theorem revS_SW (w : List Bool) : revS (SW w) = SW w.reverse := by
  unfold revS
  rw [SW_toList]
  simp [SW]
theorem cutS_SW [Tb] (w : List Bool) (lo hi : Option Int) : cutS (SW w) lo hi = SW (cutD w lo hi) := by
  unfold cutS cutD
  rw [SW_toList, SW_length]
  simp [SW]
theorem cut_take [Tb] {α : Type} (xs : List α) (n : Nat) : cutD xs none (some (n : Int)) = xs.take n := by
  unfold cutD
  rw [HT.sIx_none, HT.sIx_nat, List.drop_zero, Nat.sub_zero, List.take_eq_take_iff]
  omega
theorem cut_drop [Tb] {α : Type} (xs : List α) (n : Nat) : cutD xs (some (n : Int)) none = xs.drop n := by
  unfold cutD
  rw [HT.sIx_none, HT.sIx_nat]
  by_cases h : n ≤ xs.length
  · rw [Nat.min_eq_left h, List.take_of_length_le (by rw [List.length_drop]; omega)]
  · rw [Nat.min_eq_right (by omega), List.drop_eq_nil_of_le (Nat.le_refl _), List.drop_eq_nil_of_le (by omega)]
    simp
theorem SW_app (a b : List Bool) : SW a ++ SW b = SW (a ++ b) := by
  show (⟨(SW a).cps ++ (SW b).cps⟩ : Str) = _
  simp [SW]
theorem SW_rep (p : Bool) (n : Nat) : repS (SW [p]) n = SW (List.replicate n p) := by
  unfold repS
  rw [SW_toList]
  have : (List.replicate n ([p].map cd)).flatten = (List.replicate n p).map cd := by
    induction n with
    | zero => rfl
    | succ n ih => rw [List.replicate_succ, List.flatten_cons, ih, List.replicate_succ]; rfl
  rw [this]
  rfl
/-- PLAYERS -/
theorem Bi.ev [Tb] {K : PySem.W.Frag} {mg : Str → Option Value} {pA oA : Addr} (B : Bi K mg pA oA) {M : Option Addr} {Γ : List Slt} : Ev M (tC (.ref pA)) Γ (dP K (.tuple [pD true, pD false])) :=
  ev_cD fun F => .tup (B.sPLAYERS F) (.cons (.str _) (.cons (.str _) .nil))
theorem Bi.evO [Tb] {K : PySem.W.Frag} {mg : Str → Option Value} {pA oA : Addr} (B : Bi K mg pA oA) {M : Option Addr} {Γ : List Slt} : Ev M (tC (.ref oA)) Γ (dP K (.tuple ([("plain" : Str), "hostile", "thinking"].map PyData.str))) :=
  ev_cD fun F => .tup (B.sOPPONENTS F) (.cons (.str _) (.cons (.str _) (.cons (.str _) .nil)))
abbrev sqA (K : PySem.W.Frag) (ds : List PyData) : Pd := sqP K .any ds
section
variable {M : Option Addr} {K : PySem.W.Frag} {Γ : List Slt} {t ta tb : TE} {ds : List PyData} {sk : Sk}
theorem ev_aT [Tb] (h : Ev M t Γ (dP K (.tuple ds))) : Ev M t Γ (sqA K ds) := h.mono fun F v h => by
  have h : Dp K F v (.tuple ds) := h
  cases h with
  | tup h1 h2 => exact ⟨_, _, rfl, .inr h1, h2⟩
theorem ev_aL [Tb] (h : Ev M t Γ (dP K (.list ds))) : Ev M t Γ (sqA K ds) := h.mono fun F v h => by
  have h : Dp K F v (.list ds) := h
  cases h with
  | lst h1 h2 => exact ⟨_, _, rfl, .inl h1, h2⟩
theorem ev_aP [Tb] (h : Ev M t Γ (plP K ds)) : Ev M t Γ (sqA K ds) := ev_aT (ev_pl h)
theorem hs_get {F : Hp} {ps : List Pd} {vs : List V} (h2 : Hs F ps vs) : ∀ {k : Nat} {d : Pd}, ps[k]? = some d → ∃ v, vs[k]? = some v ∧ d.hold F v := by
  induction h2 with
  | nil => intro k d h; simp at h
  | cons h3 t ih =>
    intro k d h
    cases k with
    | zero => simp at h; subst h; exact ⟨_, by simp, h3⟩
    | succ k =>
      obtain ⟨v, e1, e2⟩ := ih (k := k) (by simpa using h)
      exact ⟨v, by simpa using e1, e2⟩
/-- t[i] of a tuple of such -/
theorem el_ixP [Tb] {ps : List Pd} {i : Int} {d : Pd} (ha : Ev M ta Γ (tupP K ps)) (hb : Ev M tb Γ (dP K (.int i))) (h : atI ps i = some d) : Ev M (tOp (rIx K) ta tb) Γ d := fun B O0 O σ H E Q q => by
  refine ha B O0 O σ H E _ fun x O1 H1 s hx => hb B O0 O1 σ H1 (E.step s) _ fun y O2 H2 s2 hy => ?_
  obtain ⟨a, vs, rfl, h1, h2⟩ := hx
  have hy : Dp K (wo H2 O2) y (.int i) := hy
  cases hy
  have h2 := h2.same s2.same
  have hl : vs.length = ps.length := (Paired.length h2).symm
  have hat : ∃ v, atI vs i = some v ∧ d.hold (wo H2 O2) v := by
    unfold atI at h ⊢
    rw [hl]
    cases q : ixN ps.length i with
    | none => rw [q] at h; cases h
    | some k =>
      rw [q] at h
      exact hs_get h2 h
  obtain ⟨v, h3, h4⟩ := hat
  exact .inr (.inl ⟨a, vs, i, v, rfl, rfl, sqT_same wo_sub (sqT_same s2.same h1), h3, q v O2 H2 (s.trans s2) h4⟩)
end
section
variable {M : Option Addr} {K : PySem.W.Frag} {Γ : List Slt} {t ta tb : TE} {ds : List PyData} {sk : Sk} {xs : List Str} {z : Str}
theorem el_in [Tb] (ha : Ev M ta Γ (dP K (.str z))) (hb : EvJ M tb Γ (jq K sk (xs.map PyData.str))) : Ev M (tOp (rIn K false) ta tb) Γ (dP K (.bool (xs.contains z))) := ev_op (evj ha) hb oj_in
theorem el_notIn [Tb] (ha : Ev M ta Γ (dP K (.str z))) (hb : EvJ M tb Γ (jq K sk (xs.map PyData.str))) : Ev M (tOp (rIn K true) ta tb) Γ (dP K (.bool (!xs.contains z))) := ev_op (evj ha) hb oj_notIn
end
theorem LN_flat (xs : List (List Nat)) : True := trivial
theorem pD_in (p : Bool) : ([SW [true], SW [false]] : List Str).contains (SW [p]) = true := by cases p <;> rfl
theorem pidx (p : Bool) : ([SW [true], SW [false]] : List Str)[if p then 0 else 1]? = some (SW [p]) := by cases p <;> rfl
/-- PLAYERS.index(player) -/
theorem Bi.idx [Tb] {K : PySem.W.Frag} {mg : Str → Option Value} {pA oA : Addr} (B : Bi K mg pA oA) {M : Option Addr} {Γ : List Slt} {t : TE} {p : Bool} (h : Ev M t Γ (dP K (pD p))) :
    Ev M (tBM K "tuple" (fun x xs H Q => ∃ p, ∃ ys : List Str, ∃ z j, x = .ref p ∧ xs = [.str z] ∧ SqT K H p (ys.map V.str) ∧ ys[j]? = some z ∧ (∀ m, m < j → ys[m]? ≠ some z) ∧ Q (.int (j : Nat)) H) (tC (.ref pA)) (tCons t tNil)) Γ (dP K (nI (if p then 0 else 1))) := fun B' O0 O σ H E Q q => by
  refine ⟨.inr (.inl ⟨rfl, B.oPLAYERS⟩), h B' O0 O σ H E _ fun v O1 H1 s hv => ?_⟩
  have hv : Dp K (wo H1 O1) v (pD p) := hv
  cases hv
  refine ⟨pA, [SW [true], SW [false]], SW [p], if p then 0 else 1, rfl, rfl, B.sPLAYERS H1, pidx p, fun m hm => ?_, q _ O1 H1 s (.int _)⟩
  cases p
  · have : m = 0 := by simp at hm; exact hm
    subst this
    intro e
    have e2 : SW [true] = SW [false] := by simpa using e
    exact absurd (SW_inj e2) (by decide)
  · simp at hm
section
variable {M : Option Addr} {K : PySem.W.Frag} {Γ : List Slt} {t ta tb : TE} {ds : List PyData} {x y z : PyData} {i j k : Nat} {te : TE}
theorem gt2 [Tb] : Gt M (gTup K 2 (gCons (gName i) (gCons (gName j) gNil))) [i, j] Γ (dP K (.tuple [x, y])) ((Γ.set i (.val (dP K x))).set j (.val (dP K y))) :=
  gt_tupD (gts_cons (gt_name (by simp)) (gts_cons (gt_name (by simp)) gts_nil)) rfl
theorem gt12 [Tb] : Gt M (gTup K 2 (gCons (gName i) (gCons (gTup K 2 (gCons (gName j) (gCons (gName k) gNil))) gNil))) [i, j, k] Γ (dP K (.tuple [x, .tuple [y, z]])) (((Γ.set i (.val (dP K x))).set j (.val (dP K y))).set k (.val (dP K z))) :=
  gt_tupD (gts_cons (gt_name (by simp)) (gts_cons (gt_tupD (gts_cons (gt_name (by simp)) (gts_cons (gt_name (by simp)) gts_nil)) rfl) gts_nil)) rfl
theorem gt3 [Tb] : Gt M (gTup K 3 (gCons (gName i) (gCons (gName j) (gCons (gName k) gNil)))) [i, j, k] Γ (dP K (.tuple [x, y, z])) (((Γ.set i (.val (dP K x))).set j (.val (dP K y))).set k (.val (dP K z))) :=
  gt_tupD (gts_cons (gt_name (by simp)) (gts_cons (gt_name (by simp)) (gts_cons (gt_name (by simp)) gts_nil))) rfl
theorem gt1 [Tb] {d : Pd} : Gt M (gName i) [i] Γ d (Γ.set i (.val d)) := gt_name (by simp)
/-- isinstance(s, (list, tuple)) of a sequence -/
theorem el_isiQ [Tb] (h : Ev M t Γ (sqA K ds)) : Ev M (tCB (rIsiT K) (tCons t (tCons (tTup (tCons (tC (.ty "list")) (tCons (tC (.ty "tuple")) tNil))) tNil))) Γ (dP K (.bool true)) := fun B O0 O σ H E Q q => by
  refine h B O0 O σ H E _ fun v O1 H1 s hv => ?_
  refine ev_tupN (cs := [.ty "list", .ty "tuple"]) (eva_cons ev_c (eva_cons ev_c eva_nil)) (by show 2 ≤ sizeLine; decide) B O0 O1 σ H1 (E.step s) _ fun w O2 H2 s2 hw => ?_
  obtain ⟨a, xs, rfl, h1, h2⟩ := hv
  obtain ⟨b, rfl, hb⟩ := hw
  have hC : Paired ClsV [V.ty "list", V.ty "tuple"] [Value.type "list", Value.type "tuple"] := .cons (.ty _) (.cons (.ty _) .nil)
  have hx : ∃ T, TyX K H2 (.ref a) (.type T) ∧ PySem.W.kitAny K (.type T) [.type "list", .type "tuple"] = some true := by
    rcases h1.any with z | z
    · exact ⟨"list", tyx_of (x := .list ds) (.lst (Same.seq wo_sub (Same.seq s2.same z)) (dpAll_same wo_sub _ _ (dpAll_same s2.same _ _ h2))), by rfl⟩
    · exact ⟨"tuple", tyx_of (x := .tuple ds) (.tup (sqT_same wo_sub (sqT_same s2.same z)) (dpAll_same wo_sub _ _ (dpAll_same s2.same _ _ h2))), by rfl⟩
  obtain ⟨T, hT, hk⟩ := hx
  exact ⟨.ref a, b, _, _, _, true, rfl, wo_sub _ _ hb, hC, hT, hk, q _ O2 H2 (s.trans s2) (.bl _)⟩
theorem el_sumT [Tb] {ns : List Nat} (h : Ev M t Γ (dP K (.tuple (LN ns)))) : Ev M (tCB (rSumT K) (tCons t tNil)) Γ (dP K (nI ns.sum)) := ev_eq (ev_cb (evj_cons (evj h) evj_nil) (cj_sumT (ns := ZN ns))) (by rw [ZN_sum])
end
section
variable {M : Option Addr} {K : PySem.W.Frag} {Γ : List Slt} {te : TE} {wi : TI} {g : TG} {vs : List Nat} {n : Nat} {it : Nat → Pd}
theorem evc_mapF [Tb] (hi : EvI M wi Γ n it) (f : Nat → PyData) (hz : n ≤ 1000) (hs : ∀ i, i < n → ∃ Γ'', Gt M g vs (wipeG Γ vs) (it i) Γ'' ∧ Ev M te Γ'' (dP K (f i))) :
    EvC M (tLc wi g tYes te vs) Γ (.own (ownL K ((List.range n).map f))) :=
  evc_map hi _ (by simp) hz fun i x hx => by
    have hin : i < n := by
      rcases Nat.lt_or_ge i n with h | h
      · exact h
      · rw [List.getElem?_eq_none (by simpa using h)] at hx; cases hx
    have e : x = f i := by
      rw [List.getElem?_map, List.getElem?_range hin] at hx
      simpa using hx.symm
    subst e
    exact hs i hin
/-- with a test: keep and item by the place -/
theorem evc_filF [Tb] {tt : TT} (hi : EvI M wi Γ n it) (p : Nat → Bool) (f : Nat → PyData) (hz : n ≤ 1000) (hs : ∀ i, i < n → ∃ Γ'', Gt M g vs (wipeG Γ vs) (it i) Γ'' ∧ EvT M tt Γ'' (· = p i) ∧ (p i = true → Ev M te Γ'' (dP K (f i)))) :
    EvC M (tLc wi g tt te vs) Γ (.own (ownL K (((List.range n).filter p).map f))) := by
  refine evc_lc (K := K) hi (fun i => ((List.range i).filter p).map f) rfl fun i hin => ⟨?_, ?_⟩
  · rw [List.length_map]
    have := List.length_filter_le p (List.range i)
    rw [List.length_range] at this
    exact small1000 (by omega)
  · obtain ⟨Γ'', h1, h2, h3⟩ := hs i hin
    refine ⟨Γ'', h1, _, h2, fun e => ⟨f i, h3 e.symm, ?_⟩, fun e => ?_⟩
    · rw [List.range_succ, List.filter_append, List.map_append]
      simp [← e]
    · rw [List.range_succ, List.filter_append, List.map_append]
      simp [← e]
end
theorem map_range_get {α β : Type} (xs : List α) (f : Nat → β) (h : α → β) (e : ∀ i (hi : i < xs.length), f i = h xs[i]) : (List.range xs.length).map f = xs.map h := by
  apply List.ext_getElem
  · simp
  · intro i h1 h2
    simp at h1 h2
    simp [e i h1]
section
variable {M : Option Addr} {K : PySem.W.Frag} {Γ : List Slt} {t ta tb : TE} {a b : Nat} {w : List Bool} {p : Bool}
theorem el_addN [Tb] (ha : Ev M ta Γ (dP K (nI a))) (hb : Ev M tb Γ (dP K (nI b))) : Ev M (tOp (rI0 fun i j => .int (i + j)) ta tb) Γ (dP K (nI (a + b))) := ev_eq (el_i ha hb) (by simp)
theorem el_subN [Tb] (ha : Ev M ta Γ (dP K (nI a))) (hb : Ev M tb Γ (dP K (nI b))) (h : b ≤ a) : Ev M (tOp (rI0 fun i j => .int (i - j)) ta tb) Γ (dP K (nI (a - b))) := ev_eq (el_i ha hb) (by simp only [nI]; congr 1; omega)
theorem el_mulN [Tb] (ha : Ev M ta Γ (dP K (nI a))) (hb : Ev M tb Γ (dP K (nI b))) (hz : a < 2 ^ 60) : Ev M (tOp (rI CMul fun i j => .int (i * j)) ta tb) Γ (dP K (nI (a * b))) := ev_eq (ev_op (evj ha) (evj hb) (oj_iC (.inl ⟨by omega, by omega⟩))) (by simp)
theorem el_divN [Tb] (ha : Ev M ta Γ (dP K (nI a))) (hb : Ev M tb Γ (dP K (nI b))) (h0 : 0 < b) (h1 : b < 2 ^ 20) : Ev M (tOp (rI CDiv fun i j => .int (i / j)) ta tb) Γ (dP K (nI (a / b))) := ev_eq (ev_op (evj ha) (evj hb) (oj_iC ⟨by omega, by omega⟩)) (by simp)
theorem el_minN [Tb] (ha : Ev M ta Γ (dP K (nI a))) (hb : Ev M tb Γ (dP K (nI b))) : Ev M (tCB (fun xs H Q => ∃ i j, xs = [.int i, .int j] ∧ Q (.int (if j < i then j else i)) H) (tCons ta (tCons tb tNil))) Γ (dP K (nI (min a b))) :=
  ev_eq (ev_cb (evj_cons (evj ha) (evj_cons (evj hb) evj_nil)) cj_min2) (by simp only [nI]; congr 1; split <;> omega)
theorem el_cntS [Tb] (ha : Ev M ta Γ (dP K (.str (SW w)))) (hb : Ev M tb Γ (dP K (pD p))) : Ev M (tBM K "str" (fun x xs H Q => ∃ a b, x = .str a ∧ xs = [.str b] ∧ Q (.int (Txt.count a b)) H) ta (tCons tb tNil)) Γ (dP K (nI (w.count p))) :=
  ev_eq (ev_bmS ha (evj_cons (evj hb) evj_nil) mj_count) (by rw [txt_count])
theorem el_lenW [Tb] (ha : Ev M ta Γ (dP K (.str (SW w)))) (hz : w.length ≤ 1000) : Ev M (tCB (fun xs H Q => ∃ x n, xs = [x] ∧ LenV K x H n ∧ Q (.int n) H) (tCons ta tNil)) Γ (dP K (nI w.length)) :=
  ev_eq (el_lenS ha (by rw [SW_length]; exact Nat.le_of_lt (small1000 hz))) (by rw [SW_length])
theorem el_slW [Tb] {lo hi : Option Int} {tl th : TO} (ha : Ev M ta Γ (dP K (.str (SW w)))) (hl : EvO M tl Γ lo) (hh : EvO M th Γ hi) (hz : w.length ≤ 1000) : Ev M (tSl rSlS ta tl th) Γ (dP K (.str (SW (cutD w lo hi)))) := by
  have h : EvC M (tSl rSlS ta tl th) Γ (.val (dP K (.str (cutS (SW w) lo hi)))) := evc_sl (evj ha) hl hh (sj_s (by rw [SW_length]; exact Nat.le_of_lt (small1000 hz)))
  rw [cutS_SW] at h
  exact h
end
theorem len20 {w : List Bool} (h : w.length ≤ 20) : w.length ≤ 1000 := by omega
section
variable {M : Option Addr} {K : PySem.W.Frag} {Γ : List Slt} {wi : TI} {g : TG} {ts tu : TS} {n : Nat} {it : Nat → Pd} {P : Po} {tc : TT}
/-- a for with a fact F and a state G by the turn -/
theorem ds_forL [Tb] (hi : EvI M wi Γ n it) (F : Nat → Prop) (G : Nat → List Slt) (h0 : F 0 ∧ Le Γ (G 0)) (hs : ∀ i, i < n → F i → ∃ Γ'' vs, Gt M g vs (G i) (it i) Γ'' ∧ Ds M ts Γ'' { nx := fun Γ' => F (i + 1) ∧ Le Γ' (G (i + 1)), ct := fun Γ' => F (i + 1) ∧ Le Γ' (G (i + 1)), bk := P.nx, rt := P.rt })
    (he : F n → ∀ Γ', Le Γ' (G n) → P.nx Γ') : Ds M (tFor wi g ts) Γ P := fun B O0 O σ H E D p => by
  have E' := E.le h0.2
  refine ds_for (Γ := Γ) hi (fun i Γ' => F i ∧ Le Γ' (G i)) h0 (fun i Γ' hin hI => ?_) (fun Γ' hI => he hI.1 Γ' hI.2) B O0 O σ H E D p
  obtain ⟨Γ'', vs, h1, h2⟩ := hs i hin hI.1
  exact ⟨Γ'', vs, fun B O0 O σ H x E hx Q q => h1 B O0 O σ H x (E.le hI.2) hx Q q, h2⟩
theorem dq_forL [Tb] (hi : EvI M wi Γ n it) (F : Nat → Prop) (G : Nat → List Slt) (h0 : F 0 ∧ Le Γ (G 0)) (hs : ∀ i, i < n → F i → ∃ Γ'' vs, Gt M g vs (G i) (it i) Γ'' ∧ Ds M ts Γ'' { nx := fun Γ' => F (i + 1) ∧ Le Γ' (G (i + 1)), ct := fun Γ' => F (i + 1) ∧ Le Γ' (G (i + 1)), bk := fun Γ' => Ds M tu Γ' P, rt := P.rt })
    (he : F n → Ds M tu (G n) P) : Ds M (tSeq (tFor wi g ts) tu) Γ P := ds_seq (ds_forL hi F G h0 hs fun hF Γ' hl => ds_le hl (he hF))
/-- a while with a fact F and a state G by what is left -/
theorem dq_whileL [Tb] {S : Type} (F : S → Prop) (G : S → List Slt) (m : S → Nat) (s0 : S) (h0 : F s0 ∧ Le Γ (G s0)) (hs : ∀ s, F s → ∃ p : Bool → Prop, EvT M tc (G s) p ∧ (p false → Ds M tu (G s) P) ∧
    (p true → Ds M ts (G s) { nx := fun Γ' => ∃ s', m s' < m s ∧ F s' ∧ Le Γ' (G s'), ct := fun Γ' => ∃ s', m s' < m s ∧ F s' ∧ Le Γ' (G s'), bk := fun Γ' => Ds M tu Γ' P, rt := P.rt })) : Ds M (tSeq (tWhile tc ts) tu) Γ P := by
  refine ds_seq (ds_while (fun k Γ' => ∃ s, m s = k ∧ F s ∧ Le Γ' (G s)) (m s0) ⟨s0, rfl, h0⟩ fun k Γ' ⟨s, e, hF, hl⟩ => ?_)
  obtain ⟨p, h1, h2, h3⟩ := hs s hF
  refine ⟨p, fun B O0 O σ H E Q q => h1 B O0 O σ H (E.le hl) Q (fun b O1 H1 st hb => q b O1 H1 st hb), fun hp => ds_le hl (h2 hp), fun hp => ds_le hl fun B O0 O σ H E D pk => ?_⟩
  refine h3 hp B O0 O σ H E D ⟨fun Γ σ H O ⟨s', a1, a2, a3⟩ E => pk.nx Γ σ H O ⟨m s', by omega, s', rfl, a2, a3⟩ E, pk.rt, pk.bk, fun Γ σ H O ⟨s', a1, a2, a3⟩ E => pk.ct Γ σ H O ⟨m s', by omega, s', rfl, a2, a3⟩ E⟩
end
section
variable {M : Option Addr} {K : PySem.W.Frag} {Γ : List Slt} {t ta tb tc te to ti : TE} {d : Pd} {P : Po} {ts tu : TS} {ds es : List PyData} {i k : Nat} {sk : Sk}
theorem el_lenN [Tb] {ns : List Nat} (h : EvJ M t Γ (jq K sk (LN ns))) : Ev M (tCB (fun xs H Q => ∃ x n, xs = [x] ∧ LenV K x H n ∧ Q (.int n) H) (tCons t tNil)) Γ (dP K (nI ns.length)) := ev_eq (el_len h) (by rw [LN_length])
theorem el_isN [Tb] {x : PyData} (h : Ev M t Γ (dP K x)) : Ev M (tOp (fun x y H Q => y = .non ∧ Q (.bl (decide (x = .non))) H) t (tC .non)) Γ (dP K (.bool (isNoneD x))) := ev_op (evj h) (evj ev_non) oj_isN
theorem el_notN [Tb] {x : PyData} (h : Ev M t Γ (dP K x)) : Ev M (tOp (fun x y H Q => y = .non ∧ Q (.bl (!decide (x = .non))) H) t (tC .non)) Γ (dP K (.bool (!isNoneD x))) := ev_op (evj h) (evj ev_non) oj_notN
theorem el_slL [Tb] {lo hi : Option Int} {tl th : TO} (ha : EvJ M ta Γ (jq K .l ds)) (hl : EvO M tl Γ lo) (hh : EvO M th Γ hi) : EvC M (tSl (rSlL K) ta tl th) Γ (.own (ownL K (cutD ds lo hi))) := evc_sl ha hl hh sj_l
theorem el_slP [Tb] {lo hi : Option Int} {tl th : TO} (ha : Ev M ta Γ (plP K ds)) (hl : EvO M tl Γ lo) (hh : EvO M th Γ hi) : Ev M (tSl (rSlX K) ta tl th) Γ (plP K (cutD ds lo hi)) := evc_sl (c := .val _) (evj ha) hl hh sj_p
theorem el_catL [Tb] (ha : EvJ M ta Γ (jq K .l ds)) (hb : EvJ M tb Γ (jq K .l es)) (hz : ds.length + es.length ≤ 1000) : EvC M (tOp (rCatL K) ta tb) Γ (.own (ownL K (ds ++ es))) := evc_op ha hb (oj_catL (Nat.le_of_lt (small1000 hz)))
theorem el_repL [Tb] {n : Nat} (ha : EvC M ta Γ (.own (ownL K ds))) (hb : Ev M tb Γ (dP K (nI n))) (hz : ds.length * n ≤ 1000) (hn : n ≤ 1000) : EvC M (tOp rRep ta tb) Γ (.own (ownL K (List.replicate n ds).flatten)) :=
  evc_eqL (evc_op (evj_o ha) (evj hb) (oj_rep (by omega) (by omega) (by simpa using Nat.le_of_lt (small1000 hz)))) (by simp)
theorem evo_N [Tb] {n : Nat} (h : Ev M te Γ (dP K (nI n))) : EvO M (tPart te) Γ (some (n : Int)) := evo_some h
end
/-- the least of a list's numbers and x -/
def minL (x : Nat) (xs : List Nat) : Nat := xs.foldl min x
theorem minL_le : ∀ (xs : List Nat) (x : Nat), minL x xs ≤ x ∧ ∀ y ∈ xs, minL x xs ≤ y
  | [], x => ⟨Nat.le_refl _, fun _ h => by cases h⟩
  | z :: xs, x => by
    obtain ⟨h1, h2⟩ := minL_le xs (min x z)
    have e : minL x (z :: xs) = minL (min x z) xs := rfl
    refine ⟨by omega, fun y hy => ?_⟩
    rcases List.mem_cons.mp hy with rfl | hy
    · omega
    · rw [e]; exact h2 y hy
theorem minL_mem : ∀ (xs : List Nat) (x : Nat), minL x xs ∈ x :: xs
  | [], x => List.mem_singleton.mpr rfl
  | z :: xs, x => by
    have e : minL x (z :: xs) = minL (min x z) xs := rfl
    rw [e]
    rcases List.mem_cons.mp (minL_mem xs (min x z)) with h | h
    · rw [h]
      by_cases q : x ≤ z
      · rw [Nat.min_eq_left q]; exact List.mem_cons_self
      · rw [Nat.min_eq_right (by omega)]; exact List.mem_cons_of_mem _ List.mem_cons_self
    · exact List.mem_cons_of_mem _ (List.mem_cons_of_mem _ h)
theorem el_minL [Tb] {M : Option Addr} {K : PySem.W.Frag} {Γ : List Slt} {t : TE} {x : Nat} {xs : List Nat} (h : EvC M t Γ (.own (ownL K (LN (x :: xs))))) : Ev M (tCB (rMin K) (tCons t tNil)) Γ (dP K (nI (minL x xs))) := by
  refine ev_cb (evj_cons (EvJ.q_l (ev_frz h)) evj_nil) (cj_min (ns := ZN (x :: xs)) ?_ fun y hy => ?_)
  · exact List.mem_map_of_mem (minL_mem xs x)
  · obtain ⟨z, hz, rfl⟩ := List.mem_map.mp hy
    have := minL_le xs x
    rcases List.mem_cons.mp hz with rfl | hz
    · exact Int.ofNat_le.mpr this.1
    · exact Int.ofNat_le.mpr (this.2 z hz)
theorem LN_cut [Tb] (ns : List Nat) (lo hi : Option Int) : cutD (LN ns) lo hi = LN (cutD ns lo hi) := by
  unfold cutD
  rw [LN_length]
  simp [LN, List.map_drop, List.map_take]
theorem LN_rep (n x : Nat) : (List.replicate n [nI x]).flatten = LN (List.replicate n x) := by
  induction n with
  | zero => rfl
  | succ n ih => rw [List.replicate_succ, List.flatten_cons, ih, List.replicate_succ]; rfl
theorem idxOf_lt {α : Type} [BEq α] [LawfulBEq α] {x : α} {l : List α} (h : x ∈ l) : l.idxOf x < l.length := List.idxOf_lt_length_iff.mpr h
theorem beq_cast (y x : Nat) : (((y : Int)) == (x : Int)) = (y == x) := by
  by_cases h : y = x
  · subst h; rw [beq_self_eq_true, beq_self_eq_true]
  · rw [beq_false_of_ne h, beq_false_of_ne (show (y : Int) ≠ (x : Int) by omega)]
theorem ZN_idx {r : List Nat} {x : Nat} : (ZN r).idxOf (x : Int) = r.idxOf x := by
  induction r with
  | nil => rfl
  | cons y r ih =>
    have e : ZN (y :: r) = (y : Int) :: ZN r := rfl
    rw [e, List.idxOf_cons, List.idxOf_cons, ih, beq_cast]
theorem ZN_mem {r : List Nat} {x : Nat} (h : x ∈ r) : (x : Int) ∈ ZN r := List.mem_map_of_mem h
theorem ZN_count {r : List Nat} {x : Nat} : (ZN r).count (x : Int) = r.count x := by
  induction r with
  | nil => rfl
  | cons y r ih =>
    have e : ZN (y :: r) = (y : Int) :: ZN r := rfl
    rw [e, List.count_cons, List.count_cons, ih, beq_cast]
end TPE
end
section
set_option maxHeartbeats 400000
namespace TPE
open PySem PySem.Spec PyProof.Rows L2 TPI TPZ RT
local macro_rules | `(tactic| walk_at "go") => `(tactic| (try dsimp only [cxK, cxKB, cxK2]); (try dsimp [Gam]); (try simp only [List.map_cons, List.map_nil, List.cons_append, List.nil_append]))
local macro_rules | `(tactic| walk_at "ev") => `(tactic| first
  | ((with_reducible apply ev_var); exact rfl)
  | with_reducible exact ev_int
  | with_reducible exact ev_str
  | with_reducible exact ev_bl
  | with_reducible exact ev_non
  | with_reducible exact ev_c
  | ((with_reducible apply el_i) <;> walk_at "ev")
  | ((with_reducible apply el_b) <;> walk_at "ev")
  | ((with_reducible apply el_eqI); (walk_at "ev"); (walk_at "ev"))
  | ((with_reducible apply el_neI); (walk_at "ev"); (walk_at "ev"))
  | ((with_reducible apply el_eqS); (walk_at "ev"); (walk_at "ev"))
  | ((with_reducible apply el_neS); (walk_at "ev"); (walk_at "ev"))
  | ((with_reducible apply ev_notV) <;> walk_at "ev")
  | ((with_reducible apply el_isi); (walk_at "ev"); exact rfl)
  | ((with_reducible apply el_len) <;> walk_at "ej")
  | (((with_reducible apply ev_aT); (walk_at "ev")))
  | (((with_reducible apply ev_aL); (walk_at "ev")))
  | (((with_reducible apply ev_aP); (walk_at "ev")))
  | (((with_reducible apply ev_pl); (walk_at "ev"))))
local macro_rules | `(tactic| walk_at "ej") => `(tactic| first
  | ((with_reducible apply ev_own); exact rfl)
  | ((with_reducible apply EvJ.q_s); walk_at "ev")
  | ((with_reducible apply EvJ.q_l); walk_at "ev")
  | ((with_reducible apply EvJ.q_t); walk_at "ev")
  | ((with_reducible apply evj); walk_at "ev"))
local macro_rules | `(tactic| walk_at "ea") => `(tactic| first
  | with_reducible exact eva_nil
  | ((with_reducible apply eva_cons); (walk_at "ev"); (walk_at "ea")))
local macro_rules | `(tactic| walk_at "et") => `(tactic| first
  | ((with_reducible apply evt_or); (walk_at "et"); (intro _; walk_at "et"))
  | ((with_reducible apply evt_and); (walk_at "et"); (intro _; walk_at "et"))
  | ((with_reducible apply evt_not); (walk_at "et"))
  | ((with_reducible apply evt_test); (walk_at "ev"))
  | ((with_reducible apply evt_tB); (walk_at "ev")))
local macro_rules | `(tactic| walk_at "le") => `(tactic| ((try simp only [List.set_cons_zero, List.set_cons_succ]); repeat' (first | exact Le.nil | (with_reducible apply Le.un) | (apply Le.eq rfl) | apply Le.eq)))
section
variable {P : Program} {w : World} {K : PySem.W.Frag} {mg : Str → Option Value} {base : Heap} {pA oA : Addr}
inductive gTurns (K : PySem.W.Frag) : Option Addr → List Pd → Pd → Prop
  | mk (u : List Bool) (h0 : u ≠ []) (h1 : u.length ≤ 20) : gTurns K none [dP K (.str (SW u))] (dP K (.bool true))
theorem sc_isturns : FnScope ["value", "letter"] ["value"] (defScope (top 26)) := ⟨rfl, rfl, rfl, by decide +kernel, rfl, by decide +kernel, by decide +kernel⟩
-- slots: 0 value, 1 letter
theorem w_isturns [Tb] (B : Bi K mg pA oA) (D : FunG K mg "is_turns" "is_turns" (top 26)) : Okd P w K mg base 1 "is_turns" ["value"] (gTurns K) := by
  obtain ⟨f, fd, F, m⟩ := D
  refine ⟨f, fd, F.ok sc_isturns (fun vs H Q E h => SpF.len (fun M ds d hg => by cases hg; rfl) h) (fun cdv A outer s H vs Q E hr h => ⟨_, PSs.nox ((pss_one (ps_ret (pe_and (pe_callB call_isi rfl B.isinstance (by decide +kernel) (pa_cons (pv 0) (pa_cons (pe_bltn (v := .ty "str") rfl B.str (by decide +kernel) rfl) pa_nil))) (pe_and (pe_chain op_le op_le pe_int (pe_callB call_len rfl B.len (by decide +kernel) (pa_cons (pv 0) pa_nil)) (pe_globI rfl B.mMAX_TURNS)) (pe_one (pe_callB (cr_all rfl) rfl B.all (by decide +kernel) (pa_cons (pe_lc (own := [("letter", 1)]) (te := (tOp (rIn K false) _ _)) rfl sc_isturns.nd (pi_src (pv 0)) (blkOk_by (own := [("letter", 1)]) (N := ["value", "letter"]) (sc := defScope (top 26)) (by decide +kernel)) (fun _ _ _ _ _ => (pg_name (i := 1) sc_isturns.nd rfl (by first | exact Or.inl rfl | exact Or.inr rfl))) (fun _ _ _ _ _ => pts_nil) (fun _ _ _ _ _ => (pe_cmpR op_in_seq (pv 1) (pe_globR rfl B.mPLAYERS) (by rfl)))) pa_nil)))))))), body_of (fun M ds d hg => ?_) h⟩), m, F.kp, F.bindsN (fun _ _ _ _ _ _ us hl => match us, hl with | [_], _ => rfl)⟩
  cases hg with
  | mk u h0 h1 =>
  refine ⟨by simp, ?_⟩
  walk_at "go"
  have hp : 0 < u.length := List.length_pos_iff.mpr h0
  have hz : (SW u).length ≤ sizeLine := by rw [SW_length]; exact Nat.le_of_lt (small1000 (by omega))
  refine ds_retR (ev_andV (b := true) (b' := true) ?_ fun _ => ev_andV (b := true) (b' := true) ?_ fun _ => ?_)
  · walk_at "ev"
  · refine ev_eq (ev_chain (b := decide ((1 : Int) ≤ ((SW u).length : Nat))) (b' := decide ((((SW u).length : Nat) : Int) ≤ 20)) (j1 := jD K (.int 1)) (j2 := jD K (.int ((SW u).length : Nat))) (j3 := jD K (.int 20)) (by walk_at "ej") (evj (el_lenS (by walk_at "ev") hz)) oj_b (fun _ => by walk_at "ej") oj_b) ?_
    rw [SW_length]
    have e1 : decide ((1 : Int) ≤ (u.length : Nat)) = true := decide_eq_true (by omega)
    have e2 : decide (((u.length : Nat) : Int) ≤ 20) = true := decide_eq_true (by omega)
    rw [e1, e2]; rfl
  · refine ev_eq (el_all (bs := List.replicate u.length true) (evc_eqL (evc_map (K := K) (evi_src (ds := sgn (SW u)) (by walk_at "ev") itd_s) (List.replicate u.length (.bool true)) (by simp [sgn_SW]) (by simp [sgn_SW]; omega) fun i x hx => ⟨_, gt_name (by simp), ?_⟩) (by simp))) (by simp)
    have hi : i < u.length := by
      rcases Nat.lt_or_ge i u.length with h | h
      · exact h
      · rw [List.getElem?_eq_none (by simpa using h)] at hx; cases hx
    have e : x = .bool true := by simpa [hi] using hx.symm
    subst e
    have e2 : (sgn (SW u)).getD i .none = pD u[i] := by rw [sgn_SW, List.getD_eq_getElem?_getD]; simp [hi]
    rw [e2]
    exact ev_eq (el_in (sk := .t) (xs := [SW [true], SW [false]]) (z := SW [u[i]]) (by walk_at "ev") (EvJ.q_t B.ev)) (by rw [pD_in])
inductive gBlock (K : PySem.W.Frag) : Option Addr → List Pd → Pd → Prop
  | mk (b : List Bool × Nat) (h0 : b.1 ≠ []) (h1 : b.1.length ≤ 20) (h2 : 1 ≤ b.2) : gBlock K none [dP K (bD b)] (dP K (.bool true))
theorem sc_isblock : FnScope ["value"] ["value"] (defScope (top 27)) := ⟨rfl, rfl, rfl, by decide +kernel, rfl, by decide +kernel, by decide +kernel⟩
-- slots: 0 value
theorem w_isblock [Tb] (B : Bi K mg pA oA) (D : FunG K mg "is_block" "is_block" (top 27)) (O_is_turns : Okd P w K mg base 1 "is_turns" ["value"] (gTurns K)) (O_is_at_least : Okd P w K mg base 2 "is_at_least" ["value", "low"] (gAtLeast K)) : Okd P w K mg base 3 "is_block" ["value"] (gBlock K) := by
  obtain ⟨f, fd, F, m⟩ := D
  refine ⟨f, fd, F.ok sc_isblock (fun vs H Q E h => SpF.len (fun M ds d hg => by cases hg; rfl) h) (fun cdv A outer s H vs Q E hr h => ⟨_, PSs.nox ((pss_one (ps_ret (pe_and (pe_callB call_isi rfl B.isinstance (by decide +kernel) (pa_cons (pv 0) (pa_cons (pe_bltn (v := .ty "tuple") rfl B.tuple (by decide +kernel) rfl) pa_nil))) (pe_and (pe_cmpR op_eq (pe_callB call_len rfl B.len (by decide +kernel) (pa_cons (pv 0) pa_nil)) pe_int (nomark _)) (pe_and (pe_callO O_is_turns (hr.mono (by decide)) rfl (pa_cons (pe_ix ix_seq (pv 0) pe_int (fun _ _ => rfl)) pa_nil)) (pe_one (pe_callO O_is_at_least (hr.mono (by decide)) rfl (pa_cons (pe_ix ix_seq (pv 0) pe_int (fun _ _ => rfl)) (pa_cons pe_int pa_nil)))))))))), body_of (fun M ds d hg => ?_) h⟩), m, F.kp, F.bindsN (fun _ _ _ _ _ _ us hl => match us, hl with | [_], _ => rfl)⟩
  cases hg with
  | mk b h0 h1 h2 =>
  refine ⟨by simp, ?_⟩
  walk_at "go"
  refine ds_retR (ev_andV (b := true) (b' := true) ?_ fun _ => ev_andV (b := true) (b' := true) ?_ fun _ => ev_andV (b := true) (b' := true) ?_ fun _ => ?_)
  · walk_at "ev"
  · apply ev_eq
    · walk_at "ev"
    · rfl
  · exact ev_call (eva_cons (el_ix (sk := .t) (EvJ.q_t (by walk_at "ev")) (by walk_at "ev") (by rfl)) eva_nil) (gTurns.mk b.1 h0 h1) (.inl rfl)
  · refine ev_eq (ev_call (d := dP K (.bool (decide ((1 : Int) ≤ (b.2 : Nat))))) (eva_cons (el_ix (sk := .t) (EvJ.q_t (by walk_at "ev")) (by walk_at "ev") (by rfl)) (eva_cons (by walk_at "ev") eva_nil)) (gAtLeast.mk _ _) (.inl rfl)) ?_
    rw [decide_eq_true (by omega)]
inductive gRCounts (K : PySem.W.Frag) : Option Addr → List Pd → Pd → Prop
  | mk (ns : List Nat) (h : ns.length ≤ 60) : gRCounts K none [dP K (.tuple (LN ns))] (dP K .none)
theorem sc_rcounts : FnScope ["counts"] ["counts"] (defScope (top 28)) := ⟨rfl, rfl, rfl, by decide +kernel, rfl, by decide +kernel, by decide +kernel⟩
-- slots: 0 counts
theorem w_rcounts [Tb] (B : Bi K mg pA oA) (D : FunG K mg "require_counts" "require_counts" (top 28)) (O_is_bundle : Okd P w K mg base 3 "is_bundle" ["value", "many"] (gBundle K)) : Okd P w K mg base 4 "require_counts" ["counts"] (gRCounts K) := by
  obtain ⟨f, fd, F, m⟩ := D
  refine ⟨f, fd, F.ok sc_rcounts (fun vs H Q E h => SpF.len (fun M ds d hg => by cases hg; rfl) h) (fun cdv A outer s H vs Q E hr h => ⟨_, PSs.nox ((pss_one (ps_if (PW.pt (pw_or (pt_not (pt_val (pe_callB call_isi rfl B.isinstance (by decide +kernel) (pa_cons (pv 0) (pa_cons (pe_bltn (v := .ty "tuple") rfl B.tuple (by decide +kernel) rfl) pa_nil))))) (pw_or (pt_cmpR op_gt (pe_callB call_len rfl B.len (by decide +kernel) (pa_cons (pv 0) pa_nil)) (pe_globI rfl B.mMAX_KINDS) (nomark _)) (pw_or1 (pt_not (pt_val (pe_callO O_is_bundle (hr.mono (by decide)) rfl (pa_cons (pv 0) (pa_cons (pe_callB call_len rfl B.len (by decide +kernel) (pa_cons (pv 0) pa_nil)) pa_nil)))))))))
    (pss_one ps_never)
    pss_nil))), body_of (fun M ds d hg => ?_) h⟩), m, F.kp, F.bindsN (fun _ _ _ _ _ _ us hl => match us, hl with | [_], _ => rfl)⟩
  cases hg with
  | mk ns h =>
  refine ⟨by simp, ?_⟩
  walk_at "go"
  apply dq_guardL
  · refine evt_or (b := false) (b' := false) ?_ fun _ => evt_or (b := false) (b' := false) ?_ fun _ => evt_not (b := true) ?_
    · exact evt_eq (evt_not (evt_tB (b := true) (by walk_at "ev"))) rfl
    · refine evt_eq (b := decide ((60 : Int) < ((LN ns).length : Nat))) (evt_test (by walk_at "ev")) ?_
      rw [LN_length]; simp; omega
    · refine evt_tB (ev_call (eva_cons (by walk_at "ev") (eva_cons (ev_eq (x := .int ((LN ns).length : Nat)) (by walk_at "ev") (by rw [LN_length])) eva_nil)) (gBundle.mk ns (by omega)) (.inl rfl))
  · rfl
  · exact fun F => .non
inductive gRList (K : PySem.W.Frag) : Option Addr → List Pd → Pd → Prop
  | mk (k : Nat) (r : List Nat) (h : RkOk k r) : gRList K none [dP K (.tuple (LN r)), dP K (nI k)] (dP K .none)
theorem sc_rlist : FnScope ["ranking", "many"] ["ranking", "many"] (defScope (top 29)) := ⟨rfl, rfl, rfl, by decide +kernel, rfl, by decide +kernel, by decide +kernel⟩
-- slots: 0 ranking, 1 many
theorem w_rlist [Tb] (B : Bi K mg pA oA) (D : FunG K mg "require_list" "require_list" (top 29)) (O_is_list : Okd P w K mg base 3 "is_list" ["value", "many"] (gList K)) : Okd P w K mg base 4 "require_list" ["ranking", "many"] (gRList K) := by
  obtain ⟨f, fd, F, m⟩ := D
  refine ⟨f, fd, F.ok sc_rlist (fun vs H Q E h => SpF.len (fun M ds d hg => by cases hg; rfl) h) (fun cdv A outer s H vs Q E hr h => ⟨_, PSs.nox ((pss_one (ps_if (pt_not (pt_val (pe_callO O_is_list (hr.mono (by decide)) rfl (pa_cons (pv 0) (pa_cons (pv 1) pa_nil)))))
    (pss_one ps_never)
    pss_nil))), body_of (fun M ds d hg => ?_) h⟩), m, F.kp, F.bindsN (fun _ _ _ _ _ _ us hl => match us, hl with | [_, _], _ => rfl)⟩
  cases hg with
  | mk k r h =>
  refine ⟨by simp, ?_⟩
  walk_at "go"
  apply dq_guardL
  · exact evt_not (evt_tB (ev_call (by walk_at "ea") (gList.mk k r h) (.inl rfl)))
  · rfl
  · exact fun F => .non
inductive gRPlayer (K : PySem.W.Frag) : Option Addr → List Pd → Pd → Prop
  | mk (p : Bool) : gRPlayer K none [dP K (pD p)] (dP K .none)
theorem sc_rplayer : FnScope ["player"] ["player"] (defScope (top 32)) := ⟨rfl, rfl, rfl, by decide +kernel, rfl, by decide +kernel, by decide +kernel⟩
-- slots: 0 player
theorem w_rplayer [Tb] (B : Bi K mg pA oA) (D : FunG K mg "require_player" "require_player" (top 32)) : Okd P w K mg base 1 "require_player" ["player"] (gRPlayer K) := by
  obtain ⟨f, fd, F, m⟩ := D
  refine ⟨f, fd, F.ok sc_rplayer (fun vs H Q E h => SpF.len (fun M ds d hg => by cases hg; rfl) h) (fun cdv A outer s H vs Q E hr h => ⟨_, PSs.nox ((pss_one (ps_if (PW.pt (pw_or (pt_not (pt_val (pe_callB call_isi rfl B.isinstance (by decide +kernel) (pa_cons (pv 0) (pa_cons (pe_bltn (v := .ty "str") rfl B.str (by decide +kernel) rfl) pa_nil))))) (pw_or1 (pt_cmpR op_notIn_seq (pv 0) (pe_globR rfl B.mPLAYERS) (by rfl)))))
    (pss_one ps_never)
    pss_nil))), body_of (fun M ds d hg => ?_) h⟩), m, F.kp, F.bindsN (fun _ _ _ _ _ _ us hl => match us, hl with | [_], _ => rfl)⟩
  cases hg with
  | mk p =>
  refine ⟨by simp, ?_⟩
  walk_at "go"
  apply dq_guardL
  · refine evt_or (b := false) (b' := false) ?_ fun _ => ?_
    · exact evt_eq (evt_not (evt_tB (b := true) (by walk_at "ev"))) rfl
    · exact evt_eq (evt_test (el_notIn (sk := .t) (xs := [SW [true], SW [false]]) (z := SW [p]) (by walk_at "ev") (EvJ.q_t B.ev))) (by rw [pD_in]; rfl)
  · rfl
  · exact fun F => .non
inductive gOther (K : PySem.W.Frag) : Option Addr → List Pd → Pd → Prop
  | mk (p : Bool) : gOther K none [dP K (pD p)] (dP K (pD !p))
theorem sc_other : FnScope ["player"] ["player"] (defScope (top 36)) := ⟨rfl, rfl, rfl, by decide +kernel, rfl, by decide +kernel, by decide +kernel⟩
-- slots: 0 player
theorem w_other [Tb] (B : Bi K mg pA oA) (D : FunG K mg "other_player" "other_player" (top 36)) : Okd P w K mg base 1 "other_player" ["player"] (gOther K) := by
  obtain ⟨f, fd, F, m⟩ := D
  refine ⟨f, fd, F.ok sc_other (fun vs H Q E h => SpF.len (fun M ds d hg => by cases hg; rfl) h) (fun cdv A outer s H vs Q E hr h => ⟨_, PSs.nox ((pss_one (ps_ret (pe_ifExp (pt_cmpR op_eq (pv 0) pe_str (nomark _)) pe_str pe_str)))), body_of (fun M ds d hg => ?_) h⟩), m, F.kp, F.bindsN (fun _ _ _ _ _ _ us hl => match us, hl with | [_], _ => rfl)⟩
  cases hg with
  | mk p =>
  refine ⟨by simp, ?_⟩
  walk_at "go"
  refine ds_retR (ev_if (evt_test (K := K) (b := decide (SW [p] = SW [true])) (by rw [← SW_A]; walk_at "ev")) (fun h => ?_) fun h => ?_)
  · rw [SW_eq] at h
    have e : p = true := by simpa using h.symm
    subst e
    exact ev_str
  · rw [SW_eq] at h
    have e : p = false := by simpa using h.symm
    subst e
    exact ev_str
inductive gOwn (K : PySem.W.Frag) : Option Addr → List Pd → Pd → Prop
  | mk (d1 d2 : Pd) (p : Bool) : gOwn K none [tupP K [d1, d2], dP K (pD p)] (if p then d1 else d2)
theorem sc_own : FnScope ["lists", "player"] ["lists", "player"] (defScope (top 37)) := ⟨rfl, rfl, rfl, by decide +kernel, rfl, by decide +kernel, by decide +kernel⟩
-- slots: 0 lists, 1 player
theorem w_own [Tb] (B : Bi K mg pA oA) (D : FunG K mg "own_list" "own_list" (top 37)) : Okd P w K mg base 1 "own_list" ["lists", "player"] (gOwn K) := by
  obtain ⟨f, fd, F, m⟩ := D
  refine ⟨f, fd, F.ok sc_own (fun vs H Q E h => SpF.len (fun M ds d hg => by cases hg; rfl) h) (fun cdv A outer s H vs Q E hr h => ⟨_, PSs.nox ((pss_one (ps_ret (pe_ix ix_seq (pv 0) (pe_bm PySem.F.plainAttrs_tuple PySem.F.slot_tuple_index PySem.F.type_tuple_index mt_tup_index (pe_globR rfl B.mPLAYERS) (pa_cons (pv 1) pa_nil)) (fun _ _ => rfl))))), body_of (fun M ds d hg => ?_) h⟩), m, F.kp, F.bindsN (fun _ _ _ _ _ _ us hl => match us, hl with | [_, _], _ => rfl)⟩
  cases hg with
  | mk d1 d2 p =>
  refine ⟨by simp, ?_⟩
  walk_at "go"
  refine ds_retR (el_ixP (i := ((if p then 0 else 1 : Nat) : Int)) (by walk_at "ev") (B.idx (by walk_at "ev")) ?_)
  cases p <;> rfl
end
end TPE
end
section
set_option maxHeartbeats 400000
namespace TPE
open PySem PySem.Spec PyProof.Rows L2 TPI TPZ RT
local macro_rules | `(tactic| walk_at "go") => `(tactic| (try dsimp only [cxK, cxKB, cxK2]); (try dsimp [Gam]); (try simp only [List.map_cons, List.map_nil, List.cons_append, List.nil_append]))
local macro_rules | `(tactic| walk_at "ev") => `(tactic| first
  | ((with_reducible apply ev_var); exact rfl)
  | with_reducible exact ev_int
  | with_reducible exact ev_str
  | with_reducible exact ev_bl
  | with_reducible exact ev_non
  | with_reducible exact ev_c
  | ((with_reducible apply el_i) <;> walk_at "ev")
  | ((with_reducible apply el_b) <;> walk_at "ev")
  | ((with_reducible apply el_eqI); (walk_at "ev"); (walk_at "ev"))
  | ((with_reducible apply el_neI); (walk_at "ev"); (walk_at "ev"))
  | ((with_reducible apply el_eqS); (walk_at "ev"); (walk_at "ev"))
  | ((with_reducible apply el_neS); (walk_at "ev"); (walk_at "ev"))
  | ((with_reducible apply ev_notV) <;> walk_at "ev")
  | ((with_reducible apply el_isi); (walk_at "ev"); exact rfl)
  | ((with_reducible apply el_len) <;> walk_at "ej")
  | (((with_reducible apply ev_aT); (walk_at "ev")))
  | (((with_reducible apply ev_aL); (walk_at "ev")))
  | (((with_reducible apply ev_aP); (walk_at "ev")))
  | (((with_reducible apply ev_pl); (walk_at "ev"))))
local macro_rules | `(tactic| walk_at "ej") => `(tactic| first
  | ((with_reducible apply ev_own); exact rfl)
  | ((with_reducible apply EvJ.q_s); walk_at "ev")
  | ((with_reducible apply EvJ.q_l); walk_at "ev")
  | ((with_reducible apply EvJ.q_t); walk_at "ev")
  | ((with_reducible apply evj); walk_at "ev"))
local macro_rules | `(tactic| walk_at "ea") => `(tactic| first
  | with_reducible exact eva_nil
  | ((with_reducible apply eva_cons); (walk_at "ev"); (walk_at "ea")))
local macro_rules | `(tactic| walk_at "et") => `(tactic| first
  | ((with_reducible apply evt_or); (walk_at "et"); (intro _; walk_at "et"))
  | ((with_reducible apply evt_and); (walk_at "et"); (intro _; walk_at "et"))
  | ((with_reducible apply evt_not); (walk_at "et"))
  | ((with_reducible apply evt_test); (walk_at "ev"))
  | ((with_reducible apply evt_tB); (walk_at "ev")))
local macro_rules | `(tactic| walk_at "le") => `(tactic| ((try simp only [List.set_cons_zero, List.set_cons_succ]); repeat' (first | exact Le.nil | (with_reducible apply Le.un) | (apply Le.eq rfl) | apply Le.eq)))
/-- the sum of the first i places of a ranking -/
def PSm (c r : List Nat) (i : Nat) : Nat := ((r.take i).map fun x => c.getD x 0).sum
def psums (c r : List Nat) : List Nat := (List.range r.length).map fun i => PSm c r (i + 1)
theorem psums_length (c r : List Nat) : (psums c r).length = r.length := by simp [psums]
theorem psums_get {c r : List Nat} {i : Nat} (h : i < r.length) : (psums c r)[i]? = some (PSm c r (i + 1)) := by simp [psums, h]
theorem PSm_succ {c r : List Nat} {i : Nat} (h : i < r.length) : PSm c r (i + 1) = PSm c r i + c.getD (r.getD i 0) 0 := by
  unfold PSm
  rw [List.take_add_one, List.getElem?_eq_getElem h, List.map_append, List.sum_append, List.getD_eq_getElem?_getD (l := r), List.getElem?_eq_getElem h]
  simp
theorem psums_take {c r : List Nat} {i : Nat} (h : i < r.length) : (psums c r).take (i + 1) = (psums c r).take i ++ [PSm c r (i + 1)] := by
  rw [List.take_add_one, psums_get h]
  rfl
theorem flat_length : ∀ bs : List (List Bool × Nat), (flat bs).length = (bs.map fun b => b.1.length * b.2).sum
  | [] => rfl
  | b :: bs => by rw [flat_cons, List.length_append, rep_length, flat_length bs, List.map_cons, List.sum_cons, Nat.mul_comm]
theorem BD_getD {bs : List (List Bool × Nat)} {i : Nat} (h : i < bs.length) : (BD bs).getD i .none = bD bs[i] := by
  rw [List.getD_eq_getElem?_getD]; simp [BD, h]
section
variable {P : Program} {w : World} {K : PySem.W.Frag} {mg : Str → Option Value} {base : Heap} {pA oA : Addr}
inductive gRLists (K : PySem.W.Frag) : Option Addr → List Pd → Pd → Prop
  | mk (k : Nat) (r1 r2 : List Nat) (h1 : RkOk k r1) (h2 : RkOk k r2) : gRLists K none [dP K (lsD r1 r2), dP K (nI k)] (dP K .none)
theorem sc_rlists : FnScope ["lists", "many", "index", "ranking"] ["lists", "many"] (defScope (top 30)) := ⟨rfl, rfl, rfl, by decide +kernel, rfl, by decide +kernel, by decide +kernel⟩
-- slots: 0 lists, 1 many, 2 index, 3 ranking
theorem w_rlists [Tb] (B : Bi K mg pA oA) (D : FunG K mg "require_lists" "require_lists" (top 30)) (O_is_list : Okd P w K mg base 3 "is_list" ["value", "many"] (gList K)) : Okd P w K mg base 4 "require_lists" ["lists", "many"] (gRLists K) := by
  obtain ⟨f, fd, F, m⟩ := D
  refine ⟨f, fd, F.ok sc_rlists (fun vs H Q E h => SpF.len (fun M ds d hg => by cases hg; rfl) h) (fun cdv A outer s H vs Q E hr h => ⟨_, PSs.nox ((pss_cons (ps_if (PW.pt (pw_or (pt_not (pt_val (pe_callB call_isi rfl B.isinstance (by decide +kernel) (pa_cons (pv 0) (pa_cons (pe_bltn (v := .ty "tuple") rfl B.tuple (by decide +kernel) rfl) pa_nil))))) (pw_or1 (pt_cmpR op_ne (pe_callB call_len rfl B.len (by decide +kernel) (pa_cons (pv 0) pa_nil)) pe_int (nomark _)))))
    (pss_one ps_never)
    pss_nil)
    (pss_one (ps_for PassesOwn.never rfl (pi_enumS rfl B.enumerate (pa_cons (pv 0) pa_nil)) (pg_tup rfl (pgs_cons (pg_name (i := 2) sc_rlists.nd rfl (by first | exact Or.inl rfl | exact Or.inr rfl)) (pgs_cons (pg_name (i := 3) sc_rlists.nd rfl (by first | exact Or.inl rfl | exact Or.inr rfl)) pgs_nil)))
    (pss_one (ps_if (pt_not (pt_val (pe_callO O_is_list (hr.mono (by decide)) rfl (pa_cons (pv 3) (pa_cons (pv 1) pa_nil)))))
    (pss_one ps_never)
    pss_nil)))))), body_of (fun M ds d hg => ?_) h⟩), m, F.kp, F.bindsN (fun _ _ _ _ _ _ us hl => match us, hl with | [_, _], _ => rfl)⟩
  cases hg with
  | mk k r1 r2 h1 h2 =>
  refine ⟨by simp, ?_⟩
  walk_at "go"
  apply dq_guard
  · walk_at "et"
  · rfl
  refine ds_for (evi_enum (ds := [.tuple (LN r1), .tuple (LN r2)]) (by walk_at "ev") itd_t) (fun i Γ' => ∃ c1 c2, Γ' = [.val (dP K (lsD r1 r2)), .val (dP K (nI k)), c1, c2]) ⟨_, _, rfl⟩ (fun i Γ' hi hI => ?_) (fun Γ' _ => fun F => .non)
  obtain ⟨c1, c2, rfl⟩ := hI
  refine ⟨_, _, gt2, ?_⟩
  apply dq_guardL
  · refine evt_not (b := true) (evt_tB (K := K) ?_)
    match i, hi with
    | 0, _ => exact ev_call (by walk_at "ea") (gList.mk k r1 h1) (.inl rfl)
    | 1, _ => exact ev_call (by walk_at "ea") (gList.mk k r2 h2) (.inl rfl)
  · rfl
  · exact ⟨_, _, rfl⟩
inductive gRSeq (K : PySem.W.Frag) : Option Addr → List Pd → Pd → Prop
  | mk (bs : List (List Bool × Nat)) (h : BlOk bs) : gRSeq K none [sqA K (BD bs)] (dP K .none)
theorem sc_rseq : FnScope ["sequence", "index", "block"] ["sequence"] (defScope (top 31)) := ⟨rfl, rfl, rfl, by decide +kernel, rfl, by decide +kernel, by decide +kernel⟩
-- slots: 0 sequence, 1 index, 2 block
theorem w_rseq [Tb] (B : Bi K mg pA oA) (D : FunG K mg "require_sequence" "require_sequence" (top 31)) (O_is_block : Okd P w K mg base 3 "is_block" ["value"] (gBlock K)) : Okd P w K mg base 4 "require_sequence" ["sequence"] (gRSeq K) := by
  obtain ⟨f, fd, F, m⟩ := D
  refine ⟨f, fd, F.ok sc_rseq (fun vs H Q E h => SpF.len (fun M ds d hg => by cases hg; rfl) h) (fun cdv A outer s H vs Q E hr h => ⟨_, PSs.nox ((pss_cons (ps_if (PW.pt (pw_or (pt_not (pt_val (pe_callB call_isiT rfl B.isinstance (by decide +kernel) (pa_cons (pv 0) (pa_cons (pe_tup (pa_cons (pe_bltn (v := .ty "list") rfl B.list (by decide +kernel) rfl) (pa_cons (pe_bltn (v := .ty "tuple") rfl B.tuple (by decide +kernel) rfl) pa_nil))) pa_nil))))) (pw_or1 (pt_cmpR op_gt (pe_callB call_len rfl B.len (by decide +kernel) (pa_cons (pv 0) pa_nil)) (pe_globI rfl B.mMAX_BLOCKS) (nomark _)))))
    (pss_one ps_never)
    pss_nil)
    (pss_one (ps_for PassesOwn.never rfl (pi_enumS rfl B.enumerate (pa_cons (pv 0) pa_nil)) (pg_tup rfl (pgs_cons (pg_name (i := 1) sc_rseq.nd rfl (by first | exact Or.inl rfl | exact Or.inr rfl)) (pgs_cons (pg_name (i := 2) sc_rseq.nd rfl (by first | exact Or.inl rfl | exact Or.inr rfl)) pgs_nil)))
    (pss_one (ps_if (pt_not (pt_val (pe_callO O_is_block (hr.mono (by decide)) rfl (pa_cons (pv 2) pa_nil))))
    (pss_one ps_never)
    pss_nil)))))), body_of (fun M ds d hg => ?_) h⟩), m, F.kp, F.bindsN (fun _ _ _ _ _ _ us hl => match us, hl with | [_], _ => rfl)⟩
  cases hg with
  | mk bs h =>
  refine ⟨by simp, ?_⟩
  walk_at "go"
  have hf := h.few
  refine dq_guard (b := false) (evt_or (b := false) (b' := false) (evt_not (b := true) (evt_tB (K := K) ?_)) fun _ => ?_) rfl ?_
  · exact el_isiQ (by walk_at "ev")
  · refine evt_eq (b := decide ((200 : Int) < ((BD bs).length : Nat))) (evt_test (by walk_at "ev")) ?_
    simp [BD]; omega
  refine ds_for (evi_enum (ds := BD bs) (by walk_at "ev") itd_q) (fun i Γ' => ∃ c1 c2, Γ' = [.val (sqA K (BD bs)), c1, c2]) ⟨_, _, rfl⟩ (fun i Γ' hi hI => ?_) (fun Γ' _ => fun F => .non)
  obtain ⟨c1, c2, rfl⟩ := hI
  have hi' : i < bs.length := by simpa [BD] using hi
  rw [BD_getD hi']
  obtain ⟨q1, q2, q3, q4⟩ := h.ok _ (List.getElem_mem hi')
  refine ⟨_, _, gt2, ?_⟩
  apply dq_guardL
  · exact evt_not (b := true) (evt_tB (ev_call (by walk_at "ea") (gBlock.mk bs[i] q1 q2 q3) (.inl rfl)))
  · rfl
  · exact ⟨_, _, rfl⟩
inductive gPicks (K : PySem.W.Frag) : Option Addr → List Pd → Pd → Prop
  | mk (bs : List (List Bool × Nat)) (h : BlOk bs) : gPicks K none [sqA K (BD bs)] (dP K (nI (flat bs).length))
theorem sc_picksof : FnScope ["sequence", "turns", "times"] ["sequence"] (defScope (top 33)) := ⟨rfl, rfl, rfl, by decide +kernel, rfl, by decide +kernel, by decide +kernel⟩
-- slots: 0 sequence, 1 turns, 2 times
theorem w_picksof [Tb] (B : Bi K mg pA oA) (D : FunG K mg "picks_of" "picks_of" (top 33)) : Okd P w K mg base 1 "picks_of" ["sequence"] (gPicks K) := by
  obtain ⟨f, fd, F, m⟩ := D
  refine ⟨f, fd, F.ok sc_picksof (fun vs H Q E h => SpF.len (fun M ds d hg => by cases hg; rfl) h) (fun cdv A outer s H vs Q E hr h => ⟨_, PSs.nox ((pss_one (ps_ret (pe_callB (cr_sum rfl) rfl B.sum (by decide +kernel) (pa_cons (pe_lc (own := [("turns", 1), ("times", 2)]) (g := (gTup K 2 (gCons (gName 1) (gCons (gName 2) gNil)))) (te := (tOp _ (tCB (fun xs H Q => ∃ x n, xs = [x] ∧ LenV K x H n ∧ Q (.int n) H) (tCons _ tNil)) _)) rfl sc_picksof.nd (pi_src (pv 0)) (blkOk_by (own := [("turns", 1), ("times", 2)]) (N := ["sequence", "turns", "times"]) (sc := defScope (top 33)) (by decide +kernel)) (fun _ _ _ _ _ => (pg_tup rfl (pgs_cons (pg_name (i := 1) sc_picksof.nd rfl (by first | exact Or.inl rfl | exact Or.inr rfl)) (pgs_cons (pg_name (i := 2) sc_picksof.nd rfl (by first | exact Or.inl rfl | exact Or.inr rfl)) pgs_nil)))) (fun _ _ _ _ _ => pts_nil) (fun _ _ _ _ _ => (pe_op op_mul (pe_callB call_len rfl B.len (by decide +kernel) (pa_cons (pv 1) pa_nil)) (pv 2)))) pa_nil))))), body_of (fun M ds d hg => ?_) h⟩), m, F.kp, F.bindsN (fun _ _ _ _ _ _ us hl => match us, hl with | [_], _ => rfl)⟩
  cases hg with
  | mk bs h =>
  refine ⟨by simp, ?_⟩
  walk_at "go"
  have hf := h.few
  refine ds_retR (ev_eq (el_sum (ns := (List.range bs.length).map fun i => ((((bs.getD i ([], 0)).1.length * (bs.getD i ([], 0)).2 : Nat)) : Int)) (evc_eqL (evc_mapF (K := K) (evi_src (ds := BD bs) (by walk_at "ev") itd_q) (fun i => nI ((bs.getD i ([], 0)).1.length * (bs.getD i ([], 0)).2)) (by simp [BD]; omega) fun i hi => ?_) ?_)) ?_)
  · have hi' : i < bs.length := by simpa [BD] using hi
    rw [BD_getD hi']
    have e : bs.getD i ([], 0) = bs[i] := by rw [List.getD_eq_getElem?_getD]; simp [hi']
    rw [e]
    obtain ⟨q1, q2, q3, q4⟩ := h.ok _ (List.getElem_mem hi')
    refine ⟨_, gt2, ev_eq (ev_op (d := dP K (.int (((SW bs[i].1).length : Nat) * ((bs[i].2 : Nat) : Int)))) (evj (el_lenS (by walk_at "ev") ?_)) (evj (by walk_at "ev")) (oj_iC ?_)) ?_⟩
    · rw [SW_length]; exact Nat.le_of_lt (small1000 (by omega))
    · rw [SW_length]; exact .inl ⟨by omega, by omega⟩
    · rw [SW_length]; simp
  · simp [BD]
  · rw [flat_length]
    have e2 : (List.range bs.length).map (fun i => ((((bs.getD i ([], 0)).1.length * (bs.getD i ([], 0)).2 : Nat)) : Int)) = ZN (bs.map fun b => b.1.length * b.2) := by
      rw [map_range_get bs _ (fun b => ((b.1.length * b.2 : Nat) : Int)) fun i hi => by rw [List.getD_eq_getElem?_getD]; simp [hi]]
      simp [ZN]
    rw [e2, ZN_sum]
inductive gFits (K : PySem.W.Frag) : Option Addr → List Pd → Pd → Prop
  | mk (c : List Nat) (bs : List (List Bool × Nat)) (h : BlOk bs) (hl : (flat bs).length ≤ c.sum) : gFits K none [dP K (.tuple (LN c)), sqA K (BD bs)] (dP K .none)
theorem sc_fits : FnScope ["counts", "sequence"] ["counts", "sequence"] (defScope (top 34)) := ⟨rfl, rfl, rfl, by decide +kernel, rfl, by decide +kernel, by decide +kernel⟩
-- slots: 0 counts, 1 sequence
theorem w_fits [Tb] (B : Bi K mg pA oA) (D : FunG K mg "require_fits" "require_fits" (top 34)) (O_picks_of : Okd P w K mg base 1 "picks_of" ["sequence"] (gPicks K)) : Okd P w K mg base 2 "require_fits" ["counts", "sequence"] (gFits K) := by
  obtain ⟨f, fd, F, m⟩ := D
  refine ⟨f, fd, F.ok sc_fits (fun vs H Q E h => SpF.len (fun M ds d hg => by cases hg; rfl) h) (fun cdv A outer s H vs Q E hr h => ⟨_, PSs.nox ((pss_one (ps_if (pt_cmpR op_gt (pe_callO O_picks_of (hr.mono (by decide)) rfl (pa_cons (pv 1) pa_nil)) (pe_callB (cr_sumT rfl) rfl B.sum (by decide +kernel) (pa_cons (pv 0) pa_nil)) (nomark _))
    (pss_one ps_never)
    pss_nil))), body_of (fun M ds d hg => ?_) h⟩), m, F.kp, F.bindsN (fun _ _ _ _ _ _ us hl => match us, hl with | [_, _], _ => rfl)⟩
  cases hg with
  | mk c bs h hl =>
  refine ⟨by simp, ?_⟩
  walk_at "go"
  refine dq_guardL (b := decide (((c.sum : Nat) : Int) < ((flat bs).length : Nat))) (evt_test (el_b (ev_call (by walk_at "ea") (gPicks.mk bs h) (.inl rfl)) (el_sumT (by walk_at "ev")))) (by simp; omega) ?_
  exact fun F => .non
inductive gPS (K : PySem.W.Frag) : Option Addr → List Pd → Pd → Prop
  | mk (c r : List Nat) (hr : ∀ x ∈ r, x < c.length) (hz : r.length ≤ 60) : gPS K none [sqA K (LN c), sqA K (LN r)] (dP K (.list (LN (psums c r))))
theorem sc_psums : FnScope ["counts", "ranking", "found", "total", "kind"] ["counts", "ranking"] (defScope (top 35)) := ⟨rfl, rfl, rfl, by decide +kernel, rfl, by decide +kernel, by decide +kernel⟩
-- slots: 0 counts, 1 ranking, 2 found, 3 total, 4 kind
theorem w_psums [Tb] (B : Bi K mg pA oA) (D : FunG K mg "prefix_sums" "prefix_sums" (top 35)) : Okd P w K mg base 1 "prefix_sums" ["counts", "ranking"] (gPS K) := by
  obtain ⟨f, fd, F, m⟩ := D
  refine ⟨f, fd, F.ok sc_psums (fun vs H Q E h => SpF.len (fun M ds d hg => by cases hg; rfl) h) (fun cdv A outer s H vs Q E hr h => ⟨_, PSs.nox ((pss_cons (ps_par (i := 2) (j := 3) rfl sc_psums.nd rfl rfl (by decide) rfl rfl (pa_cons (pe_lst pa_nil) (pa_cons pe_int pa_nil)) rfl)
    (pss_cons (ps_for PassesOwn.never rfl (pi_src (pv 1)) (pg_name (i := 4) sc_psums.nd rfl (by first | exact Or.inl rfl | exact Or.inr rfl))
    (pss_cons (ps_aug (i := 3) sc_psums.nd rfl (by first | exact Or.inl rfl | exact Or.inr rfl) (pe_ix ix_seq (pv 0) (pv 4) (fun _ _ => rfl)) ip_add)
    (pss_one (ps_expr (pe_bm PySem.F.plainAttrs_list PySem.F.slot_list_append PySem.F.type_list_append mt_append (pv 2) (pa_cons (pv 3) pa_nil))))))
    (pss_one (ps_ret (pv 2)))))), body_of (fun M ds d hg => ?_) h⟩), m, F.kp, F.bindsN (fun _ _ _ _ _ _ us hl => match us, hl with | [_, _], _ => rfl)⟩
  cases hg with
  | mk c r hr hz =>
  refine ⟨by simp, ?_⟩
  walk_at "go"
  refine dq_par (c := .own (ownL K [])) (c2 := .val (dP K (.int 0))) (evc_lst (ds := []) eva_nil (Nat.zero_le _)) ev_int (by decide) ?_
  refine dq_for (evi_src (ds := LN r) (by walk_at "ev") itd_q) (fun i Γ' => ∃ c1, Γ' = [.val (sqA K (LN c)), .val (sqA K (LN r)), .own (ownL K (LN ((psums c r).take i))), .val (dP K (nI (PSm c r i))), c1]) ⟨_, rfl⟩ (fun i Γ' hi hI => ?_) (fun Γ' hI => ?_)
  · obtain ⟨c1, rfl⟩ := hI
    rw [LN_length] at hi
    rw [LN_getD hi]
    have hx : r.getD i 0 < c.length := hr _ (by rw [List.getD_eq_getElem?_getD, List.getElem?_eq_getElem hi]; exact List.getElem_mem _)
    refine ⟨_, _, gt1, ?_⟩
    refine ds_seq (ds_aug (a := (PSm c r i : Nat)) (b := ((c.getD (r.getD i 0) 0 : Nat) : Int)) rfl (el_ixN (sk := .any) (EvJ.q_s (by walk_at "ev")) (by walk_at "ev") hx) ?_)
    refine ds_append (K := K) (ds := LN ((psums c r).take i)) (x := nI (PSm c r (i + 1))) rfl (ev_eq (by walk_at "ev") (by rw [PSm_succ hi]; simp)) ?_ ?_
    · rw [LN_length, List.length_take]; exact small1000 (by omega)
    · refine ⟨.val (dP K (nI (r.getD i 0))), ?_⟩
      have e1 : LN ((psums c r).take i) ++ [nI (PSm c r (i + 1))] = LN ((psums c r).take (i + 1)) := by rw [psums_take hi, LN_append]; rfl
      have e2 : ((PSm c r i : Nat) : Int) + ((c.getD (r.getD i 0) 0 : Nat) : Int) = ((PSm c r (i + 1) : Nat) : Int) := by rw [PSm_succ hi]; simp
      simp only [List.set_cons_zero, List.set_cons_succ, e1, e2]
  · obtain ⟨c1, rfl⟩ := hI
    rw [LN_length, List.take_of_length_le (by rw [psums_length]; omega)]
    refine ds_frz 2 (K := K) (ds := LN (psums c r)) rfl ?_
    exact ds_retR (by walk_at "ev")
end
end TPE
end
section
set_option maxHeartbeats 400000
namespace TPE
open PySem PySem.Spec PyProof.Rows L2 TPI TPZ RT
local macro_rules | `(tactic| walk_at "go") => `(tactic| (try dsimp only [cxK, cxKB, cxK2]); (try dsimp [Gam]); (try simp only [List.map_cons, List.map_nil, List.cons_append, List.nil_append]))
local macro_rules | `(tactic| walk_at "ev") => `(tactic| first
  | ((with_reducible apply ev_var); exact rfl)
  | with_reducible exact ev_int
  | with_reducible exact ev_str
  | with_reducible exact ev_bl
  | with_reducible exact ev_non
  | with_reducible exact ev_c
  | ((with_reducible apply el_i) <;> walk_at "ev")
  | ((with_reducible apply el_b) <;> walk_at "ev")
  | ((with_reducible apply el_eqI); (walk_at "ev"); (walk_at "ev"))
  | ((with_reducible apply el_neI); (walk_at "ev"); (walk_at "ev"))
  | ((with_reducible apply el_eqS); (walk_at "ev"); (walk_at "ev"))
  | ((with_reducible apply el_neS); (walk_at "ev"); (walk_at "ev"))
  | ((with_reducible apply ev_notV) <;> walk_at "ev")
  | ((with_reducible apply el_isi); (walk_at "ev"); exact rfl)
  | ((with_reducible apply el_len) <;> walk_at "ej")
  | (((with_reducible apply ev_aT); (walk_at "ev")))
  | (((with_reducible apply ev_aL); (walk_at "ev")))
  | (((with_reducible apply ev_aP); (walk_at "ev")))
  | (((with_reducible apply ev_pl); (walk_at "ev"))))
local macro_rules | `(tactic| walk_at "ej") => `(tactic| first
  | ((with_reducible apply ev_own); exact rfl)
  | ((with_reducible apply EvJ.q_s); walk_at "ev")
  | ((with_reducible apply EvJ.q_l); walk_at "ev")
  | ((with_reducible apply EvJ.q_t); walk_at "ev")
  | ((with_reducible apply evj); walk_at "ev"))
local macro_rules | `(tactic| walk_at "ea") => `(tactic| first
  | with_reducible exact eva_nil
  | ((with_reducible apply eva_cons); (walk_at "ev"); (walk_at "ea")))
local macro_rules | `(tactic| walk_at "et") => `(tactic| first
  | ((with_reducible apply evt_or); (walk_at "et"); (intro _; walk_at "et"))
  | ((with_reducible apply evt_and); (walk_at "et"); (intro _; walk_at "et"))
  | ((with_reducible apply evt_not); (walk_at "et"))
  | ((with_reducible apply evt_test); (walk_at "ev"))
  | ((with_reducible apply evt_tB); (walk_at "ev")))
local macro_rules | `(tactic| walk_at "le") => `(tactic| ((try simp only [List.set_cons_zero, List.set_cons_succ]); repeat' (first | exact Le.nil | (with_reducible apply Le.un) | (apply Le.eq rfl) | apply Le.eq)))
/-- how many of the first n turns of w are p's -/
def cntw (w : List Bool) (p : Bool) (n : Nat) : Nat := (w.take n).count p
theorem rep_split {α : Type} (u : List α) {t q : Nat} (h : q < t) : (List.replicate t u).flatten = (List.replicate q u).flatten ++ (u ++ (List.replicate (t - q - 1) u).flatten) := by
  have e : t = q + (1 + (t - q - 1)) := by omega
  conv => lhs; rw [e]
  rw [List.replicate_append_replicate.symm, List.flatten_append, List.replicate_append_replicate.symm, List.flatten_append]
  simp
theorem rep_take {α : Type} (u : List α) (hu : 0 < u.length) {t m : Nat} (h : m / u.length < t) (ys : List α) : ((List.replicate t u).flatten ++ ys).take m = (List.replicate (m / u.length) u).flatten ++ u.take (m - m / u.length * u.length) := by
  have hm : m / u.length * u.length ≤ m := Nat.div_mul_le_self m u.length
  have hr : m - m / u.length * u.length < u.length := by
    have := Nat.mod_lt m hu
    have e := Nat.div_add_mod m u.length
    rw [Nat.mul_comm] at e
    omega
  rw [rep_split u h, List.append_assoc, List.append_assoc, List.take_append, rep_length, List.take_of_length_le (by rw [rep_length]; exact hm), List.take_append_of_le_length (by omega)]
theorem cnt_rep (u : List Bool) (p : Bool) (q : Nat) : (List.replicate q u).flatten.count p = q * u.count p := by
  induction q with
  | zero => simp
  | succ q ih => rw [List.replicate_succ, List.flatten_cons, List.count_append, ih, Nat.succ_mul, Nat.add_comm]
/-- one block of count_turns, rest_of -/
theorem flat_split (bs : List (List Bool × Nat)) {i : Nat} (h : i < bs.length) : flat bs = flat (bs.take i) ++ ((List.replicate bs[i].2 bs[i].1).flatten ++ flat (bs.drop (i + 1))) := by
  conv => lhs; rw [← List.take_append_drop i bs, flat_append, List.drop_eq_getElem_cons h, flat_cons]
theorem flat_take_succ (bs : List (List Bool × Nat)) {i : Nat} (h : i < bs.length) : flat (bs.take (i + 1)) = flat (bs.take i) ++ (List.replicate bs[i].2 bs[i].1).flatten := by
  rw [List.take_add_one, List.getElem?_eq_getElem h, flat_append]
  show _ ++ flat [bs[i]] = _
  rw [flat_cons, flat_nil, List.append_nil]
section
variable {P : Program} {w : World} {K : PySem.W.Frag} {mg : Str → Option Value} {base : Heap} {pA oA : Addr}
inductive gCT (K : PySem.W.Frag) : Option Addr → List Pd → Pd → Prop
  | mk (bs : List (List Bool × Nat)) (h : BlOk bs) (p : Bool) (n : Nat) : gCT K none [sqA K (BD bs), dP K (pD p), dP K (nI n)] (dP K (nI (cntw (flat bs) p n)))
theorem sc_ct : FnScope ["sequence", "player", "picks", "found", "turns", "times", "whole"] ["sequence", "player", "picks"] (defScope (top 39)) := ⟨rfl, rfl, rfl, by decide +kernel, rfl, by decide +kernel, by decide +kernel⟩
-- slots: 0 sequence, 1 player, 2 picks, 3 found, 4 turns, 5 times, 6 whole
theorem w_ct [Tb] (B : Bi K mg pA oA) (D : FunG K mg "count_turns" "count_turns" (top 39)) : Okd P w K mg base 1 "count_turns" ["sequence", "player", "picks"] (gCT K) := by
  obtain ⟨f, fd, F, m⟩ := D
  refine ⟨f, fd, F.ok sc_ct (fun vs H Q E h => SpF.len (fun M ds d hg => by cases hg; rfl) h) (fun cdv A outer s H vs Q E hr h => ⟨_, PSs.nox ((pss_cons (ps_set (i := 3) sc_ct.nd rfl (by first | exact Or.inl rfl | exact Or.inr rfl) pe_int)
    (pss_cons (ps_for PassesOwn.never rfl (pi_src (pv 0)) (pg_tup rfl (pgs_cons (pg_name (i := 4) sc_ct.nd rfl (by first | exact Or.inl rfl | exact Or.inr rfl)) (pgs_cons (pg_name (i := 5) sc_ct.nd rfl (by first | exact Or.inl rfl | exact Or.inr rfl)) pgs_nil)))
    (pss_cons (ps_set (i := 6) sc_ct.nd rfl (by first | exact Or.inl rfl | exact Or.inr rfl) (pe_callB (call_min2 rfl) rfl B.min (by decide +kernel) (pa_cons (pv 5) (pa_cons (pe_op op_fdiv (pv 2) (pe_callB call_len rfl B.len (by decide +kernel) (pa_cons (pv 4) pa_nil))) pa_nil))))
    (pss_cons (ps_aug (i := 3) sc_ct.nd rfl (by first | exact Or.inl rfl | exact Or.inr rfl) (pe_op op_mul (pv 6) (pe_bm PySem.F.plainAttrs_str PySem.F.slot_str_count PySem.F.type_str_count mt_count (pv 4) (pa_cons (pv 1) pa_nil))) ip_add)
    (pss_cons (ps_aug (i := 2) sc_ct.nd rfl (by first | exact Or.inl rfl | exact Or.inr rfl) (pe_op op_mul (pv 6) (pe_callB call_len rfl B.len (by decide +kernel) (pa_cons (pv 4) pa_nil))) ip_sub)
    (pss_one (ps_if (pt_cmpR op_lt (pv 6) (pv 5) (nomark _))
    (pss_one (ps_ret (pe_op op_add (pv 3) (pe_bm PySem.F.plainAttrs_str PySem.F.slot_str_count PySem.F.type_str_count mt_count (pe_slice sl_str (pv 4) po_none (po_some (pv 2))) (pa_cons (pv 1) pa_nil)))))
    pss_nil))))))
    (pss_one (ps_ret (pv 3)))))), body_of (fun M ds d hg => ?_) h⟩), m, F.kp, F.bindsN (fun _ _ _ _ _ _ us hl => match us, hl with | [_, _, _], _ => rfl)⟩
  cases hg with
  | mk bs h p n =>
  refine ⟨by simp, ?_⟩
  walk_at "go"
  refine dq_setV (ev_int (K := K)) ?_
  refine dq_forL (evi_src (ds := BD bs) (by walk_at "ev") itd_q) (fun i => (flat (bs.take i)).length ≤ n) (fun i => [.val (sqA K (BD bs)), .val (dP K (pD p)), .val (dP K (nI (n - (flat (bs.take i)).length))), .val (dP K (nI ((flat (bs.take i)).count p))), .un, .un, .un]) ⟨by simp [flat], by walk_at "le"⟩ (fun i hi hL => ?_) (fun hL => ?_)
  · have hi' : i < bs.length := by simpa [BD] using hi
    rw [BD_getD hi']
    obtain ⟨q1, q2, q3, q4⟩ := h.ok _ (List.getElem_mem hi')
    have hu : 0 < bs[i].1.length := List.length_pos_iff.mpr q1
    refine ⟨_, _, gt2, ?_⟩
    simp only [List.set_cons_zero, List.set_cons_succ]
    generalize hm : n - (flat (bs.take i)).length = m
    generalize hA : (flat (bs.take i)).count p = A
    generalize hb : bs[i] = b at *
    obtain ⟨u, t⟩ := b
    simp only at q1 q2 q3 q4 hu
    refine dq_setV (d := dP K (nI (min t (m / u.length)))) (el_minN (by walk_at "ev") (el_divN (by walk_at "ev") (el_lenW (by walk_at "ev") (len20 q2)) hu (by omega))) ?_
    simp only [List.set_cons_zero, List.set_cons_succ]
    have hwle : min t (m / u.length) * u.length ≤ m := Nat.le_trans (Nat.mul_le_mul_right _ (Nat.min_le_right _ _)) (Nat.div_mul_le_self _ _)
    refine ds_seq (ds_aug (a := (A : Nat)) (b := ((min t (m / u.length) * u.count p : Nat) : Int)) rfl (el_mulN (by walk_at "ev") (el_cntS (by walk_at "ev") (by walk_at "ev")) (by omega)) ?_)
    refine ds_seq (ds_aug (a := (m : Nat)) (b := ((min t (m / u.length) * u.length : Nat) : Int)) rfl (el_mulN (by walk_at "ev") (el_lenW (by walk_at "ev") (len20 q2)) (by omega)) ?_)
    simp only [List.set_cons_zero, List.set_cons_succ]
    have e1 : ((A : Nat) : Int) + ((min t (m / u.length) * u.count p : Nat) : Int) = ((A + min t (m / u.length) * u.count p : Nat) : Int) := by simp
    have e2 : ((m : Nat) : Int) - ((min t (m / u.length) * u.length : Nat) : Int) = ((m - min t (m / u.length) * u.length : Nat) : Int) := by omega
    rw [e1, e2]
    refine ds_ifB (b := decide (((min t (m / u.length) : Nat) : Int) < (t : Nat))) (evt_test (by walk_at "ev")) (fun hlt => ?_) fun hge => ?_
    · have hlt : m / u.length < t := by simp at hlt; omega
      have hmin : min t (m / u.length) = m / u.length := by omega
      rw [hmin]
      refine ds_retR (ev_eq (el_addN (b := (u.take (m - m / u.length * u.length)).count p) (by walk_at "ev") (ev_eq (el_cntS (el_slW (by walk_at "ev") evo_none (evo_some (K := K) (i := ((m - m / u.length * u.length : Nat) : Int)) (by walk_at "ev")) (len20 q2)) (by walk_at "ev")) (by rw [cut_take]))) ?_)
      have e : cntw (flat bs) p n = A + m / u.length * u.count p + (u.take (m - m / u.length * u.length)).count p := by
        unfold cntw
        rw [flat_split bs hi', List.take_append, List.take_of_length_le hL, hm, hb, rep_take u hu hlt, List.count_append, List.count_append, cnt_rep, hA, Nat.add_assoc]
      rw [e]
    · have hge : ¬ m / u.length < t := by simp at hge; omega
      have hmin : min t (m / u.length) = t := by omega
      have htm : t * u.length ≤ m := Nat.le_trans (Nat.mul_le_mul_right _ (by omega)) (Nat.div_mul_le_self _ _)
      have hL2 : (flat (bs.take (i + 1))).length = (flat (bs.take i)).length + t * u.length := by rw [flat_take_succ bs hi', hb, List.length_append, rep_length]
      refine ds_next ⟨by omega, ?_⟩
      have e3 : m - t * u.length = n - (flat (bs.take (i + 1))).length := by omega
      have e4 : A + t * u.count p = (flat (bs.take (i + 1))).count p := by rw [flat_take_succ bs hi', hb, List.count_append, cnt_rep, hA]
      rw [hmin, e3, e4]
      walk_at "le"
  · have e : (BD bs).length = bs.length := by simp [BD]
    rw [e, List.take_length] at hL ⊢
    refine ds_retR (ev_eq (by walk_at "ev") ?_)
    unfold cntw
    rw [List.take_of_length_le hL]
end
end TPE
end
section
set_option maxHeartbeats 400000
namespace TPE
open PySem PySem.Spec PyProof.Rows L2 TPI TPZ RT
local macro_rules | `(tactic| walk_at "go") => `(tactic| (try dsimp only [cxK, cxKB, cxK2]); (try dsimp [Gam]); (try simp only [List.map_cons, List.map_nil, List.cons_append, List.nil_append]))
local macro_rules | `(tactic| walk_at "ev") => `(tactic| first
  | ((with_reducible apply ev_var); exact rfl)
  | with_reducible exact ev_int
  | with_reducible exact ev_str
  | with_reducible exact ev_bl
  | with_reducible exact ev_non
  | with_reducible exact ev_c
  | ((with_reducible apply el_i) <;> walk_at "ev")
  | ((with_reducible apply el_b) <;> walk_at "ev")
  | ((with_reducible apply el_eqI); (walk_at "ev"); (walk_at "ev"))
  | ((with_reducible apply el_neI); (walk_at "ev"); (walk_at "ev"))
  | ((with_reducible apply el_eqS); (walk_at "ev"); (walk_at "ev"))
  | ((with_reducible apply el_neS); (walk_at "ev"); (walk_at "ev"))
  | ((with_reducible apply ev_notV) <;> walk_at "ev")
  | ((with_reducible apply el_isi); (walk_at "ev"); exact rfl)
  | ((with_reducible apply el_len) <;> walk_at "ej")
  | (((with_reducible apply ev_aT); (walk_at "ev")))
  | (((with_reducible apply ev_aL); (walk_at "ev")))
  | (((with_reducible apply ev_aP); (walk_at "ev")))
  | (((with_reducible apply ev_pl); (walk_at "ev"))))
local macro_rules | `(tactic| walk_at "ej") => `(tactic| first
  | ((with_reducible apply ev_own); exact rfl)
  | ((with_reducible apply EvJ.q_s); walk_at "ev")
  | ((with_reducible apply EvJ.q_l); walk_at "ev")
  | ((with_reducible apply EvJ.q_t); walk_at "ev")
  | ((with_reducible apply evj); walk_at "ev"))
local macro_rules | `(tactic| walk_at "ea") => `(tactic| first
  | with_reducible exact eva_nil
  | ((with_reducible apply eva_cons); (walk_at "ev"); (walk_at "ea")))
local macro_rules | `(tactic| walk_at "et") => `(tactic| first
  | ((with_reducible apply evt_or); (walk_at "et"); (intro _; walk_at "et"))
  | ((with_reducible apply evt_and); (walk_at "et"); (intro _; walk_at "et"))
  | ((with_reducible apply evt_not); (walk_at "et"))
  | ((with_reducible apply evt_test); (walk_at "ev"))
  | ((with_reducible apply evt_tB); (walk_at "ev")))
local macro_rules | `(tactic| walk_at "le") => `(tactic| ((try simp only [List.set_cons_zero, List.set_cons_succ]); repeat' (first | exact Le.nil | (with_reducible apply Le.un) | (apply Le.eq rfl) | apply Le.eq)))
/-- by how much a player's turns come within the prefixes of a list -/
def caps (w : List Bool) (p : Bool) (c r : List Nat) : List Nat := (psums c r).map (cntw w p)
theorem caps_length {w : List Bool} {p : Bool} {c r : List Nat} : (caps w p c r).length = r.length := by simp [caps, psums_length]
section
variable {P : Program} {w : World} {K : PySem.W.Frag} {mg : Str → Option Value} {base : Heap} {pA oA : Addr}
inductive gCaps (K : PySem.W.Frag) : Option Addr → List Pd → Pd → Prop
  | mk (c r : List Nat) (bs : List (List Bool × Nat)) (p : Bool) (hr : ∀ x ∈ r, x < c.length) (hz : r.length ≤ 60) (h : BlOk bs) : gCaps K none [sqA K (LN c), sqA K (LN r), sqA K (BD bs), dP K (pD p)] (dP K (.list (LN (caps (flat bs) p c r))))
theorem sc_caps : FnScope ["counts", "ranking", "sequence", "player", "items"] ["counts", "ranking", "sequence", "player"] (defScope (top 43)) := ⟨rfl, rfl, rfl, by decide +kernel, rfl, by decide +kernel, by decide +kernel⟩
-- slots: 0 counts, 1 ranking, 2 sequence*, 3 player*, 4 items
theorem w_caps [Tb] (B : Bi K mg pA oA) (D : FunG K mg "caps_of" "caps_of" (top 43)) (O_count_turns : Okd P w K mg base 1 "count_turns" ["sequence", "player", "picks"] (gCT K)) (O_prefix_sums : Okd P w K mg base 1 "prefix_sums" ["counts", "ranking"] (gPS K)) : Okd P w K mg base 2 "caps_of" ["counts", "ranking", "sequence", "player"] (gCaps K) := by
  obtain ⟨f, fd, F, m⟩ := D
  refine ⟨f, fd, F.ok sc_caps (fun vs H Q E h => SpF.len (fun M ds d hg => by cases hg; rfl) h) (fun cdv A outer s H vs Q E hr h => ⟨_, PSs.nox ((pss_one (ps_ret (pe_lc (own := [("items", 4)]) rfl sc_caps.nd (pi_src (pe_callO O_prefix_sums (hr.mono (by decide)) rfl (pa_cons (pv 0) (pa_cons (pv 1) pa_nil)))) (blkOk_by (own := [("items", 4)]) (N := ["counts", "ranking", "sequence", "player", "items"]) (sc := defScope (top 43)) (by decide +kernel)) (fun _ _ _ _ _ => (pg_name (i := 4) sc_caps.nd rfl (by first | exact Or.inl rfl | exact Or.inr rfl))) (fun _ _ _ _ _ => pts_nil) (fun _ _ _ _ _ => (pe_callO O_count_turns (hr.mono (by decide)) rfl (pa_cons (pv 2) (pa_cons (pv 3) (pa_cons (pv 4) pa_nil))))))))), body_of (fun M ds d hg => ?_) h⟩), m, F.kp, F.bindsN (fun _ _ _ _ _ _ us hl => match us, hl with | [_, _, _, _], _ => rfl)⟩
  cases hg with
  | mk c r bs p hr hz h =>
  refine ⟨by simp, ?_⟩
  walk_at "go"
  refine ds_retR (ev_frz (evc_eqL (evc_mapF (K := K) (evi_src (ds := LN (psums c r)) (ev_call (by walk_at "ea") (gPS.mk c r hr hz) (.inl rfl)) itd_l) (fun i => nI (cntw (flat bs) p ((psums c r).getD i 0))) (by rw [LN_length, psums_length]; omega) fun i hi => ?_) ?_))
  · rw [LN_length] at hi
    rw [LN_getD hi]
    exact ⟨_, gt1, ev_call (by walk_at "ea") (gCT.mk bs h p _) (.inl rfl)⟩
  · rw [LN_length, map_range_get (psums c r) _ (fun x => nI (cntw (flat bs) p x)) fun i hi => by rw [List.getD_eq_getElem?_getD, List.getElem?_eq_getElem hi]; rfl]
    simp [LN, caps]
theorem sc_sureof : FnScope ["counts", "ranking", "sequence", "player", "picks"] ["counts", "ranking", "sequence", "player"] (defScope (top 54)) := ⟨rfl, rfl, rfl, by decide +kernel, rfl, by decide +kernel, by decide +kernel⟩
-- slots: 0 counts, 1 ranking, 2 sequence*, 3 player*, 4 picks
theorem w_sureof [Tb] (B : Bi K mg pA oA) (D : FunG K mg "sure_of" "sure_of" (top 54)) (O_count_turns : Okd P w K mg base 1 "count_turns" ["sequence", "player", "picks"] (gCT K)) (O_prefix_sums : Okd P w K mg base 1 "prefix_sums" ["counts", "ranking"] (gPS K)) : Okd P w K mg base 2 "sure_of" ["counts", "ranking", "sequence", "player"] (gCaps K) := by
  obtain ⟨f, fd, F, m⟩ := D
  refine ⟨f, fd, F.ok sc_sureof (fun vs H Q E h => SpF.len (fun M ds d hg => by cases hg; rfl) h) (fun cdv A outer s H vs Q E hr h => ⟨_, PSs.nox ((pss_one (ps_ret (pe_lc (own := [("picks", 4)]) rfl sc_sureof.nd (pi_src (pe_callO O_prefix_sums (hr.mono (by decide)) rfl (pa_cons (pv 0) (pa_cons (pv 1) pa_nil)))) (blkOk_by (own := [("picks", 4)]) (N := ["counts", "ranking", "sequence", "player", "picks"]) (sc := defScope (top 54)) (by decide +kernel)) (fun _ _ _ _ _ => (pg_name (i := 4) sc_sureof.nd rfl (by first | exact Or.inl rfl | exact Or.inr rfl))) (fun _ _ _ _ _ => pts_nil) (fun _ _ _ _ _ => (pe_callO O_count_turns (hr.mono (by decide)) rfl (pa_cons (pv 2) (pa_cons (pv 3) (pa_cons (pv 4) pa_nil))))))))), body_of (fun M ds d hg => ?_) h⟩), m, F.kp, F.bindsN (fun _ _ _ _ _ _ us hl => match us, hl with | [_, _, _, _], _ => rfl)⟩
  cases hg with
  | mk c r bs p hr hz h =>
  refine ⟨by simp, ?_⟩
  walk_at "go"
  refine ds_retR (ev_frz (evc_eqL (evc_mapF (K := K) (evi_src (ds := LN (psums c r)) (ev_call (by walk_at "ea") (gPS.mk c r hr hz) (.inl rfl)) itd_l) (fun i => nI (cntw (flat bs) p ((psums c r).getD i 0))) (by rw [LN_length, psums_length]; omega) fun i hi => ?_) ?_))
  · rw [LN_length] at hi
    rw [LN_getD hi]
    exact ⟨_, gt1, ev_call (by walk_at "ea") (gCT.mk bs h p _) (.inl rfl)⟩
  · rw [LN_length, map_range_get (psums c r) _ (fun x => nI (cntw (flat bs) p x)) fun i hi => by rw [List.getD_eq_getElem?_getD, List.getElem?_eq_getElem hi]; rfl]
    simp [LN, caps]
inductive gOwnT (K : PySem.W.Frag) : Option Addr → List Pd → Pd → Prop
  | mk (bs : List (List Bool × Nat)) (h : BlOk bs) (p : Bool) : gOwnT K none [sqA K (BD bs), dP K (pD p)] (dP K (nI ((flat bs).count p)))
theorem sc_ownt : FnScope ["sequence", "player"] ["sequence", "player"] (defScope (top 44)) := ⟨rfl, rfl, rfl, by decide +kernel, rfl, by decide +kernel, by decide +kernel⟩
-- slots: 0 sequence, 1 player
theorem w_ownt [Tb] (B : Bi K mg pA oA) (D : FunG K mg "own_turns" "own_turns" (top 44)) (O_count_turns : Okd P w K mg base 1 "count_turns" ["sequence", "player", "picks"] (gCT K)) (O_picks_of : Okd P w K mg base 1 "picks_of" ["sequence"] (gPicks K)) : Okd P w K mg base 2 "own_turns" ["sequence", "player"] (gOwnT K) := by
  obtain ⟨f, fd, F, m⟩ := D
  refine ⟨f, fd, F.ok sc_ownt (fun vs H Q E h => SpF.len (fun M ds d hg => by cases hg; rfl) h) (fun cdv A outer s H vs Q E hr h => ⟨_, PSs.nox ((pss_one (ps_ret (pe_callO O_count_turns (hr.mono (by decide)) rfl (pa_cons (pv 0) (pa_cons (pv 1) (pa_cons (pe_callO O_picks_of (hr.mono (by decide)) rfl (pa_cons (pv 0) pa_nil)) pa_nil))))))), body_of (fun M ds d hg => ?_) h⟩), m, F.kp, F.bindsN (fun _ _ _ _ _ _ us hl => match us, hl with | [_, _], _ => rfl)⟩
  cases hg with
  | mk bs h p =>
  refine ⟨by simp, ?_⟩
  walk_at "go"
  refine ds_retR (ev_eq (ev_call (eva_cons (by walk_at "ev") (eva_cons (by walk_at "ev") (eva_cons (ev_call (by walk_at "ea") (gPicks.mk bs h) (.inl rfl)) eva_nil))) (gCT.mk bs h p _) (.inl rfl)) ?_)
  unfold cntw
  rw [List.take_length]
inductive gSetting (K : PySem.W.Frag) : Option Addr → List Pd → Pd → Prop
  | mk (c r : List Nat) (bs : List (List Bool × Nat)) (p : Bool) (hr : RkOk c.length r) (h : BlOk bs) (hl : (flat bs).length ≤ c.sum) : gSetting K none [dP K (.tuple (LN c)), dP K (.tuple (LN r)), sqA K (BD bs), dP K (pD p)] (dP K .none)
theorem sc_setting : FnScope ["counts", "ranking", "sequence", "player"] ["counts", "ranking", "sequence", "player"] (defScope (top 42)) := ⟨rfl, rfl, rfl, by decide +kernel, rfl, by decide +kernel, by decide +kernel⟩
-- slots: 0 counts, 1 ranking, 2 sequence, 3 player
theorem w_setting [Tb] (B : Bi K mg pA oA) (D : FunG K mg "require_setting" "require_setting" (top 42)) (O_require_counts : Okd P w K mg base 4 "require_counts" ["counts"] (gRCounts K)) (O_require_list : Okd P w K mg base 4 "require_list" ["ranking", "many"] (gRList K)) (O_require_sequence : Okd P w K mg base 4 "require_sequence" ["sequence"] (gRSeq K)) (O_require_player : Okd P w K mg base 1 "require_player" ["player"] (gRPlayer K)) (O_require_fits : Okd P w K mg base 2 "require_fits" ["counts", "sequence"] (gFits K)) : Okd P w K mg base 5 "require_setting" ["counts", "ranking", "sequence", "player"] (gSetting K) := by
  obtain ⟨f, fd, F, m⟩ := D
  refine ⟨f, fd, F.ok sc_setting (fun vs H Q E h => SpF.len (fun M ds d hg => by cases hg; rfl) h) (fun cdv A outer s H vs Q E hr h => ⟨_, PSs.nox ((pss_cons (ps_expr (pe_callO O_require_counts (hr.mono (by decide)) rfl (pa_cons (pv 0) pa_nil)))
    (pss_cons (ps_expr (pe_callO O_require_list (hr.mono (by decide)) rfl (pa_cons (pv 1) (pa_cons (pe_callB call_len rfl B.len (by decide +kernel) (pa_cons (pv 0) pa_nil)) pa_nil))))
    (pss_cons (ps_expr (pe_callO O_require_sequence (hr.mono (by decide)) rfl (pa_cons (pv 2) pa_nil)))
    (pss_cons (ps_expr (pe_callO O_require_player (hr.mono (by decide)) rfl (pa_cons (pv 3) pa_nil)))
    (pss_one (ps_expr (pe_callO O_require_fits (hr.mono (by decide)) rfl (pa_cons (pv 0) (pa_cons (pv 2) pa_nil)))))))))), body_of (fun M ds d hg => ?_) h⟩), m, F.kp, F.bindsN (fun _ _ _ _ _ _ us hl => match us, hl with | [_, _, _, _], _ => rfl)⟩
  cases hg with
  | mk c r bs p hr h hl =>
  refine ⟨by simp, ?_⟩
  walk_at "go"
  refine dq_drop (ev_call (by walk_at "ea") (gRCounts.mk c hr.few) (.inl rfl)) ?_
  refine dq_drop (ev_call (eva_cons (by walk_at "ev") (eva_cons (el_lenN (sk := .t) (by walk_at "ej")) eva_nil)) (gRList.mk c.length r hr) (.inl rfl)) ?_
  refine dq_drop (ev_call (by walk_at "ea") (gRSeq.mk bs h) (.inl rfl)) ?_
  refine dq_drop (ev_call (by walk_at "ea") (gRPlayer.mk p) (.inl rfl)) ?_
  refine ds_drop (ev_call (by walk_at "ea") (gFits.mk c bs h hl) (.inl rfl)) ?_
  exact fun F => .non
inductive gSide (K : PySem.W.Frag) : Option Addr → List Pd → Pd → Prop
  | mk (c r : List Nat) (bs : List (List Bool × Nat)) (p : Bool) (hr : RkOk c.length r) (h : BlOk bs) : gSide K none [dP K (.tuple (LN c)), dP K (.tuple (LN r)), sqA K (BD bs), dP K (pD p)] (dP K .none)
theorem sc_side : FnScope ["counts", "ranking", "sequence", "player"] ["counts", "ranking", "sequence", "player"] (defScope (top 53)) := ⟨rfl, rfl, rfl, by decide +kernel, rfl, by decide +kernel, by decide +kernel⟩
-- slots: 0 counts, 1 ranking, 2 sequence, 3 player
theorem w_side [Tb] (B : Bi K mg pA oA) (D : FunG K mg "require_side" "require_side" (top 53)) (O_require_counts : Okd P w K mg base 4 "require_counts" ["counts"] (gRCounts K)) (O_require_list : Okd P w K mg base 4 "require_list" ["ranking", "many"] (gRList K)) (O_require_sequence : Okd P w K mg base 4 "require_sequence" ["sequence"] (gRSeq K)) (O_require_player : Okd P w K mg base 1 "require_player" ["player"] (gRPlayer K)) : Okd P w K mg base 5 "require_side" ["counts", "ranking", "sequence", "player"] (gSide K) := by
  obtain ⟨f, fd, F, m⟩ := D
  refine ⟨f, fd, F.ok sc_side (fun vs H Q E h => SpF.len (fun M ds d hg => by cases hg; rfl) h) (fun cdv A outer s H vs Q E hr h => ⟨_, PSs.nox ((pss_cons (ps_expr (pe_callO O_require_counts (hr.mono (by decide)) rfl (pa_cons (pv 0) pa_nil)))
    (pss_cons (ps_expr (pe_callO O_require_list (hr.mono (by decide)) rfl (pa_cons (pv 1) (pa_cons (pe_callB call_len rfl B.len (by decide +kernel) (pa_cons (pv 0) pa_nil)) pa_nil))))
    (pss_cons (ps_expr (pe_callO O_require_sequence (hr.mono (by decide)) rfl (pa_cons (pv 2) pa_nil)))
    (pss_one (ps_expr (pe_callO O_require_player (hr.mono (by decide)) rfl (pa_cons (pv 3) pa_nil)))))))), body_of (fun M ds d hg => ?_) h⟩), m, F.kp, F.bindsN (fun _ _ _ _ _ _ us hl => match us, hl with | [_, _, _, _], _ => rfl)⟩
  cases hg with
  | mk c r bs p hr h =>
  refine ⟨by simp, ?_⟩
  walk_at "go"
  refine dq_drop (ev_call (by walk_at "ea") (gRCounts.mk c hr.few) (.inl rfl)) ?_
  refine dq_drop (ev_call (eva_cons (by walk_at "ev") (eva_cons (el_lenN (sk := .t) (by walk_at "ej")) eva_nil)) (gRList.mk c.length r hr) (.inl rfl)) ?_
  refine dq_drop (ev_call (by walk_at "ea") (gRSeq.mk bs h) (.inl rfl)) ?_
  refine ds_drop (ev_call (by walk_at "ea") (gRPlayer.mk p) (.inl rfl)) ?_
  exact fun F => .non
inductive gSure (K : PySem.W.Frag) : Option Addr → List Pd → Pd → Prop
  | mk (c r : List Nat) (bs : List (List Bool × Nat)) (p : Bool) (hr : RkOk c.length r) (h : BlOk bs) (hl : (flat bs).length ≤ c.sum) : gSure K none [dP K (.tuple (LN c)), dP K (.tuple (LN r)), sqA K (BD bs), dP K (pD p)] (dP K (.list (LN (caps (flat bs) p c r))))
theorem sc_sure : FnScope ["counts", "ranking", "sequence", "player"] ["counts", "ranking", "sequence", "player"] (defScope (top 55)) := ⟨rfl, rfl, rfl, by decide +kernel, rfl, by decide +kernel, by decide +kernel⟩
-- slots: 0 counts, 1 ranking, 2 sequence, 3 player
theorem w_sure [Tb] (B : Bi K mg pA oA) (D : FunG K mg "sure_counts" "sure_counts" (top 55)) (O_require_side : Okd P w K mg base 5 "require_side" ["counts", "ranking", "sequence", "player"] (gSide K)) (O_require_fits : Okd P w K mg base 2 "require_fits" ["counts", "sequence"] (gFits K)) (O_sure_of : Okd P w K mg base 2 "sure_of" ["counts", "ranking", "sequence", "player"] (gCaps K)) : Okd P w K mg base 6 "sure_counts" ["counts", "ranking", "sequence", "player"] (gSure K) := by
  obtain ⟨f, fd, F, m⟩ := D
  refine ⟨f, fd, F.ok sc_sure (fun vs H Q E h => SpF.len (fun M ds d hg => by cases hg; rfl) h) (fun cdv A outer s H vs Q E hr h => ⟨_, PSs.nox ((pss_cons (ps_expr (pe_callO O_require_side (hr.mono (by decide)) rfl (pa_cons (pv 0) (pa_cons (pv 1) (pa_cons (pv 2) (pa_cons (pv 3) pa_nil))))))
    (pss_cons (ps_expr (pe_callO O_require_fits (hr.mono (by decide)) rfl (pa_cons (pv 0) (pa_cons (pv 2) pa_nil))))
    (pss_one (ps_ret (pe_callO O_sure_of (hr.mono (by decide)) rfl (pa_cons (pv 0) (pa_cons (pv 1) (pa_cons (pv 2) (pa_cons (pv 3) pa_nil)))))))))), body_of (fun M ds d hg => ?_) h⟩), m, F.kp, F.bindsN (fun _ _ _ _ _ _ us hl => match us, hl with | [_, _, _, _], _ => rfl)⟩
  cases hg with
  | mk c r bs p hr h hl =>
  refine ⟨by simp, ?_⟩
  walk_at "go"
  refine dq_drop (ev_call (by walk_at "ea") (gSide.mk c r bs p hr h) (.inl rfl)) ?_
  refine dq_drop (ev_call (by walk_at "ea") (gFits.mk c bs h hl) (.inl rfl)) ?_
  exact ds_retR (ev_call (by walk_at "ea") (gCaps.mk c r bs p (fun x hx => hr.lt hx) (by rw [hr.length]; exact hr.few) h) (.inl rfl))
/-- has turn n (from 1) of w -/
inductive gHas (K : PySem.W.Frag) : Option Addr → List Pd → Pd → Prop
  | mk (bs : List (List Bool × Nat)) (h : BlOk bs) (p : Bool) (n : Nat) : gHas K none [sqA K (BD bs), dP K (pD p), dP K (nI (n + 1))] (dP K (.bool (decide (cntw (flat bs) p n < cntw (flat bs) p (n + 1)))))
theorem sc_has : FnScope ["sequence", "player", "number"] ["sequence", "player", "number"] (defScope (top 56)) := ⟨rfl, rfl, rfl, by decide +kernel, rfl, by decide +kernel, by decide +kernel⟩
-- slots: 0 sequence, 1 player, 2 number
theorem w_has [Tb] (B : Bi K mg pA oA) (D : FunG K mg "has_turn" "has_turn" (top 56)) (O_count_turns : Okd P w K mg base 1 "count_turns" ["sequence", "player", "picks"] (gCT K)) : Okd P w K mg base 2 "has_turn" ["sequence", "player", "number"] (gHas K) := by
  obtain ⟨f, fd, F, m⟩ := D
  refine ⟨f, fd, F.ok sc_has (fun vs H Q E h => SpF.len (fun M ds d hg => by cases hg; rfl) h) (fun cdv A outer s H vs Q E hr h => ⟨_, PSs.nox ((pss_one (ps_ret (pe_cmpR op_gt (pe_callO O_count_turns (hr.mono (by decide)) rfl (pa_cons (pv 0) (pa_cons (pv 1) (pa_cons (pv 2) pa_nil)))) (pe_callO O_count_turns (hr.mono (by decide)) rfl (pa_cons (pv 0) (pa_cons (pv 1) (pa_cons (pe_op op_sub (pv 2) pe_int) pa_nil)))) (nomark _))))), body_of (fun M ds d hg => ?_) h⟩), m, F.kp, F.bindsN (fun _ _ _ _ _ _ us hl => match us, hl with | [_, _, _], _ => rfl)⟩
  cases hg with
  | mk bs h p n =>
  refine ⟨by simp, ?_⟩
  walk_at "go"
  refine ds_retR (ev_eq (el_b (i := ((cntw (flat bs) p (n + 1) : Nat) : Int)) (k := ((cntw (flat bs) p n : Nat) : Int)) (ev_call (by walk_at "ea") (gCT.mk bs h p (n + 1)) (.inl rfl)) (ev_call (eva_cons (by walk_at "ev") (eva_cons (by walk_at "ev") (eva_cons (el_subN (a := n + 1) (b := 1) (by walk_at "ev") (ev_eq ev_int rfl) (by omega)) eva_nil))) (gCT.mk bs h p n) (.inl rfl))) ?_)
  simp
inductive gFirst (K : PySem.W.Frag) : Option Addr → List Pd → Pd → Prop
  | mk (bs : List (List Bool × Nat)) (h : BlOk bs) (p : Bool) (u : List Bool) (hw : flat bs = p :: u) : gFirst K none [sqA K (BD bs), dP K (pD p), dP K (.bool true)] (dP K .none)
theorem sc_first : FnScope ["sequence", "player", "is_own"] ["sequence", "player", "is_own"] (defScope (top 57)) := ⟨rfl, rfl, rfl, by decide +kernel, rfl, by decide +kernel, by decide +kernel⟩
-- slots: 0 sequence, 1 player, 2 is_own
theorem w_first [Tb] (B : Bi K mg pA oA) (D : FunG K mg "require_first" "require_first" (top 57)) (O_picks_of : Okd P w K mg base 1 "picks_of" ["sequence"] (gPicks K)) (O_has_turn : Okd P w K mg base 2 "has_turn" ["sequence", "player", "number"] (gHas K)) : Okd P w K mg base 3 "require_first" ["sequence", "player", "is_own"] (gFirst K) := by
  obtain ⟨f, fd, F, m⟩ := D
  refine ⟨f, fd, F.ok sc_first (fun vs H Q E h => SpF.len (fun M ds d hg => by cases hg; rfl) h) (fun cdv A outer s H vs Q E hr h => ⟨_, PSs.nox ((pss_one (ps_if (PW.pt (pw_or (pt_cmpR op_eq (pe_callO O_picks_of (hr.mono (by decide)) rfl (pa_cons (pv 0) pa_nil)) pe_int (nomark _)) (pw_or1 (pt_cmpR op_ne (pe_callO O_has_turn (hr.mono (by decide)) rfl (pa_cons (pv 0) (pa_cons (pv 1) (pa_cons pe_int pa_nil)))) (pv 2) (nomark _)))))
    (pss_one ps_never)
    pss_nil))), body_of (fun M ds d hg => ?_) h⟩), m, F.kp, F.bindsN (fun _ _ _ _ _ _ us hl => match us, hl with | [_, _, _], _ => rfl)⟩
  cases hg with
  | mk bs h p u hw =>
  refine ⟨by simp, ?_⟩
  walk_at "go"
  refine dq_guardL (evt_or (b := decide (((flat bs).length : Int) = 0)) (b' := !decide (decide (cntw (flat bs) p 0 < cntw (flat bs) p 1) = true)) (evt_test (el_eqI (ev_call (by walk_at "ea") (gPicks.mk bs h) (.inl rfl)) (by walk_at "ev"))) fun _ => evt_test (el_neB (ev_call (eva_cons (by walk_at "ev") (eva_cons (by walk_at "ev") (eva_cons (ev_eq ev_int rfl) eva_nil))) (gHas.mk bs h p 0) (.inl rfl)) (by walk_at "ev"))) ?_ ?_
  · have e0 : cntw (flat bs) p 0 = 0 := by simp [cntw]
    have e1 : cntw (flat bs) p 1 = 1 := by simp [cntw, hw]
    rw [e0, e1, hw]
    simp
    omega
  · exact fun F => .non
end
end TPE
end
section
set_option maxHeartbeats 400000
namespace TPE
open PySem PySem.Spec PyProof.Rows L2 TPI TPZ RT
local macro_rules | `(tactic| walk_at "go") => `(tactic| (try dsimp only [cxK, cxKB, cxK2]); (try dsimp [Gam]); (try simp only [List.map_cons, List.map_nil, List.cons_append, List.nil_append]))
local macro_rules | `(tactic| walk_at "ev") => `(tactic| first
  | ((with_reducible apply ev_var); exact rfl)
  | with_reducible exact ev_int
  | with_reducible exact ev_str
  | with_reducible exact ev_bl
  | with_reducible exact ev_non
  | with_reducible exact ev_c
  | ((with_reducible apply el_i) <;> walk_at "ev")
  | ((with_reducible apply el_b) <;> walk_at "ev")
  | ((with_reducible apply el_eqI); (walk_at "ev"); (walk_at "ev"))
  | ((with_reducible apply el_neI); (walk_at "ev"); (walk_at "ev"))
  | ((with_reducible apply el_eqS); (walk_at "ev"); (walk_at "ev"))
  | ((with_reducible apply el_neS); (walk_at "ev"); (walk_at "ev"))
  | ((with_reducible apply ev_notV) <;> walk_at "ev")
  | ((with_reducible apply el_isi); (walk_at "ev"); exact rfl)
  | ((with_reducible apply el_len) <;> walk_at "ej")
  | (((with_reducible apply ev_aT); (walk_at "ev")))
  | (((with_reducible apply ev_aL); (walk_at "ev")))
  | (((with_reducible apply ev_aP); (walk_at "ev")))
  | (((with_reducible apply ev_pl); (walk_at "ev"))))
local macro_rules | `(tactic| walk_at "ej") => `(tactic| first
  | ((with_reducible apply ev_own); exact rfl)
  | ((with_reducible apply EvJ.q_s); walk_at "ev")
  | ((with_reducible apply EvJ.q_l); walk_at "ev")
  | ((with_reducible apply EvJ.q_t); walk_at "ev")
  | ((with_reducible apply evj); walk_at "ev"))
local macro_rules | `(tactic| walk_at "ea") => `(tactic| first
  | with_reducible exact eva_nil
  | ((with_reducible apply eva_cons); (walk_at "ev"); (walk_at "ea")))
local macro_rules | `(tactic| walk_at "et") => `(tactic| first
  | ((with_reducible apply evt_or); (walk_at "et"); (intro _; walk_at "et"))
  | ((with_reducible apply evt_and); (walk_at "et"); (intro _; walk_at "et"))
  | ((with_reducible apply evt_not); (walk_at "et"))
  | ((with_reducible apply evt_test); (walk_at "ev"))
  | ((with_reducible apply evt_tB); (walk_at "ev")))
local macro_rules | `(tactic| walk_at "le") => `(tactic| ((try simp only [List.set_cons_zero, List.set_cons_succ]); repeat' (first | exact Le.nil | (with_reducible apply Le.un) | (apply Le.eq rfl) | apply Le.eq)))
/-- one kind of filled_up -/
def fillStep (c r : List Nat) (s : List Nat × List Nat) (x : Nat) : List Nat × List Nat :=
  (s.1.set x (minL (c.getD x 0) (s.2.drop (r.idxOf x))), s.2.take (r.idxOf x) ++ (s.2.drop (r.idxOf x)).map fun y => y - minL (c.getD x 0) (s.2.drop (r.idxOf x)))
def fillS (c r lim ks : List Nat) : List Nat × List Nat := ks.foldl (fillStep c r) (List.replicate c.length 0, lim)
def fill (c r lim ks : List Nat) : List Nat := (fillS c r lim ks).1
theorem fillStep_len {c r : List Nat} {s : List Nat × List Nat} {x : Nat} : (fillStep c r s x).1.length = s.1.length ∧ (fillStep c r s x).2.length = s.2.length := by
  unfold fillStep
  constructor
  · simp
  · simp; omega
theorem fillS_len (c r : List Nat) : ∀ (ks : List Nat) (s : List Nat × List Nat), (ks.foldl (fillStep c r) s).1.length = s.1.length ∧ (ks.foldl (fillStep c r) s).2.length = s.2.length
  | [], s => ⟨rfl, rfl⟩
  | x :: ks, s => by
    obtain ⟨h1, h2⟩ := fillS_len c r ks (fillStep c r s x)
    obtain ⟨h3, h4⟩ := fillStep_len (c := c) (r := r) (s := s) (x := x)
    exact ⟨h1.trans h3, h2.trans h4⟩
theorem foldl_take_succ {α β : Type} (f : β → α → β) (s : β) (xs : List α) {i : Nat} (h : i < xs.length) : (xs.take (i + 1)).foldl f s = f ((xs.take i).foldl f s) xs[i] := by
  rw [List.take_add_one, List.getElem?_eq_getElem h, List.foldl_append]
  rfl
theorem getD_of {xs : List Nat} {i : Nat} (h : i < xs.length) : xs.getD i 0 = xs[i] := by rw [List.getD_eq_getElem?_getD, List.getElem?_eq_getElem h]; rfl
section
variable {P : Program} {w : World} {K : PySem.W.Frag} {mg : Str → Option Value} {base : Heap} {pA oA : Addr}
inductive gFill (K : PySem.W.Frag) : Option Addr → List Pd → Pd → Prop
  | mk (c r lim ks : List Nat) (hr : RkOk c.length r) (hl : lim.length = c.length) (hk : RkOk c.length ks) : gFill K none [dP K (.tuple (LN c)), plP K (LN r), dP K (.list (LN lim)), plP K (LN ks)] (plP K (LN (fill c r lim ks)))
theorem sc_fill : FnScope ["counts", "ranking", "limits", "kinds", "found", "room", "kind", "place", "number", "space"] ["counts", "ranking", "limits", "kinds"] (defScope (top 48)) := ⟨rfl, rfl, rfl, by decide +kernel, rfl, by decide +kernel, by decide +kernel⟩
-- slots: 0 counts, 1 ranking, 2 limits, 3 kinds, 4 found, 5 room, 6 kind, 7 place, 8 number*, 9 space
theorem w_fill [Tb] (B : Bi K mg pA oA) (D : FunG K mg "filled_up" "filled_up" (top 48)) : Okd P w K mg base 1 "filled_up" ["counts", "ranking", "limits", "kinds"] (gFill K) := by
  obtain ⟨f, fd, F, m⟩ := D
  refine ⟨f, fd, F.ok sc_fill (fun vs H Q E h => SpF.len (fun M ds d hg => by cases hg; rfl) h) (fun cdv A outer s H vs Q E hr h => ⟨_, PSs.nox ((pss_cons (ps_par (i := 4) (j := 5) rfl sc_fill.nd rfl rfl (by decide) rfl rfl (pa_cons (pe_op op_rep (pe_lst (pa_cons pe_int pa_nil)) (pe_callB call_len rfl B.len (by decide +kernel) (pa_cons (pv 0) pa_nil))) (pa_cons (pe_callTy call_list_of rfl B.list (by decide +kernel) (pa_cons (pv 2) pa_nil)) pa_nil)) rfl)
    (pss_cons (ps_for PassesOwn.never rfl (pi_src (pv 3)) (pg_name (i := 6) sc_fill.nd rfl (by first | exact Or.inl rfl | exact Or.inr rfl))
    (pss_cons (ps_set (i := 7) sc_fill.nd rfl (by first | exact Or.inl rfl | exact Or.inr rfl) (pe_bt PySem.F.slot_tuple_index PySem.F.type_tuple_index mt_tidx (pv 1) (pa_cons (pv 6) pa_nil)))
    (pss_cons (ps_set (i := 8) sc_fill.nd rfl (by first | exact Or.inl rfl | exact Or.inr rfl) (pe_callB (cr_min rfl) rfl B.min (by decide +kernel) (pa_cons (pe_op op_catL (pe_lst (pa_cons (pe_ix ix_seq (pv 0) (pv 6) (fun _ _ => rfl)) pa_nil)) (pe_slice sl_list (pv 5) (po_some (pv 7)) po_none)) pa_nil)))
    (pss_cons (ps_asg (pv 8) (pg_sub (pv 4) (pv 6) set_list))
    (pss_one (ps_set (i := 5) sc_fill.nd rfl (by first | exact Or.inl rfl | exact Or.inr rfl) (pe_op op_catL (pe_slice sl_list (pv 5) po_none (po_some (pv 7))) (pe_lc (own := [("space", 9)]) rfl sc_fill.nd (pi_src (pe_slice sl_list (pv 5) (po_some (pv 7)) po_none)) (blkOk_by (own := [("space", 9)]) (N := ["counts", "ranking", "limits", "kinds", "found", "room", "kind", "place", "number", "space"]) (sc := defScope (top 48)) (by decide +kernel)) (fun _ _ _ _ _ => (pg_name (i := 9) sc_fill.nd rfl (by first | exact Or.inl rfl | exact Or.inr rfl))) (fun _ _ _ _ _ => pts_nil) (fun _ _ _ _ _ => (pe_op op_sub (pv 9) (pv 8)))))))))))
    (pss_one (ps_ret (pe_callTy call_tupX rfl B.tuple (by decide +kernel) (pa_cons (pv 4) pa_nil))))))), body_of (fun M ds d hg => ?_) h⟩), m, F.kp, F.bindsN (fun _ _ _ _ _ _ us hl => match us, hl with | [_, _, _, _], _ => rfl)⟩
  cases hg with
  | mk c r lim ks hr hl hk =>
  refine ⟨by simp, ?_⟩
  walk_at "go"
  have h60 := hr.few
  refine dq_par (c := .own (ownL K (LN (List.replicate c.length 0)))) (c2 := .own (ownL K (LN lim))) (evc_eqL (el_repL (ds := [nI 0]) (n := c.length) (evc_lst (ds := [nI 0]) (eva_cons (ev_eq ev_int rfl) eva_nil) (by show 1 ≤ sizeLine; decide)) (el_lenN (sk := .t) (by walk_at "ej")) (by simp; omega) (by omega)) (LN_rep _ _)) (el_list (sk := .l) (by walk_at "ej")) (by decide) ?_
  simp only [List.set_cons_zero, List.set_cons_succ]
  refine dq_forL (evi_src (ds := LN ks) (by walk_at "ev") itd_p) (fun i => True) (fun i => [.val (dP K (.tuple (LN c))), .val (plP K (LN r)), .val (dP K (.list (LN lim))), .val (plP K (LN ks)), .own (ownL K (LN ((ks.take i).foldl (fillStep c r) (List.replicate c.length 0, lim)).1)), .own (ownL K (LN ((ks.take i).foldl (fillStep c r) (List.replicate c.length 0, lim)).2)), .un, .un, .un, .un]) ⟨trivial, by walk_at "le"⟩ (fun i hi _ => ?_) (fun _ => ?_)
  · rw [LN_length] at hi
    rw [LN_getD hi, getD_of hi]
    obtain ⟨l1, l2⟩ := fillS_len c r (ks.take i) (List.replicate c.length 0, lim)
    rw [foldl_take_succ _ _ _ hi]
    have hx : ks[i] < c.length := hk.lt (List.getElem_mem hi)
    generalize ks[i] = x at *
    generalize (ks.take i).foldl (fillStep c r) (List.replicate c.length 0, lim) = s at *
    obtain ⟨f, m⟩ := s
    simp only [List.length_replicate] at l1 l2
    have hp : r.idxOf x < r.length := idxOf_lt (hr.mem hx)
    refine ⟨_, _, gt1, ?_⟩
    simp only [List.set_cons_zero, List.set_cons_succ]
    refine dq_setV (d := dP K (nI (r.idxOf x))) (ev_eq (ev_tidx (ns := ZN r) (k := (x : Int)) (by walk_at "ev") (by walk_at "ev") (ZN_mem (hr.mem hx))) (by rw [ZN_idx])) ?_
    simp only [List.set_cons_zero, List.set_cons_succ]
    refine dq_setV (d := dP K (nI (minL (c.getD x 0) (m.drop (r.idxOf x))))) (el_minL (evc_eqL (el_catL (ds := [nI (c.getD x 0)]) (es := LN (m.drop (r.idxOf x))) (EvJ.q_l (ev_frz (evc_lst (ds := [nI (c.getD x 0)]) (eva_cons (el_ixN (sk := .t) (by walk_at "ej") (by walk_at "ev") hx) eva_nil) (by show 1 ≤ sizeLine; decide)))) (EvJ.q_l (ev_frz (evc_eqL (el_slL (ds := LN m) (by walk_at "ej") (evo_N (K := K) (n := r.idxOf x) (by walk_at "ev")) evo_none) (by rw [LN_cut, cut_drop])))) (by simp [LN_length]; omega)) rfl)) ?_
    simp only [List.set_cons_zero, List.set_cons_succ]
    refine ds_seq (ds_store (K := K) (ix := (x : Int)) (k := x) (x := nI (minL (c.getD x 0) (m.drop (r.idxOf x)))) (ds := LN f) (by walk_at "ev") rfl (by walk_at "ev") (by rw [LN_length]; exact ixN_nat (by omega)) ?_)
    simp only [List.set_cons_zero, List.set_cons_succ]
    have hmin := minL_le (m.drop (r.idxOf x)) (c.getD x 0)
    refine ds_set (c := .own (ownL K (LN (m.take (r.idxOf x)) ++ LN ((m.drop (r.idxOf x)).map fun y => y - minL (c.getD x 0) (m.drop (r.idxOf x)))))) (el_catL (EvJ.q_l (ev_frz (evc_eqL (el_slL (ds := LN m) (by walk_at "ej") evo_none (evo_N (K := K) (n := r.idxOf x) (by walk_at "ev"))) (by rw [LN_cut, cut_take])))) (EvJ.q_l (ev_frz (evc_eqL (evc_mapF (K := K) (evi_src (ds := LN (m.drop (r.idxOf x))) (ev_frz (evc_eqL (el_slL (ds := LN m) (by walk_at "ej") (evo_N (K := K) (n := r.idxOf x) (by walk_at "ev")) evo_none) (by rw [LN_cut, cut_drop]))) itd_l) (fun j => nI ((m.drop (r.idxOf x)).getD j 0 - minL (c.getD x 0) (m.drop (r.idxOf x)))) (by simp [LN_length]; omega) fun j hj => ?_) ?_))) (by simp [LN_length]; omega)) ?_
    · rw [LN_length] at hj
      rw [LN_getD hj]
      refine ⟨_, gt1, el_subN (by walk_at "ev") (by walk_at "ev") ?_⟩
      exact hmin.2 _ (by rw [getD_of hj]; exact List.getElem_mem hj)
    · rw [LN_length, map_range_get (m.drop (r.idxOf x)) _ (fun y => nI (y - minL (c.getD x 0) (m.drop (r.idxOf x)))) fun j hj => by rw [getD_of hj]]
      simp only [LN, List.map_map]
      rfl
    · refine ⟨trivial, ?_⟩
      rw [LN_set, ← LN_append]
      show Le _ [_, _, _, _, .own (ownL K (LN (f.set x (minL (c.getD x 0) (m.drop (r.idxOf x)))))), .own (ownL K (LN (m.take (r.idxOf x) ++ (m.drop (r.idxOf x)).map fun y => y - minL (c.getD x 0) (m.drop (r.idxOf x))))), .un, .un, .un, .un]
      walk_at "le"
  · rw [LN_length, List.take_length]
    exact ds_retR (el_tup (by walk_at "ej"))
inductive gBF (K : PySem.W.Frag) : Option Addr → List Pd → Pd → Prop
  | mk (c b : List Nat) (bs : List (List Bool × Nat)) (p : Bool) (hc : c.length ≤ 60) (hl : b.length = c.length) (hb : ∀ i, i < c.length → b.getD i 0 ≤ c.getD i 0) (h : BlOk bs) (hs : b.sum = (flat bs).count p) :
    gBF K none [dP K (.tuple (LN c)), sqA K (BD bs), dP K (pD p), dP K (.tuple (LN b))] (dP K .none)
theorem sc_bfault : FnScope ["counts", "sequence", "player", "bundle", "kind", "number", "count"] ["counts", "sequence", "player", "bundle"] (defScope (top 45)) := ⟨rfl, rfl, rfl, by decide +kernel, rfl, by decide +kernel, by decide +kernel⟩
-- slots: 0 counts, 1 sequence, 2 player, 3 bundle, 4 kind, 5 number, 6 count
theorem w_bfault [Tb] (B : Bi K mg pA oA) (D : FunG K mg "bundle_fault" "bundle_fault" (top 45)) (O_is_bundle : Okd P w K mg base 3 "is_bundle" ["value", "many"] (gBundle K)) (O_own_turns : Okd P w K mg base 2 "own_turns" ["sequence", "player"] (gOwnT K)) : Okd P w K mg base 4 "bundle_fault" ["counts", "sequence", "player", "bundle"] (gBF K) := by
  obtain ⟨f, fd, F, m⟩ := D
  refine ⟨f, fd, F.ok sc_bfault (fun vs H Q E h => SpF.len (fun M ds d hg => by cases hg; rfl) h) (fun cdv A outer s H vs Q E hr h => ⟨_, PSs.nox ((pss_cons (ps_if (pt_not (pt_val (pe_callO O_is_bundle (hr.mono (by decide)) rfl (pa_cons (pv 3) (pa_cons (pe_callB call_len rfl B.len (by decide +kernel) (pa_cons (pv 0) pa_nil)) pa_nil)))))
    (pss_one (ps_ret (pe_un un_neg pe_int)))
    pss_nil)
    (pss_cons (ps_for PassesOwn.never rfl (pi_enumZ rfl B.enumerate (pz_zipS rfl B.zip (pa_cons (pv 3) (pa_cons (pv 0) pa_nil)))) (pg_tup rfl (pgs_cons (pg_name (i := 4) sc_bfault.nd rfl (by first | exact Or.inl rfl | exact Or.inr rfl)) (pgs_cons (pg_tup rfl (pgs_cons (pg_name (i := 5) sc_bfault.nd rfl (by first | exact Or.inl rfl | exact Or.inr rfl)) (pgs_cons (pg_name (i := 6) sc_bfault.nd rfl (by first | exact Or.inl rfl | exact Or.inr rfl)) pgs_nil))) pgs_nil)))
    (pss_one (ps_if (pt_cmpR op_gt (pv 5) (pv 6) (nomark _))
    (pss_one (ps_ret (pv 4)))
    pss_nil)))
    (pss_one (ps_ret (pe_ifExp (pt_cmpR op_eq (pe_callB (cr_sumT rfl) rfl B.sum (by decide +kernel) (pa_cons (pv 3) pa_nil)) (pe_callO O_own_turns (hr.mono (by decide)) rfl (pa_cons (pv 1) (pa_cons (pv 2) pa_nil))) (nomark _)) pe_non (pe_callB call_len rfl B.len (by decide +kernel) (pa_cons (pv 0) pa_nil)))))))), body_of (fun M ds d hg => ?_) h⟩), m, F.kp, F.bindsN (fun _ _ _ _ _ _ us hl => match us, hl with | [_, _, _, _], _ => rfl)⟩
  cases hg with
  | mk c b bs p hc hl hb h hs =>
  refine ⟨by simp, ?_⟩
  walk_at "go"
  refine dq_guard (b := false) (evt_not (b := true) (evt_tB (K := K) (ev_call (eva_cons (by walk_at "ev") (eva_cons (ev_eq (el_lenN (sk := .t) (ns := c) (by walk_at "ej")) (by rw [hl])) eva_nil)) (gBundle.mk b (by omega)) (.inl rfl)))) rfl ?_
  refine dq_forL (evi_enumZ (ds1 := LN b) (ds2 := LN c) (d1 := dP K (.tuple (LN b))) (d2 := dP K (.tuple (LN c))) (by walk_at "ea") itd_t itd_t (fun _ => by simp [LN_length, hl])) (fun i => True) (fun i => [.val (dP K (.tuple (LN c))), .val (sqA K (BD bs)), .val (dP K (pD p)), .val (dP K (.tuple (LN b))), .un, .un, .un]) ⟨trivial, by walk_at "le"⟩ (fun i hi _ => ?_) (fun _ => ?_)
  · have hi' : i < c.length := by simp [LN_length] at hi; omega
    rw [LN_getD (by omega), LN_getD hi']
    refine ⟨_, _, gt12, ?_⟩
    simp only [List.set_cons_zero, List.set_cons_succ]
    refine dq_guardL (b := decide (((c.getD i 0 : Nat) : Int) < (b.getD i 0 : Nat))) (evt_test (by walk_at "ev")) ?_ ⟨trivial, by walk_at "le"⟩
    have := hb i hi'
    simp only [decide_eq_false_iff_not]
    omega
  · refine ds_retR (ev_if (evt_test (K := K) (el_eqI (i := (b.sum : Nat)) (k := ((flat bs).count p : Nat)) (el_sumT (by walk_at "ev")) (ev_call (by walk_at "ea") (gOwnT.mk bs h p) (.inl rfl)))) (fun _ => ev_non) fun e => ?_)
    rw [hs] at e
    simp at e
inductive gItems (K : PySem.W.Frag) : Option Addr → List Pd → Pd → Prop
  | mk (c b : List Nat) (bs : List (List Bool × Nat)) (p : Bool) (hc : c.length ≤ 60) (hl : b.length = c.length) (hb : ∀ i, i < c.length → b.getD i 0 ≤ c.getD i 0) (h : BlOk bs) (hs : b.sum = (flat bs).count p) :
    gItems K none [dP K (.tuple (LN c)), sqA K (BD bs), dP K (pD p), dP K (.tuple (LN b))] (dP K .none)
theorem sc_items : FnScope ["counts", "sequence", "player", "bundle", "index"] ["counts", "sequence", "player", "bundle"] (defScope (top 46)) := ⟨rfl, rfl, rfl, by decide +kernel, rfl, by decide +kernel, by decide +kernel⟩
-- slots: 0 counts, 1 sequence, 2 player, 3 bundle, 4 index
theorem w_items [Tb] (B : Bi K mg pA oA) (D : FunG K mg "require_items" "require_items" (top 46)) (O_bundle_fault : Okd P w K mg base 4 "bundle_fault" ["counts", "sequence", "player", "bundle"] (gBF K)) : Okd P w K mg base 5 "require_items" ["counts", "sequence", "player", "bundle"] (gItems K) := by
  obtain ⟨f, fd, F, m⟩ := D
  refine ⟨f, fd, F.ok sc_items (fun vs H Q E h => SpF.len (fun M ds d hg => by cases hg; rfl) h) (fun cdv A outer s H vs Q E hr h => ⟨_, PSs.nox ((pss_cons (ps_set (i := 4) sc_items.nd rfl (by first | exact Or.inl rfl | exact Or.inr rfl) (pe_callO O_bundle_fault (hr.mono (by decide)) rfl (pa_cons (pv 0) (pa_cons (pv 1) (pa_cons (pv 2) (pa_cons (pv 3) pa_nil))))))
    (pss_one (ps_if (pt_cmpR op_notN (pv 4) pe_non (nomark _))
    (pss_one ps_never)
    pss_nil)))), body_of (fun M ds d hg => ?_) h⟩), m, F.kp, F.bindsN (fun _ _ _ _ _ _ us hl => match us, hl with | [_, _, _, _], _ => rfl)⟩
  cases hg with
  | mk c b bs p hc hl hb h hs =>
  refine ⟨by simp, ?_⟩
  walk_at "go"
  refine dq_setV (d := dP K .none) (ev_call (by walk_at "ea") (gBF.mk c b bs p hc hl hb h hs) (.inl rfl)) ?_
  simp only [List.set_cons_zero, List.set_cons_succ]
  exact dq_guardL (b := !isNoneD .none) (evt_test (K := K) (el_notN (by walk_at "ev"))) rfl (fun F => .non)
inductive gTooFull (K : PySem.W.Frag) : Option Addr → List Pd → Pd → Prop
  | mk (r lim b : List Nat) (hr : ∀ x ∈ r, x < b.length) (hz : r.length ≤ 60) (hl : lim.length = r.length) (hb : ∀ i, i < r.length → (psums b r).getD i 0 ≤ lim.getD i 0) :
    gTooFull K none [dP K (.tuple (LN r)), dP K (.list (LN lim)), dP K (.tuple (LN b))] (dP K .none)
theorem sc_toofull : FnScope ["ranking", "limits", "bundle", "place", "held", "limit"] ["ranking", "limits", "bundle"] (defScope (top 47)) := ⟨rfl, rfl, rfl, by decide +kernel, rfl, by decide +kernel, by decide +kernel⟩
-- slots: 0 ranking, 1 limits, 2 bundle, 3 place, 4 held, 5 limit
theorem w_toofull [Tb] (B : Bi K mg pA oA) (D : FunG K mg "too_full" "too_full" (top 47)) (O_prefix_sums : Okd P w K mg base 1 "prefix_sums" ["counts", "ranking"] (gPS K)) : Okd P w K mg base 2 "too_full" ["ranking", "limits", "bundle"] (gTooFull K) := by
  obtain ⟨f, fd, F, m⟩ := D
  refine ⟨f, fd, F.ok sc_toofull (fun vs H Q E h => SpF.len (fun M ds d hg => by cases hg; rfl) h) (fun cdv A outer s H vs Q E hr h => ⟨_, PSs.nox ((pss_cons (ps_for PassesOwn.never rfl (pi_enumZ1 rfl B.enumerate (pz_zipS rfl B.zip (pa_cons (pe_callO O_prefix_sums (hr.mono (by decide)) rfl (pa_cons (pv 2) (pa_cons (pv 0) pa_nil))) (pa_cons (pv 1) pa_nil)))) (pg_tup rfl (pgs_cons (pg_name (i := 3) sc_toofull.nd rfl (by first | exact Or.inl rfl | exact Or.inr rfl)) (pgs_cons (pg_tup rfl (pgs_cons (pg_name (i := 4) sc_toofull.nd rfl (by first | exact Or.inl rfl | exact Or.inr rfl)) (pgs_cons (pg_name (i := 5) sc_toofull.nd rfl (by first | exact Or.inl rfl | exact Or.inr rfl)) pgs_nil))) pgs_nil)))
    (pss_one (ps_if (pt_cmpR op_gt (pv 4) (pv 5) (nomark _))
    (pss_one (ps_ret (pv 3)))
    pss_nil)))
    (pss_one (ps_ret pe_non)))), body_of (fun M ds d hg => ?_) h⟩), m, F.kp, F.bindsN (fun _ _ _ _ _ _ us hl => match us, hl with | [_, _, _], _ => rfl)⟩
  cases hg with
  | mk r lim b hr hz hl hb =>
  refine ⟨by simp, ?_⟩
  walk_at "go"
  refine dq_forL (evi_enumZ (ds1 := LN (psums b r)) (ds2 := LN lim) (d1 := dP K (.list (LN (psums b r)))) (d2 := dP K (.list (LN lim))) (eva_cons (ev_call (by walk_at "ea") (gPS.mk b r hr hz) (.inl rfl)) (by walk_at "ea")) itd_l itd_l (fun _ => by simp [LN_length, psums_length, hl])) (fun i => True) (fun i => [.val (dP K (.tuple (LN r))), .val (dP K (.list (LN lim))), .val (dP K (.tuple (LN b))), .un, .un, .un]) ⟨trivial, by walk_at "le"⟩ (fun i hi _ => ?_) (fun _ => ?_)
  · have hi' : i < r.length := by simp [LN_length, psums_length] at hi; omega
    rw [LN_getD (by rw [psums_length]; omega), LN_getD (by omega)]
    refine ⟨_, _, gt12, ?_⟩
    simp only [List.set_cons_zero, List.set_cons_succ]
    refine dq_guardL (b := decide (((lim.getD i 0 : Nat) : Int) < ((psums b r).getD i 0 : Nat))) (evt_test (by walk_at "ev")) ?_ ⟨trivial, by walk_at "le"⟩
    have := hb i hi'
    simp only [decide_eq_false_iff_not]
    omega
  · exact ds_retR ev_non
/-- the limits are kept -/
def Had (w : List Bool) (p : Bool) (c r b : List Nat) : Prop := ∀ i, i < r.length → PSm b r (i + 1) ≤ cntw w p (PSm c r (i + 1))
theorem psums_getD {c r : List Nat} {i : Nat} (h : i < r.length) : (psums c r).getD i 0 = PSm c r (i + 1) := by rw [List.getD_eq_getElem?_getD, psums_get h]; rfl
theorem caps_getD {w : List Bool} {p : Bool} {c r : List Nat} {i : Nat} (h : i < r.length) : (caps w p c r).getD i 0 = cntw w p (PSm c r (i + 1)) := by
  rw [List.getD_eq_getElem?_getD, caps, List.getElem?_map, psums_get h]; rfl
inductive gHad (K : PySem.W.Frag) : Option Addr → List Pd → Pd → Prop
  | mk (c r b : List Nat) (bs : List (List Bool × Nat)) (p : Bool) (hr : RkOk c.length r) (hl : b.length = c.length) (h : BlOk bs) (hb : Had (flat bs) p c r b) :
    gHad K none [dP K (.tuple (LN c)), dP K (.tuple (LN r)), sqA K (BD bs), dP K (pD p), dP K (.tuple (LN b))] (dP K .none)
theorem sc_had : FnScope ["counts", "ranking", "sequence", "player", "bundle", "prefix"] ["counts", "ranking", "sequence", "player", "bundle"] (defScope (top 50)) := ⟨rfl, rfl, rfl, by decide +kernel, rfl, by decide +kernel, by decide +kernel⟩
-- slots: 0 counts, 1 ranking, 2 sequence, 3 player, 4 bundle, 5 prefix
theorem w_had [Tb] (B : Bi K mg pA oA) (D : FunG K mg "require_had" "require_had" (top 50)) (O_too_full : Okd P w K mg base 2 "too_full" ["ranking", "limits", "bundle"] (gTooFull K)) (O_caps_of : Okd P w K mg base 2 "caps_of" ["counts", "ranking", "sequence", "player"] (gCaps K)) : Okd P w K mg base 3 "require_had" ["counts", "ranking", "sequence", "player", "bundle"] (gHad K) := by
  obtain ⟨f, fd, F, m⟩ := D
  refine ⟨f, fd, F.ok sc_had (fun vs H Q E h => SpF.len (fun M ds d hg => by cases hg; rfl) h) (fun cdv A outer s H vs Q E hr h => ⟨_, PSs.nox ((pss_cons (ps_set (i := 5) sc_had.nd rfl (by first | exact Or.inl rfl | exact Or.inr rfl) (pe_callO O_too_full (hr.mono (by decide)) rfl (pa_cons (pv 1) (pa_cons (pe_callO O_caps_of (hr.mono (by decide)) rfl (pa_cons (pv 0) (pa_cons (pv 1) (pa_cons (pv 2) (pa_cons (pv 3) pa_nil))))) (pa_cons (pv 4) pa_nil)))))
    (pss_one (ps_if (pt_cmpR op_notN (pv 5) pe_non (nomark _))
    (pss_one ps_never)
    pss_nil)))), body_of (fun M ds d hg => ?_) h⟩), m, F.kp, F.bindsN (fun _ _ _ _ _ _ us hl => match us, hl with | [_, _, _, _, _], _ => rfl)⟩
  cases hg with
  | mk c r b bs p hr hl h hb =>
  refine ⟨by simp, ?_⟩
  walk_at "go"
  have h60 : r.length ≤ 60 := by rw [hr.length]; exact hr.few
  refine dq_setV (d := dP K .none) (ev_call (eva_cons (by walk_at "ev") (eva_cons (ev_call (by walk_at "ea") (gCaps.mk c r bs p (fun x hx => hr.lt hx) h60 h) (.inl rfl)) (by walk_at "ea"))) (gTooFull.mk r (caps (flat bs) p c r) b (fun x hx => by rw [hl]; exact hr.lt hx) h60 caps_length (fun i hi => by rw [psums_getD hi, caps_getD hi]; exact hb i hi)) (.inl rfl)) ?_
  simp only [List.set_cons_zero, List.set_cons_succ]
  exact dq_guardL (b := !isNoneD .none) (evt_test (K := K) (el_notN (by walk_at "ev"))) rfl (fun F => .non)
/-- what pick_order gives -/
def order (r b : List Nat) : List (Nat × Nat) := (r.filter fun x => decide (0 < b.getD x 0)).map fun x => (x, b.getD x 0)
abbrev prD' (z : Nat × Nat) : PyData := .tuple [nI z.1, nI z.2]
theorem filter_range_map {α β : Type} (xs : List α) (p : Nat → Bool) (f : Nat → β) (q : α → Bool) (h : α → β) (e : ∀ i (hi : i < xs.length), p i = q xs[i] ∧ f i = h xs[i]) : ((List.range xs.length).filter p).map f = (xs.filter q).map h := by
  have g : ∀ n, n ≤ xs.length → ((List.range n).filter p).map f = ((xs.take n).filter q).map h := by
    intro n
    induction n with
    | zero => intro _; rfl
    | succ n ih =>
      intro hn
      obtain ⟨e1, e2⟩ := e n (by omega)
      rw [List.range_succ, List.filter_append, List.map_append, ih (by omega), List.take_add_one, List.getElem?_eq_getElem (by omega : n < xs.length), List.filter_append, List.map_append]
      congr 1
      show ((List.filter p [n]).map f) = ((List.filter q [xs[n]]).map h)
      rw [List.filter_cons, List.filter_cons, e1]
      cases q xs[n] <;> simp [e2]
  rw [g xs.length (Nat.le_refl _), List.take_length]
inductive gOrder (K : PySem.W.Frag) : Option Addr → List Pd → Pd → Prop
  | mk (c r b : List Nat) (bs : List (List Bool × Nat)) (p : Bool) (hr : RkOk c.length r) (hl : b.length = c.length) (hle : ∀ i, i < c.length → b.getD i 0 ≤ c.getD i 0) (h : BlOk bs) (hs : b.sum = (flat bs).count p) (hw : (flat bs).length ≤ c.sum) (hb : Had (flat bs) p c r b) :
    gOrder K none [dP K (.tuple (LN c)), dP K (.tuple (LN r)), sqA K (BD bs), dP K (pD p), dP K (.tuple (LN b))] (dP K (.list ((order r b).map prD')))
theorem sc_order : FnScope ["counts", "ranking", "sequence", "player", "bundle", "kind"] ["counts", "ranking", "sequence", "player", "bundle"] (defScope (top 51)) := ⟨rfl, rfl, rfl, by decide +kernel, rfl, by decide +kernel, by decide +kernel⟩
-- slots: 0 counts, 1 ranking, 2 sequence, 3 player, 4 bundle*, 5 kind
theorem w_order [Tb] (B : Bi K mg pA oA) (D : FunG K mg "pick_order" "pick_order" (top 51)) (O_require_setting : Okd P w K mg base 5 "require_setting" ["counts", "ranking", "sequence", "player"] (gSetting K)) (O_require_items : Okd P w K mg base 5 "require_items" ["counts", "sequence", "player", "bundle"] (gItems K)) (O_require_had : Okd P w K mg base 3 "require_had" ["counts", "ranking", "sequence", "player", "bundle"] (gHad K)) : Okd P w K mg base 6 "pick_order" ["counts", "ranking", "sequence", "player", "bundle"] (gOrder K) := by
  obtain ⟨f, fd, F, m⟩ := D
  refine ⟨f, fd, F.ok sc_order (fun vs H Q E h => SpF.len (fun M ds d hg => by cases hg; rfl) h) (fun cdv A outer s H vs Q E hr h => ⟨_, PSs.nox ((pss_cons (ps_expr (pe_callO O_require_setting (hr.mono (by decide)) rfl (pa_cons (pv 0) (pa_cons (pv 1) (pa_cons (pv 2) (pa_cons (pv 3) pa_nil))))))
    (pss_cons (ps_expr (pe_callO O_require_items (hr.mono (by decide)) rfl (pa_cons (pv 0) (pa_cons (pv 2) (pa_cons (pv 3) (pa_cons (pv 4) pa_nil))))))
    (pss_cons (ps_expr (pe_callO O_require_had (hr.mono (by decide)) rfl (pa_cons (pv 0) (pa_cons (pv 1) (pa_cons (pv 2) (pa_cons (pv 3) (pa_cons (pv 4) pa_nil)))))))
    (pss_one (ps_ret (pe_lc (own := [("kind", 5)]) (te := (tTup (tCons _ (tCons (tOp (rIx K) _ _) tNil)))) (tt := (tTest (tOp _ (tOp (rIx K) _ _) _))) rfl sc_order.nd (pi_src (pv 1)) (blkOk_by (own := [("kind", 5)]) (N := ["counts", "ranking", "sequence", "player", "bundle", "kind"]) (sc := defScope (top 51)) (by decide +kernel)) (fun _ _ _ _ _ => (pg_name (i := 5) sc_order.nd rfl (by first | exact Or.inl rfl | exact Or.inr rfl))) (fun _ _ _ _ _ => (pts_one (pt_cmpR op_gt (pe_ix ix_seq (pv 4) (pv 5) (fun _ _ => rfl)) pe_int (nomark _)))) (fun _ _ _ _ _ => (pe_tup (pa_cons (pv 5) (pa_cons (pe_ix ix_seq (pv 4) (pv 5) (fun _ _ => rfl)) pa_nil))))))))))), body_of (fun M ds d hg => ?_) h⟩), m, F.kp, F.bindsN (fun _ _ _ _ _ _ us hl => match us, hl with | [_, _, _, _, _], _ => rfl)⟩
  cases hg with
  | mk c r b bs p hr hl hle h hs hw hb =>
  refine ⟨by simp, ?_⟩
  walk_at "go"
  have h60 : r.length ≤ 60 := by rw [hr.length]; exact hr.few
  refine dq_drop (ev_call (by walk_at "ea") (gSetting.mk c r bs p hr h hw) (.inl rfl)) ?_
  refine dq_drop (ev_call (by walk_at "ea") (gItems.mk c b bs p hr.few hl hle h hs) (.inl rfl)) ?_
  refine dq_drop (ev_call (by walk_at "ea") (gHad.mk c r b bs p hr hl h hb) (.inl rfl)) ?_
  refine ds_retR (ev_frz (evc_eqL (evc_filF (K := K) (evi_src (ds := LN r) (by walk_at "ev") itd_t) (fun i => decide (0 < b.getD (r.getD i 0) 0)) (fun i => prD' (r.getD i 0, b.getD (r.getD i 0) 0)) (by rw [LN_length]; omega) fun i hi => ?_) ?_))
  · rw [LN_length] at hi
    rw [LN_getD hi]
    have hx : r.getD i 0 < b.length := by rw [getD_of hi, hl]; exact hr.lt (List.getElem_mem hi)
    refine ⟨_, gt1, evt_eq (b := decide ((0 : Int) < (b.getD (r.getD i 0) 0 : Nat))) (evt_test (el_b (el_ixN (sk := .t) (by walk_at "ej") (by walk_at "ev") hx) (by walk_at "ev"))) (by simp), fun _ => ?_⟩
    exact ev_tupD (ds := [nI (r.getD i 0), nI (b.getD (r.getD i 0) 0)]) (eva_cons (by walk_at "ev") (eva_cons (el_ixN (sk := .t) (by walk_at "ej") (by walk_at "ev") hx) eva_nil)) (by show 2 ≤ sizeLine; decide)
  · rw [LN_length, filter_range_map r _ _ (fun x => decide (0 < b.getD x 0)) (fun x => prD' (x, b.getD x 0)) fun i hi => by rw [getD_of hi]; exact ⟨rfl, rfl⟩]
    unfold order
    rw [List.map_map]
    rfl
end
end TPE
end
section
set_option maxHeartbeats 400000
namespace TPE
open PySem PySem.Spec PyProof.Rows L2
/-! ### the plain play on a word -/
/-- the first of a list that is left -/
def bl (c r : List Nat) : Nat := (r.filter fun x => decide (0 < c.getD x 0)).headD 0
/-- one less of a kind -/
def dec (c : List Nat) (x : Nat) : List Nat := c.set x (c.getD x 0 - 1)
def rk (r1 r2 : List Nat) (p : Bool) : List Nat := if p then r1 else r2
def plK (r1 r2 : List Nat) : List Bool → List Nat → List Nat
  | [], _ => []
  | p :: w, c => bl c (rk r1 r2 p) :: plK r1 r2 w (dec c (bl c (rk r1 r2 p)))
def plC (r1 r2 : List Nat) : List Bool → List Nat → List Nat
  | [], c => c
  | p :: w, c => plC r1 r2 w (dec c (bl c (rk r1 r2 p)))
variable {r1 r2 : List Nat}
theorem dec_length {c : List Nat} {x : Nat} : (dec c x).length = c.length := by simp [dec]
theorem plC_length : ∀ (w : List Bool) (c : List Nat), (plC r1 r2 w c).length = c.length
  | [], c => rfl
  | p :: w, c => by show (plC r1 r2 w _).length = _; rw [plC_length w, dec_length]
theorem plK_length : ∀ (w : List Bool) (c : List Nat), (plK r1 r2 w c).length = w.length
  | [], c => rfl
  | p :: w, c => by show (plK r1 r2 w _).length + 1 = _; rw [plK_length w]; rfl
theorem plK_append : ∀ (u v : List Bool) (c : List Nat), plK r1 r2 (u ++ v) c = plK r1 r2 u c ++ plK r1 r2 v (plC r1 r2 u c)
  | [], v, c => rfl
  | p :: u, v, c => by show _ :: plK r1 r2 (u ++ v) _ = _; rw [plK_append u v]; rfl
theorem plC_append : ∀ (u v : List Bool) (c : List Nat), plC r1 r2 (u ++ v) c = plC r1 r2 v (plC r1 r2 u c)
  | [], v, c => rfl
  | p :: u, v, c => by show plC r1 r2 (u ++ v) _ = _; rw [plC_append u v]; rfl
/-- counts at a kind -/
abbrev at0 (c : List Nat) (x : Nat) : Nat := c.getD x 0
theorem getD_set {c : List Nat} {x y v : Nat} (h : x < c.length) : (c.set x v).getD y 0 = if y = x then v else c.getD y 0 := by
  rw [List.getD_eq_getElem?_getD, List.getD_eq_getElem?_getD, List.getElem?_set]
  by_cases e : y = x
  · subst e; simp [h]
  · rw [if_neg (Ne.symm e), if_neg e]
theorem dec_at {c : List Nat} {x y : Nat} (h : x < c.length) : (dec c x).getD y 0 = if y = x then c.getD x 0 - 1 else c.getD y 0 := getD_set h
theorem set_sum : ∀ (c : List Nat) (x v : Nat), x < c.length → (c.set x v).sum + c.getD x 0 = c.sum + v
  | [], _, _, h => absurd h (Nat.not_lt_zero _)
  | y :: c, 0, v, _ => by simp; omega
  | y :: c, x + 1, v, h => by
    have := set_sum c x v (by simpa using h)
    simp only [List.set_cons_succ, List.sum_cons, List.getD_cons_succ] at *
    omega
theorem dec_sum {c : List Nat} {x : Nat} (h : x < c.length) (h0 : 0 < c.getD x 0) : (dec c x).sum + 1 = c.sum := by
  have := set_sum c x (c.getD x 0 - 1) h
  unfold dec
  omega
theorem pos_of_sum : ∀ {c : List Nat}, 0 < c.sum → ∃ x, x < c.length ∧ 0 < c.getD x 0
  | [], h => by simp at h
  | y :: c, h => by
    by_cases hy : 0 < y
    · exact ⟨0, by simp, by simpa using hy⟩
    · obtain ⟨x, h1, h2⟩ := pos_of_sum (c := c) (by simp at h; omega)
      exact ⟨x + 1, by simpa using h1, by simpa using h2⟩
theorem idx_ne {x z : Nat} {r : List Nat} (h : z ≠ x) : (z :: r).idxOf x = r.idxOf x + 1 := by
  rw [List.idxOf_cons, beq_false_of_ne h]
  rfl
/-- the first that is left: it is left, in the list, and nothing ahead is left -/
theorem bl_spec {c r : List Nat} (h : ∃ x ∈ r, 0 < c.getD x 0) : bl c r ∈ r ∧ 0 < c.getD (bl c r) 0 ∧ ∀ y ∈ r, r.idxOf y < r.idxOf (bl c r) → c.getD y 0 = 0 := by
  induction r with
  | nil => obtain ⟨x, h, _⟩ := h; cases h
  | cons z r ih =>
    by_cases hz : 0 < c.getD z 0
    · have e : bl c (z :: r) = z := by unfold bl; rw [List.filter_cons, if_pos (by simpa using hz)]; rfl
      rw [e]
      refine ⟨List.mem_cons_self, hz, fun y _ hy => ?_⟩
      rw [List.idxOf_cons_self] at hy
      exact absurd hy (Nat.not_lt_zero _)
    · have e : bl c (z :: r) = bl c r := by unfold bl; rw [List.filter_cons, if_neg (by simpa using hz)]
      obtain ⟨x, hx, hx0⟩ := h
      have hx' : x ∈ r := by
        rcases List.mem_cons.mp hx with rfl | q
        · exact absurd hx0 hz
        · exact q
      obtain ⟨h1, h2, h3⟩ := ih ⟨x, hx', hx0⟩
      rw [e]
      have hne : bl c r ≠ z := fun q => hz (q ▸ h2)
      refine ⟨List.mem_cons_of_mem _ h1, h2, fun y hy hlt => ?_⟩
      rw [idx_ne (Ne.symm hne)] at hlt
      rcases List.mem_cons.mp hy with rfl | hy
      · omega
      · by_cases q : y = z
        · subst q; omega
        · rw [idx_ne (Ne.symm q)] at hlt
          exact h3 y hy (by omega)
/-- and by that it is told -/
theorem bl_eq {c r : List Nat} {x : Nat} (h1 : x ∈ r) (h2 : 0 < c.getD x 0) (h3 : ∀ y ∈ r, r.idxOf y < r.idxOf x → c.getD y 0 = 0) : bl c r = x := by
  obtain ⟨g1, g2, g3⟩ := bl_spec ⟨x, h1, h2⟩
  rcases Nat.lt_trichotomy (r.idxOf (bl c r)) (r.idxOf x) with q | q | q
  · have := h3 _ g1 q; omega
  · have e1 := List.getElem_idxOf (List.idxOf_lt_length_iff.mpr g1)
    have e2 := List.getElem_idxOf (List.idxOf_lt_length_iff.mpr h1)
    rw [← e1, ← e2]
    simp only [q]
  · have := g3 x h1 q; omega
theorem ex_left {k : Nat} {c r : List Nat} (hr : RkOk k r) (hc : c.length = k) (h : 0 < c.sum) : ∃ x ∈ r, 0 < c.getD x 0 := by
  obtain ⟨x, h1, h2⟩ := pos_of_sum h
  exact ⟨x, hr.mem (by omega), h2⟩
/-- the counts behind the play -/
theorem plC_sum {k : Nat} (h1 : RkOk k r1) (h2 : RkOk k r2) : ∀ (w : List Bool) (c : List Nat), c.length = k → w.length ≤ c.sum → (plC r1 r2 w c).sum + w.length = c.sum ∧ ∀ x, (plC r1 r2 w c).getD x 0 + (plK r1 r2 w c).count x = c.getD x 0
  | [], c, _, _ => ⟨rfl, fun x => rfl⟩
  | p :: w, c, hc, hw => by
    simp only [List.length_cons] at hw
    have hr : RkOk k (rk r1 r2 p) := by unfold rk; cases p; exact h2; exact h1
    obtain ⟨g1, g2, g3⟩ := bl_spec (ex_left hr hc (by omega))
    have hx : bl c (rk r1 r2 p) < c.length := by rw [hc]; exact hr.lt g1
    have hs := dec_sum hx g2
    obtain ⟨i1, i2⟩ := plC_sum h1 h2 w (dec c (bl c (rk r1 r2 p))) (by rw [dec_length]; exact hc) (by omega)
    refine ⟨by show (plC r1 r2 w _).sum + (w.length + 1) = _; omega, fun x => ?_⟩
    show (plC r1 r2 w _).getD x 0 + (bl c (rk r1 r2 p) :: plK r1 r2 w _).count x = _
    rw [List.count_cons]
    have := i2 x
    rw [dec_at hx] at this
    by_cases e : x = bl c (rk r1 r2 p)
    · subst e
      rw [if_pos rfl] at this
      rw [beq_self_eq_true, if_pos rfl]
      omega
    · rw [if_neg e] at this
      have e' : (bl c (rk r1 r2 p) == x) = false := beq_false_of_ne (Ne.symm e)
      rw [e', if_neg Bool.false_ne_true]
      exact this
/-- with less left, but enough, the play is the same -/
theorem plK_like : ∀ (w : List Bool) (c d : List Nat), c.length = d.length → (∀ p x, x ∈ rk r1 r2 p → x < c.length) → (∀ p, ∀ u v, w = u ++ p :: v → ∃ x ∈ rk r1 r2 p, 0 < (plC r1 r2 u c).getD x 0) → (∀ x, d.getD x 0 ≤ c.getD x 0) → (∀ x, (plK r1 r2 w c).count x ≤ d.getD x 0) →
    plK r1 r2 w d = plK r1 r2 w c ∧ ∀ x, (plC r1 r2 w d).getD x 0 + (plK r1 r2 w c).count x = d.getD x 0
  | [], c, d, _, _, _, _, _ => ⟨rfl, fun x => rfl⟩
  | p :: w, c, d, hl, hr, he, h1, h2 => by
    have hE : ∃ x ∈ rk r1 r2 p, 0 < c.getD x 0 := he p [] w rfl
    obtain ⟨g1, g2, g3⟩ := bl_spec hE
    have hx : bl c (rk r1 r2 p) < c.length := hr p _ g1
    have hcnt : ∀ x, (plK r1 r2 (p :: w) c).count x = (plK r1 r2 w (dec c (bl c (rk r1 r2 p)))).count x + if (bl c (rk r1 r2 p) == x) = true then 1 else 0 := fun x => List.count_cons
    have h0 := h2 (bl c (rk r1 r2 p))
    rw [hcnt, beq_self_eq_true, if_pos rfl] at h0
    have e : bl d (rk r1 r2 p) = bl c (rk r1 r2 p) := bl_eq g1 (by omega) fun y hy hlt => by
      have := h1 y
      have := g3 y hy hlt
      omega
    have hA : ∀ x, (dec d (bl c (rk r1 r2 p))).getD x 0 ≤ (dec c (bl c (rk r1 r2 p))).getD x 0 := fun x => by
      rw [dec_at hx, dec_at (by omega)]
      have := h1 x
      have := h1 (bl c (rk r1 r2 p))
      split <;> omega
    have hB : ∀ x, (plK r1 r2 w (dec c (bl c (rk r1 r2 p)))).count x ≤ (dec d (bl c (rk r1 r2 p))).getD x 0 := fun x => by
      rw [dec_at (by omega)]
      have := h2 x
      rw [hcnt] at this
      by_cases q : x = bl c (rk r1 r2 p)
      · subst q
        rw [beq_self_eq_true, if_pos rfl] at this
        rw [if_pos rfl]
        omega
      · rw [beq_false_of_ne (Ne.symm q), if_neg Bool.false_ne_true] at this
        rw [if_neg q]
        omega
    obtain ⟨i1, i2⟩ := plK_like w (dec c (bl c (rk r1 r2 p))) (dec d (bl c (rk r1 r2 p))) (by rw [dec_length, dec_length]; exact hl) (fun q x hq => by rw [dec_length]; exact hr q x hq) (fun q u v ew => by
      have := he q (p :: u) v (by rw [ew]; rfl)
      exact this) hA hB
    refine ⟨?_, fun x => ?_⟩
    · show bl d (rk r1 r2 p) :: plK r1 r2 w (dec d (bl d (rk r1 r2 p))) = bl c (rk r1 r2 p) :: plK r1 r2 w (dec c (bl c (rk r1 r2 p)))
      rw [e, i1]
    · show (plC r1 r2 w (dec d (bl d (rk r1 r2 p)))).getD x 0 + _ = _
      rw [e, hcnt]
      have := i2 x
      rw [dec_at (by omega)] at this
      by_cases q : x = bl c (rk r1 r2 p)
      · subst q
        rw [if_pos rfl] at this
        rw [beq_self_eq_true, if_pos rfl]
        omega
      · rw [if_neg q] at this
        rw [beq_false_of_ne (Ne.symm q), if_neg Bool.false_ne_true]
        omega
theorem ex_along {k : Nat} (h1 : RkOk k r1) (h2 : RkOk k r2) {c : List Nat} (hc : c.length = k) {w : List Bool} (hw : w.length ≤ c.sum) : ∀ p, ∀ u v, w = u ++ p :: v → ∃ x ∈ rk r1 r2 p, 0 < (plC r1 r2 u c).getD x 0 := fun p u v e => by
  have hl : u.length + 1 + v.length = w.length := by rw [e]; simp; omega
  have hs := (plC_sum h1 h2 u c hc (by omega)).1
  have hr : RkOk k (rk r1 r2 p) := by unfold rk; cases p; exact h2; exact h1
  exact ex_left hr ((plC_length u c).trans hc) (by omega)
theorem rk_ok {k : Nat} (h1 : RkOk k r1) (h2 : RkOk k r2) (p : Bool) : RkOk k (rk r1 r2 p) := by unfold rk; cases p; exact h2; exact h1
/-- like repetitions -/
theorem plK_rep {k : Nat} (h1 : RkOk k r1) (h2 : RkOk k r2) {c : List Nat} (hc : c.length = k) {u : List Bool} (hu : u.length ≤ c.sum) {m : Nat} (hm : ∀ x, m * (plK r1 r2 u c).count x ≤ c.getD x 0) :
    ∀ j, j ≤ m → plK r1 r2 (List.replicate j u).flatten c = (List.replicate j (plK r1 r2 u c)).flatten ∧ ∀ x, (plC r1 r2 (List.replicate j u).flatten c).getD x 0 + j * (plK r1 r2 u c).count x = c.getD x 0
  | 0, _ => ⟨rfl, fun x => by show c.getD x 0 + _ = _; omega⟩
  | j + 1, hj => by
    obtain ⟨i1, i2⟩ := plK_rep h1 h2 hc hu hm j (by omega)
    have e : (List.replicate (j + 1) u).flatten = (List.replicate j u).flatten ++ u := by rw [List.replicate_succ', List.flatten_append]; simp
    have e2 : (List.replicate (j + 1) (plK r1 r2 u c)).flatten = (List.replicate j (plK r1 r2 u c)).flatten ++ plK r1 r2 u c := by rw [List.replicate_succ', List.flatten_append]; simp
    obtain ⟨g1, g2⟩ := plK_like u c (plC r1 r2 (List.replicate j u).flatten c) (plC_length _ _).symm (fun p x hx => by rw [hc]; exact (rk_ok h1 h2 p).lt hx) (ex_along h1 h2 hc hu) (fun x => by have := i2 x; omega) (fun x => by
      have := i2 x
      have := hm x
      have : (j + 1) * (plK r1 r2 u c).count x ≤ m * (plK r1 r2 u c).count x := Nat.mul_le_mul_right _ hj
      rw [Nat.succ_mul] at this
      omega)
    rw [e, plK_append, plC_append, i1, g1, e2]
    refine ⟨rfl, fun x => ?_⟩
    have := g2 x
    have := i2 x
    rw [Nat.succ_mul]
    omega
theorem ext_getD {a b : List Nat} (hl : a.length = b.length) (h : ∀ x, x < a.length → a.getD x 0 = b.getD x 0) : a = b := by
  apply List.ext_getElem hl
  intro i h1 h2
  have := h i h1
  rw [List.getD_eq_getElem?_getD, List.getD_eq_getElem?_getD, List.getElem?_eq_getElem h1, List.getElem?_eq_getElem h2] at this
  exact this
/-! ### rows -/
structure Row where
  u : List Bool
  ks : List Nat
  m : Nat
abbrev rowD (r : Row) : PyData := .tuple [.str (SW r.u), .tuple (LN r.ks), nI r.m]
def rW (rows : List Row) : List Bool := (rows.map fun r => (List.replicate r.m r.u).flatten).flatten
def rK (rows : List Row) : List Nat := (rows.map fun r => (List.replicate r.m r.ks).flatten).flatten
theorem rW_app (a b : List Row) : rW (a ++ b) = rW a ++ rW b := by simp [rW]
theorem rK_app (a b : List Row) : rK (a ++ b) = rK a ++ rK b := by simp [rK]
theorem rW_one (r : Row) : rW [r] = (List.replicate r.m r.u).flatten := by simp [rW]
theorem rK_one (r : Row) : rK [r] = (List.replicate r.m r.ks).flatten := by simp [rK]
/-- rows of the plain play -/
structure RowsOk (r1 r2 : List Nat) (c : List Nat) (w : List Bool) (rows : List Row) : Prop where
  word : rW rows = w
  kinds : rK rows = plK r1 r2 w c
  ok : ∀ r ∈ rows, r.ks.length = r.u.length ∧ r.u.length ≤ 20 ∧ 1 ≤ r.m ∧ r.u ≠ []
section
variable {M : Option Addr} {K : PySem.W.Frag} {Γ : List Slt} {t : TE} {d : Pd} {ds : List PyData}
/-- an own list is handed to what only reads it and gives a plain value -/
theorem ev_thaw [Tb] (i : Nat) (h : Γ[i]? = some (.own (ownL K ds))) (he : Ev M t (Γ.set i (.val (dP K (.list ds)))) d) (hf : ∀ F F' v, d.hold F v → d.hold F' v) : Ev M t Γ d := fun B O0 O σ H E Q q => by
  obtain ⟨O', h1, h2, E'⟩ := E.frz h
  refine he B O0 O' σ H E' Q fun v O1 H1 s hv => q v (fun a => O1 a ∨ O a) H1 ⟨s.rl, E.srcO, fun a h => .inr h, fun a h => ?_, fun a h => ?_⟩ (hf _ _ _ hv)
  · rcases h with h | h
    · exact (s.new a h).imp_left (h2 a)
    · exact .inl h
  · rcases h with h | h
    · exact s.live a h
    · exact s.rl.live (fun x e => (E.src x e).1) (E.live a h)
/-- l[k] op= e (numbers) -/
theorem ds_augG [Tb] {ti te : TE} {P : Po} {f : Int → Int → Int} {i k : Nat} {a b : Int} (h : Γ[i]? = some (.own (ownL K ds))) (hi : Ev M ti Γ (dP K (nI k))) (hk : k < ds.length) (ha : ds[k]? = some (.int a)) (he : Ev M te Γ (dP K (.int b)))
    (hn : P.nx (Γ.set i (.own (ownL K (ds.set k (.int (f a b))))))) : Ds M (tAugS (tVar i) ti te (rGetL K) (ipI f) rSetL) Γ P := fun B O0 O σ H E D p => by
  obtain ⟨l0, xs0, h1, h2, h3, _⟩ := E.mut h
  refine ⟨_, h1, hi B O0 O σ H E _ fun w O2 H2 s2 hw => ?_⟩
  obtain ⟨l, xs, h4, h5, h6, h7⟩ := (E.step s2).mut h
  rw [h1] at h4
  cases h4
  have hw : Dp K (wo H2 O2) w (nI k) := hw
  cases hw
  obtain ⟨u, q1, q2⟩ := h6.get ha
  cases q2
  refine ⟨l0, xs, k, .int a, rfl, rfl, SqL.of h5, by omega, by unfold atI; rw [h6.length, ixN_nat hk]; exact q1, ?_⟩
  refine he B O0 O2 σ H2 (E.step s2) _ fun v O3 H3 s3 hv => ?_
  obtain ⟨l', xs', h8, h9, h10, h11⟩ := ((E.step s2).step s3).mut h
  rw [h1] at h8
  cases h8
  have hv : Dp K (wo H3 O3) v (.int b) := hv
  cases hv
  exact ⟨a, b, rfl, rfl, l0, xs', k, k, rfl, rfl, h9, by rw [h10.length]; exact ixN_nat hk, p.nx _ _ _ O3 hn (h11 _ _ (h10.set k (.int _)))⟩
theorem dp_free {F F' : Hp} {v : V} {n : Int} (h : (dP K (.int n)).hold F v) : (dP K (.int n)).hold F' v := by
  have h : Dp K F v (.int n) := h
  cases h
  exact Dp.int n
end
section
variable {M : Option Addr} {K : PySem.W.Frag} {Γ : List Slt} {ts : TS} {P : Po} {tc : TT}
/-- a while at the end of a block -/
theorem ds_whileL [Tb] {S : Type} (F : S → Prop) (G : S → List Slt) (m : S → Nat) (s0 : S) (h0 : F s0 ∧ Le Γ (G s0)) (hs : ∀ s, F s → ∃ p : Bool → Prop, EvT M tc (G s) p ∧ (p false → ∀ Γ', Le Γ' (G s) → P.nx Γ') ∧
    (p true → Ds M ts (G s) { nx := fun Γ' => ∃ s', m s' < m s ∧ F s' ∧ Le Γ' (G s'), ct := fun Γ' => ∃ s', m s' < m s ∧ F s' ∧ Le Γ' (G s'), bk := P.nx, rt := P.rt })) : Ds M (tWhile tc ts) Γ P := by
  refine ds_while (fun k Γ' => ∃ s, m s = k ∧ F s ∧ Le Γ' (G s)) (m s0) ⟨s0, rfl, h0⟩ fun k Γ' ⟨s, e, hF, hl⟩ => ?_
  obtain ⟨p, h1, h2, h3⟩ := hs s hF
  refine ⟨p, fun B O0 O σ H E Q q => h1 B O0 O σ H (E.le hl) Q (fun b O1 H1 st hb => q b O1 H1 st hb), fun hp => h2 hp Γ' hl, fun hp => ds_le hl fun B O0 O σ H E D pk => ?_⟩
  refine h3 hp B O0 O σ H E D ⟨fun Γ σ H O ⟨s', a1, a2, a3⟩ E => pk.nx Γ σ H O ⟨m s', by omega, s', rfl, a2, a3⟩ E, pk.rt, pk.bk, fun Γ σ H O ⟨s', a1, a2, a3⟩ E => pk.ct Γ σ H O ⟨m s', by omega, s', rfl, a2, a3⟩ E⟩
end
end TPE
end
section
set_option maxHeartbeats 400000
namespace TPE
open PySem PySem.Spec PyProof.Rows L2 TPI TPZ RT
local macro_rules | `(tactic| walk_at "go") => `(tactic| (try dsimp only [cxK, cxKB, cxK2]); (try dsimp [Gam]); (try simp only [List.map_cons, List.map_nil, List.cons_append, List.nil_append]))
local macro_rules | `(tactic| walk_at "ev") => `(tactic| first
  | ((with_reducible apply ev_var); exact rfl)
  | with_reducible exact ev_int
  | with_reducible exact ev_str
  | with_reducible exact ev_bl
  | with_reducible exact ev_non
  | with_reducible exact ev_c
  | ((with_reducible apply el_i) <;> walk_at "ev")
  | ((with_reducible apply el_b) <;> walk_at "ev")
  | ((with_reducible apply el_eqI); (walk_at "ev"); (walk_at "ev"))
  | ((with_reducible apply el_neI); (walk_at "ev"); (walk_at "ev"))
  | ((with_reducible apply el_eqS); (walk_at "ev"); (walk_at "ev"))
  | ((with_reducible apply el_neS); (walk_at "ev"); (walk_at "ev"))
  | ((with_reducible apply ev_notV) <;> walk_at "ev")
  | ((with_reducible apply el_isi); (walk_at "ev"); exact rfl)
  | ((with_reducible apply el_len) <;> walk_at "ej")
  | (((with_reducible apply ev_aT); (walk_at "ev")))
  | (((with_reducible apply ev_aL); (walk_at "ev")))
  | (((with_reducible apply ev_aP); (walk_at "ev")))
  | (((with_reducible apply ev_pl); (walk_at "ev"))))
local macro_rules | `(tactic| walk_at "ej") => `(tactic| first
  | ((with_reducible apply ev_own); exact rfl)
  | ((with_reducible apply EvJ.q_s); walk_at "ev")
  | ((with_reducible apply EvJ.q_l); walk_at "ev")
  | ((with_reducible apply EvJ.q_t); walk_at "ev")
  | ((with_reducible apply evj); walk_at "ev"))
local macro_rules | `(tactic| walk_at "ea") => `(tactic| first
  | with_reducible exact eva_nil
  | ((with_reducible apply eva_cons); (walk_at "ev"); (walk_at "ea")))
local macro_rules | `(tactic| walk_at "et") => `(tactic| first
  | ((with_reducible apply evt_or); (walk_at "et"); (intro _; walk_at "et"))
  | ((with_reducible apply evt_and); (walk_at "et"); (intro _; walk_at "et"))
  | ((with_reducible apply evt_not); (walk_at "et"))
  | ((with_reducible apply evt_test); (walk_at "ev"))
  | ((with_reducible apply evt_tB); (walk_at "ev")))
local macro_rules | `(tactic| walk_at "le") => `(tactic| ((try simp only [List.set_cons_zero, List.set_cons_succ]); repeat' (first | exact Le.nil | (with_reducible apply Le.un) | (apply Le.eq rfl) | apply Le.eq)))
section
variable {P : Program} {w : World} {K : PySem.W.Frag} {mg : Str → Option Value} {base : Heap} {pA oA : Addr}
/-- the best bundle of a player -/
def bestB (w : List Bool) (p : Bool) (c r1 r2 : List Nat) : List Nat := fill c (rk r1 r2 !p) (caps w p c (rk r1 r2 !p)) (rk r1 r2 p)
theorem rk_pl {r1 r2 : List Nat} (p : Bool) : (if p then plP K (LN r1) else plP K (LN r2)) = plP K (LN (rk r1 r2 p)) := by cases p <;> rfl
inductive gBest (K : PySem.W.Frag) : Option Addr → List Pd → Pd → Prop
  | mk (c r1 r2 : List Nat) (bs : List (List Bool × Nat)) (p : Bool) (h1 : RkOk c.length r1) (h2 : RkOk c.length r2) (h : BlOk bs) (hw : (flat bs).length ≤ c.sum) :
    gBest K none [dP K (.tuple (LN c)), lsP K r1 r2, sqA K (BD bs), dP K (pD p)] (plP K (LN (bestB (flat bs) p c r1 r2)))
theorem sc_best : FnScope ["counts", "lists", "sequence", "player", "ranking"] ["counts", "lists", "sequence", "player"] (defScope (top 49)) := ⟨rfl, rfl, rfl, by decide +kernel, rfl, by decide +kernel, by decide +kernel⟩
-- slots: 0 counts, 1 lists, 2 sequence, 3 player, 4 ranking
theorem w_best [Tb] (B : Bi K mg pA oA) (D : FunG K mg "best_bundle" "best_bundle" (top 49)) (O_require_counts : Okd P w K mg base 4 "require_counts" ["counts"] (gRCounts K)) (O_require_lists : Okd P w K mg base 4 "require_lists" ["lists", "many"] (gRLists K)) (O_require_sequence : Okd P w K mg base 4 "require_sequence" ["sequence"] (gRSeq K)) (O_require_player : Okd P w K mg base 1 "require_player" ["player"] (gRPlayer K)) (O_require_fits : Okd P w K mg base 2 "require_fits" ["counts", "sequence"] (gFits K)) (O_own_list : Okd P w K mg base 1 "own_list" ["lists", "player"] (gOwn K)) (O_filled_up : Okd P w K mg base 1 "filled_up" ["counts", "ranking", "limits", "kinds"] (gFill K)) (O_other_player : Okd P w K mg base 1 "other_player" ["player"] (gOther K)) (O_caps_of : Okd P w K mg base 2 "caps_of" ["counts", "ranking", "sequence", "player"] (gCaps K)) : Okd P w K mg base 5 "best_bundle" ["counts", "lists", "sequence", "player"] (gBest K) := by
  obtain ⟨f, fd, F, m⟩ := D
  refine ⟨f, fd, F.ok sc_best (fun vs H Q E h => SpF.len (fun M ds d hg => by cases hg; rfl) h) (fun cdv A outer s H vs Q E hr h => ⟨_, PSs.nox ((pss_cons (ps_expr (pe_callO O_require_counts (hr.mono (by decide)) rfl (pa_cons (pv 0) pa_nil)))
    (pss_cons (ps_expr (pe_callO O_require_lists (hr.mono (by decide)) rfl (pa_cons (pv 1) (pa_cons (pe_callB call_len rfl B.len (by decide +kernel) (pa_cons (pv 0) pa_nil)) pa_nil))))
    (pss_cons (ps_expr (pe_callO O_require_sequence (hr.mono (by decide)) rfl (pa_cons (pv 2) pa_nil)))
    (pss_cons (ps_expr (pe_callO O_require_player (hr.mono (by decide)) rfl (pa_cons (pv 3) pa_nil)))
    (pss_cons (ps_expr (pe_callO O_require_fits (hr.mono (by decide)) rfl (pa_cons (pv 0) (pa_cons (pv 2) pa_nil))))
    (pss_cons (ps_set (i := 4) sc_best.nd rfl (by first | exact Or.inl rfl | exact Or.inr rfl) (pe_callO O_own_list (hr.mono (by decide)) rfl (pa_cons (pv 1) (pa_cons (pe_callO O_other_player (hr.mono (by decide)) rfl (pa_cons (pv 3) pa_nil)) pa_nil))))
    (pss_one (ps_ret (pe_callO O_filled_up (hr.mono (by decide)) rfl (pa_cons (pv 0) (pa_cons (pv 4) (pa_cons (pe_callO O_caps_of (hr.mono (by decide)) rfl (pa_cons (pv 0) (pa_cons (pv 4) (pa_cons (pv 2) (pa_cons (pv 3) pa_nil))))) (pa_cons (pe_callO O_own_list (hr.mono (by decide)) rfl (pa_cons (pv 1) (pa_cons (pv 3) pa_nil))) pa_nil)))))))))))))), body_of (fun M ds d hg => ?_) h⟩), m, F.kp, F.bindsN (fun _ _ _ _ _ _ us hl => match us, hl with | [_, _, _, _], _ => rfl)⟩
  cases hg with
  | mk c r1 r2 bs p h1 h2 h hw =>
  refine ⟨by simp, ?_⟩
  walk_at "go"
  have hr := rk_ok h1 h2 (!p)
  have hl : ∀ {M : Option Addr} {Γ : List Slt} (i : Nat), Γ[i]? = some (.val (lsP K r1 r2)) → Ev M (tVar i) Γ (lsP K r1 r2) := fun i e => ev_var e
  refine dq_drop (ev_call (by walk_at "ea") (gRCounts.mk c h1.few) (.inl rfl)) ?_
  refine dq_drop (ev_call (eva_cons (ev_sub (hl 1 rfl) fun F v => lsP_d) (eva_cons (el_lenN (sk := .t) (by walk_at "ej")) eva_nil)) (gRLists.mk c.length r1 r2 h1 h2) (.inl rfl)) ?_
  refine dq_drop (ev_call (by walk_at "ea") (gRSeq.mk bs h) (.inl rfl)) ?_
  refine dq_drop (ev_call (by walk_at "ea") (gRPlayer.mk p) (.inl rfl)) ?_
  refine dq_drop (ev_call (by walk_at "ea") (gFits.mk c bs h hw) (.inl rfl)) ?_
  refine dq_setV (d := plP K (LN (rk r1 r2 !p))) (rk_pl (K := K) (!p) ▸ ev_call (eva_cons (hl 1 rfl) (eva_cons (ev_call (by walk_at "ea") (gOther.mk p) (.inl rfl)) eva_nil)) (gOwn.mk (plP K (LN r1)) (plP K (LN r2)) (!p)) (.inl rfl)) ?_
  simp only [List.set_cons_zero, List.set_cons_succ]
  refine ds_retR (ev_call (eva_cons (by walk_at "ev") (eva_cons (by walk_at "ev") (eva_cons (ev_call (by walk_at "ea") (gCaps.mk c (rk r1 r2 !p) bs p (fun x hx => hr.lt hx) (by rw [hr.length]; exact hr.few) h) (.inl rfl)) (eva_cons (d := plP K (LN (rk r1 r2 p))) (rk_pl (K := K) p ▸ ev_call (eva_cons (hl 1 rfl) (eva_cons (by walk_at "ev") eva_nil)) (gOwn.mk (plP K (LN r1)) (plP K (LN r2)) p) (.inl rfl)) eva_nil)))) (gFill.mk c (rk r1 r2 !p) (caps (flat bs) p c (rk r1 r2 !p)) (rk r1 r2 p) hr (by rw [caps_length, hr.length]) (rk_ok h1 h2 p)) (.inl rfl))
inductive gBL (K : PySem.W.Frag) : Option Addr → List Pd → Pd → Prop
  | mk (c r : List Nat) (hr : ∀ x ∈ r, x < c.length) (hz : r.length ≤ 60) (he : ∃ x ∈ r, 0 < c.getD x 0) : gBL K none [sqA K (LN c), sqA K (LN r)] (dP K (nI (bl c r)))
theorem sc_bestleft : FnScope ["left", "ranking", "kind"] ["left", "ranking"] (defScope (top 61)) := ⟨rfl, rfl, rfl, by decide +kernel, rfl, by decide +kernel, by decide +kernel⟩
-- slots: 0 left*, 1 ranking, 2 kind
theorem w_bestleft [Tb] (B : Bi K mg pA oA) (D : FunG K mg "best_left" "best_left" (top 61)) : Okd P w K mg base 1 "best_left" ["left", "ranking"] (gBL K) := by
  obtain ⟨f, fd, F, m⟩ := D
  refine ⟨f, fd, F.ok sc_bestleft (fun vs H Q E h => SpF.len (fun M ds d hg => by cases hg; rfl) h) (fun cdv A outer s H vs Q E hr h => ⟨_, PSs.nox ((pss_one (ps_ret (pe_ix ix_seq (pe_lc (own := [("kind", 2)]) (tt := (tTest (tOp _ (tOp (rIx K) _ _) _))) rfl sc_bestleft.nd (pi_src (pv 1)) (blkOk_by (own := [("kind", 2)]) (N := ["left", "ranking", "kind"]) (sc := defScope (top 61)) (by decide +kernel)) (fun _ _ _ _ _ => (pg_name (i := 2) sc_bestleft.nd rfl (by first | exact Or.inl rfl | exact Or.inr rfl))) (fun _ _ _ _ _ => (pts_one (pt_cmpR op_gt (pe_ix ix_seq (pv 0) (pv 2) (fun _ _ => rfl)) pe_int (nomark _)))) (fun _ _ _ _ _ => (pv 2))) pe_int (fun _ _ => rfl))))), body_of (fun M ds d hg => ?_) h⟩), m, F.kp, F.bindsN (fun _ _ _ _ _ _ us hl => match us, hl with | [_, _], _ => rfl)⟩
  cases hg with
  | mk c r hr hz he =>
  refine ⟨by simp, ?_⟩
  walk_at "go"
  refine ds_retR (el_ix (K := K) (sk := .l) (ds := LN (r.filter fun x => decide (0 < c.getD x 0))) (i := 0) (EvJ.q_l (ev_frz (evc_eqL (evc_filF (K := K) (evi_src (ds := LN r) (by walk_at "ev") itd_q) (fun i => decide (0 < c.getD (r.getD i 0) 0)) (fun i => nI (r.getD i 0)) (by rw [LN_length]; omega) fun i hi => ?_) ?_))) ev_int ?_)
  · rw [LN_length] at hi
    rw [LN_getD hi]
    have hx : r.getD i 0 < c.length := by rw [getD_of hi]; exact hr _ (List.getElem_mem hi)
    refine ⟨_, gt1, evt_eq (b := decide ((0 : Int) < (c.getD (r.getD i 0) 0 : Nat))) (evt_test (el_b (el_ixN (sk := .any) (EvJ.q_s (by walk_at "ev")) (by walk_at "ev") hx) (by walk_at "ev"))) (by simp), fun _ => by walk_at "ev"⟩
  · rw [LN_length, filter_range_map r _ _ (fun x => decide (0 < c.getD x 0)) (fun x => nI x) fun i hi => by rw [getD_of hi]; exact ⟨rfl, rfl⟩]
    simp only [LN, List.map_map]
    rfl
  · obtain ⟨x, hx, h0⟩ := he
    have hm : x ∈ r.filter fun x => decide (0 < c.getD x 0) := List.mem_filter.mpr ⟨hx, by simpa using h0⟩
    unfold bl
    cases hq : r.filter fun x => decide (0 < c.getD x 0) with
    | nil => rw [hq] at hm; cases hm
    | cons y l => exact LN_at (i := 0) (ns := y :: l) (by simp)
theorem lsD_tup [Tb] {r1 r2 : List Nat} {M : Option Addr} {Γ : List Slt} {t : TE} (h : Ev M t Γ (dP K (lsD r1 r2))) : Ev M t Γ (tupP K [dP K (.tuple (LN r1)), dP K (.tuple (LN r2))]) := h.mono fun F v hv => tupP_d (ds := [.tuple (LN r1), .tuple (LN r2)]) hv
theorem rk_d {r1 r2 : List Nat} (p : Bool) : (if p then dP K (.tuple (LN r1)) else dP K (.tuple (LN r2))) = dP K (.tuple (LN (rk r1 r2 p))) := by cases p <;> rfl
inductive gOne (K : PySem.W.Frag) : Option Addr → List Pd → Pd → Prop
  | mk (c r1 r2 : List Nat) (u : List Bool) (h1 : RkOk c.length r1) (h2 : RkOk c.length r2) (hu : u.length ≤ c.sum) (hz : u.length ≤ 20) :
    gOne K none [sqA K (LN c), dP K (lsD r1 r2), dP K (.str (SW u))] (tupP K [plP K (LN (plK r1 r2 u c)), dP K (.list (LN (plC r1 r2 u c)))])
theorem sc_onerep : FnScope ["left", "lists", "turns", "after", "kinds", "letter", "kind"] ["left", "lists", "turns"] (defScope (top 62)) := ⟨rfl, rfl, rfl, by decide +kernel, rfl, by decide +kernel, by decide +kernel⟩
-- slots: 0 left, 1 lists, 2 turns, 3 after, 4 kinds, 5 letter, 6 kind
theorem w_onerep [Tb] (B : Bi K mg pA oA) (D : FunG K mg "one_repetition" "one_repetition" (top 62)) (O_best_left : Okd P w K mg base 1 "best_left" ["left", "ranking"] (gBL K)) (O_own_list : Okd P w K mg base 1 "own_list" ["lists", "player"] (gOwn K)) : Okd P w K mg base 2 "one_repetition" ["left", "lists", "turns"] (gOne K) := by
  obtain ⟨f, fd, F, m⟩ := D
  refine ⟨f, fd, F.ok sc_onerep (fun vs H Q E h => SpF.len (fun M ds d hg => by cases hg; rfl) h) (fun cdv A outer s H vs Q E hr h => ⟨_, PSs.nox ((pss_cons (ps_par (i := 3) (j := 4) rfl sc_onerep.nd rfl rfl (by decide) rfl rfl (pa_cons (pe_callTy call_list_of rfl B.list (by decide +kernel) (pa_cons (pv 0) pa_nil)) (pa_cons (pe_lst pa_nil) pa_nil)) rfl)
    (pss_cons (ps_for PassesOwn.never rfl (pi_src (pv 2)) (pg_name (i := 5) sc_onerep.nd rfl (by first | exact Or.inl rfl | exact Or.inr rfl))
    (pss_cons (ps_set (i := 6) sc_onerep.nd rfl (by first | exact Or.inl rfl | exact Or.inr rfl) (pe_callO O_best_left (hr.mono (by decide)) rfl (pa_cons (pv 3) (pa_cons (pe_callO O_own_list (hr.mono (by decide)) rfl (pa_cons (pv 1) (pa_cons (pv 5) pa_nil))) pa_nil))))
    (pss_cons (ps_augS (pv 3) (pv 6) pget_list pe_int ip_sub set_list)
    (pss_one (ps_expr (pe_bm PySem.F.plainAttrs_list PySem.F.slot_list_append PySem.F.type_list_append mt_append (pv 4) (pa_cons (pv 6) pa_nil)))))))
    (pss_one (ps_ret (pe_tup (pa_cons (pe_callTy call_tupX rfl B.tuple (by decide +kernel) (pa_cons (pv 4) pa_nil)) (pa_cons (pv 3) pa_nil)))))))), body_of (fun M ds d hg => ?_) h⟩), m, F.kp, F.bindsN (fun _ _ _ _ _ _ us hl => match us, hl with | [_, _, _], _ => rfl)⟩
  cases hg with
  | mk c r1 r2 u h1 h2 hu hz =>
  refine ⟨by simp, ?_⟩
  walk_at "go"
  refine dq_par (c := .own (ownL K (LN c))) (c2 := .own (ownL K [])) (el_list (sk := .any) (EvJ.q_s (by walk_at "ev"))) (evc_lst (ds := []) eva_nil (Nat.zero_le _)) (by decide) ?_
  simp only [List.set_cons_zero, List.set_cons_succ]
  refine dq_forL (evi_src (ds := sgn (SW u)) (by walk_at "ev") itd_s) (fun i => True) (fun i => [.val (sqA K (LN c)), .val (dP K (lsD r1 r2)), .val (dP K (.str (SW u))), .own (ownL K (LN (plC r1 r2 (u.take i) c))), .own (ownL K (LN (plK r1 r2 (u.take i) c))), .un, .un]) ⟨trivial, by walk_at "le"⟩ (fun i hi _ => ?_) (fun _ => ?_)
  · have hi' : i < u.length := by simpa [sgn_SW] using hi
    have e2 : (sgn (SW u)).getD i .none = pD u[i] := by rw [sgn_SW, List.getD_eq_getElem?_getD]; simp [hi']
    rw [e2]
    have et : u.take (i + 1) = u.take i ++ [u[i]] := by rw [List.take_add_one, List.getElem?_eq_getElem hi']; rfl
    have hlen : (plC r1 r2 (u.take i) c).length = c.length := plC_length _ _
    have hs := (plC_sum h1 h2 (u.take i) c rfl (by rw [List.length_take]; omega)).1
    rw [List.length_take] at hs
    have hr := rk_ok h1 h2 u[i]
    have hex := ex_left hr hlen (by omega)
    obtain ⟨g1, g2, g3⟩ := bl_spec hex
    rw [et, plC_append, plK_append]
    have hkl : (plK r1 r2 (u.take i) c).length ≤ 20 := by rw [plK_length, List.length_take]; omega
    generalize plC r1 r2 (u.take i) c = a at *
    generalize plK r1 r2 (u.take i) c = ks at *
    generalize u[i] = p at *
    have hx : bl a (rk r1 r2 p) < a.length := by rw [hlen]; exact hr.lt g1
    refine ⟨_, _, gt1, ?_⟩
    simp only [List.set_cons_zero, List.set_cons_succ]
    refine dq_setV (d := dP K (nI (bl a (rk r1 r2 p)))) (ev_thaw (K := K) 3 (ds := LN a) rfl (ev_call (eva_cons (by walk_at "ev") (eva_cons (ev_aT (rk_d (K := K) p ▸ ev_call (eva_cons (lsD_tup (by walk_at "ev")) (eva_cons (by walk_at "ev") eva_nil)) (gOwn.mk (dP K (.tuple (LN r1))) (dP K (.tuple (LN r2))) p) (.inl rfl))) eva_nil)) (gBL.mk a (rk r1 r2 p) (fun x hx => by rw [hlen]; exact hr.lt hx) (by rw [hr.length]; exact hr.few) hex) (.inl rfl)) fun F F' v => dp_free) ?_
    simp only [List.set_cons_zero, List.set_cons_succ]
    refine ds_seq (ds_augG (K := K) (ds := LN a) (k := bl a (rk r1 r2 p)) (a := (a.getD (bl a (rk r1 r2 p)) 0 : Nat)) (b := 1) rfl (by walk_at "ev") (by rw [LN_length]; exact hx) (LN_get hx) ev_int ?_)
    simp only [List.set_cons_zero, List.set_cons_succ]
    refine ds_append (K := K) (ds := LN ks) (x := nI (bl a (rk r1 r2 p))) rfl (by walk_at "ev") (by rw [LN_length]; exact small1000 (by omega)) ?_
    refine ⟨trivial, ?_⟩
    have e3 : (LN a).set (bl a (rk r1 r2 p)) (.int (((a.getD (bl a (rk r1 r2 p)) 0 : Nat) : Int) - 1)) = LN (plC r1 r2 [p] a) := by
      show _ = LN (dec a (bl a (rk r1 r2 p)))
      unfold dec
      rw [← LN_set]
      congr 2
      omega
    have e4 : LN ks ++ [nI (bl a (rk r1 r2 p))] = LN (ks ++ plK r1 r2 [p] a) := by rw [LN_append]; rfl
    rw [e3, e4]
    walk_at "le"
  · have e : (sgn (SW u)).length = u.length := by simp [sgn_SW]
    rw [e, List.take_length]
    refine ds_frz 3 (K := K) (ds := LN (plC r1 r2 u c)) rfl ?_
    simp only [List.set_cons_zero, List.set_cons_succ]
    exact ds_retR (ev_tup (eva_cons (el_tup (by walk_at "ej")) (by walk_at "ea")) (by show 2 ≤ sizeLine; decide))
end
end TPE
end
section
set_option maxHeartbeats 400000
namespace TPE
open PySem PySem.Spec PyProof.Rows L2 TPI TPZ RT
local macro_rules | `(tactic| walk_at "go") => `(tactic| (try dsimp only [cxK, cxKB, cxK2]); (try dsimp [Gam]); (try simp only [List.map_cons, List.map_nil, List.cons_append, List.nil_append]))
local macro_rules | `(tactic| walk_at "ev") => `(tactic| first
  | ((with_reducible apply ev_var); exact rfl)
  | with_reducible exact ev_int
  | with_reducible exact ev_str
  | with_reducible exact ev_bl
  | with_reducible exact ev_non
  | with_reducible exact ev_c
  | ((with_reducible apply el_i) <;> walk_at "ev")
  | ((with_reducible apply el_b) <;> walk_at "ev")
  | ((with_reducible apply el_eqI); (walk_at "ev"); (walk_at "ev"))
  | ((with_reducible apply el_neI); (walk_at "ev"); (walk_at "ev"))
  | ((with_reducible apply el_eqS); (walk_at "ev"); (walk_at "ev"))
  | ((with_reducible apply el_neS); (walk_at "ev"); (walk_at "ev"))
  | ((with_reducible apply ev_notV) <;> walk_at "ev")
  | ((with_reducible apply el_isi); (walk_at "ev"); exact rfl)
  | ((with_reducible apply el_len) <;> walk_at "ej")
  | (((with_reducible apply ev_aT); (walk_at "ev")))
  | (((with_reducible apply ev_aL); (walk_at "ev")))
  | (((with_reducible apply ev_aP); (walk_at "ev")))
  | (((with_reducible apply ev_pl); (walk_at "ev"))))
local macro_rules | `(tactic| walk_at "ej") => `(tactic| first
  | ((with_reducible apply ev_own); exact rfl)
  | ((with_reducible apply EvJ.q_s); walk_at "ev")
  | ((with_reducible apply EvJ.q_l); walk_at "ev")
  | ((with_reducible apply EvJ.q_t); walk_at "ev")
  | ((with_reducible apply evj); walk_at "ev"))
local macro_rules | `(tactic| walk_at "ea") => `(tactic| first
  | with_reducible exact eva_nil
  | ((with_reducible apply eva_cons); (walk_at "ev"); (walk_at "ea")))
local macro_rules | `(tactic| walk_at "et") => `(tactic| first
  | ((with_reducible apply evt_or); (walk_at "et"); (intro _; walk_at "et"))
  | ((with_reducible apply evt_and); (walk_at "et"); (intro _; walk_at "et"))
  | ((with_reducible apply evt_not); (walk_at "et"))
  | ((with_reducible apply evt_test); (walk_at "ev"))
  | ((with_reducible apply evt_tB); (walk_at "ev")))
local macro_rules | `(tactic| walk_at "le") => `(tactic| ((try simp only [List.set_cons_zero, List.set_cons_succ]); repeat' (first | exact Le.nil | (with_reducible apply Le.un) | (apply Le.eq rfl) | apply Le.eq)))
section
variable {P : Program} {w : World} {K : PySem.W.Frag} {mg : Str → Option Value} {base : Heap} {pA oA : Addr}
def likeN (c ks : List Nat) (t : Nat) : Nat := minL t (ks.map fun x => c.getD x 0 / ks.count x)
inductive gLike (K : PySem.W.Frag) : Option Addr → List Pd → Pd → Prop
  | mk (c ks : List Nat) (t : Nat) (hk : ∀ x ∈ ks, x < c.length) (hz : ks.length ≤ 20) : gLike K none [sqA K (LN c), plP K (LN ks), dP K (nI t)] (dP K (nI (likeN c ks t)))
theorem sc_like : FnScope ["left", "kinds", "times", "kind"] ["left", "kinds", "times"] (defScope (top 63)) := ⟨rfl, rfl, rfl, by decide +kernel, rfl, by decide +kernel, by decide +kernel⟩
-- slots: 0 left*, 1 kinds*, 2 times, 3 kind
theorem w_like [Tb] (B : Bi K mg pA oA) (D : FunG K mg "like_repetitions" "like_repetitions" (top 63)) : Okd P w K mg base 1 "like_repetitions" ["left", "kinds", "times"] (gLike K) := by
  obtain ⟨f, fd, F, m⟩ := D
  refine ⟨f, fd, F.ok sc_like (fun vs H Q E h => SpF.len (fun M ds d hg => by cases hg; rfl) h) (fun cdv A outer s H vs Q E hr h => ⟨_, PSs.nox ((pss_one (ps_ret (pe_callB (cr_min rfl) rfl B.min (by decide +kernel) (pa_cons (pe_op op_catL (pe_lst (pa_cons (pv 2) pa_nil)) (pe_lc (own := [("kind", 3)]) (te := (tOp _ (tOp (rIx K) _ _) (tBT K (rTCnt K) _ (tCons _ tNil)))) rfl sc_like.nd (pi_src (pv 1)) (blkOk_by (own := [("kind", 3)]) (N := ["left", "kinds", "times", "kind"]) (sc := defScope (top 63)) (by decide +kernel)) (fun _ _ _ _ _ => (pg_name (i := 3) sc_like.nd rfl (by first | exact Or.inl rfl | exact Or.inr rfl))) (fun _ _ _ _ _ => pts_nil) (fun _ _ _ _ _ => (pe_op op_fdiv (pe_ix ix_seq (pv 0) (pv 3) (fun _ _ => rfl)) (pe_bt PySem.F.slot_tuple_count PySem.F.type_tuple_count (mt_tcnt (hu_of hr)) (pv 1) (pa_cons (pv 3) pa_nil)))))) pa_nil))))), body_of (fun M ds d hg => ?_) h⟩), m, F.kp, F.bindsN (fun _ _ _ _ _ _ us hl => match us, hl with | [_, _, _], _ => rfl)⟩
  cases hg with
  | mk c ks t hk hz =>
  refine ⟨by simp, ?_⟩
  walk_at "go"
  refine ds_retR (el_minL (evc_eqL (el_catL (ds := [nI t]) (es := LN (ks.map fun x => c.getD x 0 / ks.count x)) (EvJ.q_l (ev_frz (evc_lst (ds := [nI t]) (eva_cons (by walk_at "ev") eva_nil) (by show 1 ≤ sizeLine; decide)))) (EvJ.q_l (ev_frz (evc_eqL (evc_mapF (K := K) (evi_src (ds := LN ks) (by walk_at "ev") itd_p) (fun i => nI (c.getD (ks.getD i 0) 0 / ks.count (ks.getD i 0))) (by rw [LN_length]; omega) fun i hi => ?_) ?_))) (by simp [LN_length]; omega)) rfl))
  · rw [LN_length] at hi
    rw [LN_getD hi]
    have hm : ks.getD i 0 ∈ ks := by rw [getD_of hi]; exact List.getElem_mem hi
    have h0 : 0 < ks.count (ks.getD i 0) := List.count_pos_iff.mpr hm
    have h1 : ks.count (ks.getD i 0) ≤ ks.length := List.count_le_length
    refine ⟨_, gt1, el_divN (el_ixN (sk := .any) (EvJ.q_s (by walk_at "ev")) (by walk_at "ev") (hk _ hm)) (ev_eq (ev_tcnt (ns := ZN ks) (k := (ks.getD i 0 : Nat)) (by walk_at "ev") (by walk_at "ev")) (by rw [ZN_count])) h0 (by omega)⟩
  · rw [LN_length, map_range_get ks _ (fun x => nI (c.getD x 0 / ks.count x)) fun i hi => by rw [getD_of hi]]
    simp only [LN, List.map_map]
    rfl
/-- like repetitions: at least one, and so many go alike -/
theorem likeN_spec {k : Nat} {r1 r2 c : List Nat} (h1 : RkOk k r1) (h2 : RkOk k r2) (hc : c.length = k) {u : List Bool} (hu : u.length ≤ c.sum) {t : Nat} (ht : 1 ≤ t) :
    1 ≤ likeN c (plK r1 r2 u c) t ∧ likeN c (plK r1 r2 u c) t ≤ t ∧ ∀ x, likeN c (plK r1 r2 u c) t * (plK r1 r2 u c).count x ≤ c.getD x 0 := by
  obtain ⟨g1, g2⟩ := minL_le ((plK r1 r2 u c).map fun x => c.getD x 0 / (plK r1 r2 u c).count x) t
  have g3 := minL_mem ((plK r1 r2 u c).map fun x => c.getD x 0 / (plK r1 r2 u c).count x) t
  have hs := (plC_sum h1 h2 u c hc hu).2
  refine ⟨?_, g1, fun x => ?_⟩
  · rcases List.mem_cons.mp g3 with e | e
    · unfold likeN; rw [e]; exact ht
    · obtain ⟨x, hx, e⟩ := List.mem_map.mp e
      unfold likeN
      rw [← e]
      have h0 : 0 < (plK r1 r2 u c).count x := List.count_pos_iff.mpr hx
      exact (Nat.le_div_iff_mul_le h0).mpr (by have := hs x; omega)
  · by_cases hx : x ∈ plK r1 r2 u c
    · have h0 : 0 < (plK r1 r2 u c).count x := List.count_pos_iff.mpr hx
      exact (Nat.le_div_iff_mul_le h0).mp (g2 _ (List.mem_map_of_mem hx))
    · rw [List.count_eq_zero.mpr hx]; omega
inductive gRows (K : PySem.W.Frag) : Option Addr → List Pd → Pd → Prop
  | mk (c r1 r2 : List Nat) (bs : List (List Bool × Nat)) (h1 : RkOk c.length r1) (h2 : RkOk c.length r2) (h : BlOk bs) (hw : (flat bs).length ≤ c.sum) (hz : (flat bs).length ≤ 300) :
    gRows K none [sqA K (LN c), dP K (lsD r1 r2), sqA K (BD bs)] (exP fun rows : { rows : List Row // RowsOk r1 r2 c (flat bs) rows } => dP K (.list (rows.1.map rowD)))
theorem rep_add {α : Type} (a b : Nat) (u : List α) : (List.replicate (a + b) u).flatten = (List.replicate a u).flatten ++ (List.replicate b u).flatten := by
  rw [← List.replicate_append_replicate, List.flatten_append]
/-- what the outer loop keeps: D the word done -/
structure Mid (r1 r2 c : List Nat) (D : List Bool) (rows : List Row) (left : List Nat) : Prop where
  rows : RowsOk r1 r2 c D rows
  left : left = plC r1 r2 D c
theorem Mid.few {r1 r2 c : List Nat} {D : List Bool} {rows : List Row} {left : List Nat} (m : Mid r1 r2 c D rows left) : rows.length ≤ D.length := by
  rw [← m.rows.word]
  have h := m.rows.ok
  clear m
  induction rows with
  | nil => simp
  | cons r rows ih =>
    have e : rW (r :: rows) = (List.replicate r.m r.u).flatten ++ rW rows := by simp [rW]
    rw [e, List.length_append, rep_length, List.length_cons]
    obtain ⟨q1, q2, q3, q4⟩ := h r List.mem_cons_self
    have hp : 0 < r.u.length := List.length_pos_iff.mpr q4
    have := ih fun z hz => h z (List.mem_cons_of_mem _ hz)
    have : 1 ≤ r.m * r.u.length := Nat.mul_pos q3 hp
    omega
/-- one row more -/
theorem Mid.step {k : Nat} {r1 r2 c : List Nat} (h1 : RkOk k r1) (h2 : RkOk k r2) (hc : c.length = k) {D : List Bool} {rows : List Row} {left : List Nat} (m : Mid r1 r2 c D rows left) {u : List Bool} {t : Nat} (hu : u ≠ []) (hu2 : u.length ≤ 20) (ht : 1 ≤ t)
    (hs : D.length + t * u.length ≤ c.sum) :
    Mid r1 r2 c (D ++ (List.replicate (likeN left (plK r1 r2 u left) t) u).flatten) (rows ++ [⟨u, plK r1 r2 u left, likeN left (plK r1 r2 u left) t⟩]) (plC r1 r2 (List.replicate (likeN left (plK r1 r2 u left) t) u).flatten left) ∧
    (∀ x, (plC r1 r2 (List.replicate (likeN left (plK r1 r2 u left) t) u).flatten left).getD x 0 + likeN left (plK r1 r2 u left) t * (plK r1 r2 u left).count x = left.getD x 0) ∧ u.length ≤ left.sum ∧ 1 ≤ likeN left (plK r1 r2 u left) t ∧ likeN left (plK r1 r2 u left) t ≤ t := by
  have hp : 0 < u.length := List.length_pos_iff.mpr hu
  have hul : u.length ≤ t * u.length := Nat.le_mul_of_pos_left _ (by omega)
  have hlen : left.length = k := by rw [m.left, plC_length, hc]
  have hsum : left.sum + D.length = c.sum := by
    have := (plC_sum h1 h2 D c hc (by omega)).1
    rw [m.left]; exact this
  obtain ⟨l1, l2, l3⟩ := likeN_spec h1 h2 hlen (u := u) (by omega) ht
  obtain ⟨g1, g2⟩ := plK_rep h1 h2 hlen (u := u) (by omega) l3 _ (Nat.le_refl _)
  refine ⟨⟨⟨?_, ?_, fun r hr => ?_⟩, ?_⟩, g2, by omega, l1, l2⟩
  · rw [rW_app, m.rows.word, rW_one]
  · rw [rK_app, m.rows.kinds, rK_one, plK_append, ← m.left, g1]
  · rcases List.mem_append.mp hr with hr | hr
    · exact m.rows.ok r hr
    · have e := List.mem_singleton.mp hr
      subst e
      exact ⟨plK_length _ _, hu2, l1, hu⟩
  · rw [plC_append, ← m.left]
theorem sc_rows : FnScope ["counts", "lists", "sequence", "left", "course", "turns", "times", "kinds", "after", "many", "kind", "count"] ["counts", "lists", "sequence"] (defScope (top 64)) := ⟨rfl, rfl, rfl, by decide +kernel, rfl, by decide +kernel, by decide +kernel⟩
-- slots: 0 counts, 1 lists, 2 sequence, 3 left, 4 course, 5 turns, 6 times, 7 kinds*, 8 after, 9 many*, 10 kind, 11 count
theorem w_rows [Tb] (B : Bi K mg pA oA) (D : FunG K mg "plain_rows" "plain_rows" (top 64)) (O_one_repetition : Okd P w K mg base 2 "one_repetition" ["left", "lists", "turns"] (gOne K)) (O_like_repetitions : Okd P w K mg base 1 "like_repetitions" ["left", "kinds", "times"] (gLike K)) : Okd P w K mg base 3 "plain_rows" ["counts", "lists", "sequence"] (gRows K) := by
  obtain ⟨f, fd, F, m⟩ := D
  refine ⟨f, fd, F.ok sc_rows (fun vs H Q E h => SpF.len (fun M ds d hg => by cases hg; rfl) h) (fun cdv A outer s H vs Q E hr h => ⟨_, PSs.nox ((pss_cons (ps_par (i := 3) (j := 4) rfl sc_rows.nd rfl rfl (by decide) rfl rfl (pa_cons (pe_callTy call_list_of rfl B.list (by decide +kernel) (pa_cons (pv 0) pa_nil)) (pa_cons (pe_lst pa_nil) pa_nil)) rfl)
    (pss_cons (ps_for PassesOwn.never rfl (pi_src (pv 2)) (pg_tup rfl (pgs_cons (pg_name (i := 5) sc_rows.nd rfl (by first | exact Or.inl rfl | exact Or.inr rfl)) (pgs_cons (pg_name (i := 6) sc_rows.nd rfl (by first | exact Or.inl rfl | exact Or.inr rfl)) pgs_nil)))
    (pss_one (ps_while PassesOwn.never (pt_cmpR op_gt (pv 6) pe_int (nomark _))
    (pss_cons (ps_asg (pe_callO O_one_repetition (hr.mono (by decide)) rfl (pa_cons (pv 3) (pa_cons (pv 1) (pa_cons (pv 5) pa_nil)))) (pg_tup rfl (pgs_cons (pg_name (i := 7) sc_rows.nd rfl (by first | exact Or.inl rfl | exact Or.inr rfl)) (pgs_cons (pg_name (i := 8) sc_rows.nd rfl (by first | exact Or.inl rfl | exact Or.inr rfl)) pgs_nil))))
    (pss_cons (ps_set (i := 9) sc_rows.nd rfl (by first | exact Or.inl rfl | exact Or.inr rfl) (pe_callO O_like_repetitions (hr.mono (by decide)) rfl (pa_cons (pv 3) (pa_cons (pv 7) (pa_cons (pv 6) pa_nil)))))
    (pss_cons (ps_expr (pe_bm PySem.F.plainAttrs_list PySem.F.slot_list_append PySem.F.type_list_append mt_append (pv 4) (pa_cons (pe_tup (pa_cons (pv 5) (pa_cons (pv 7) (pa_cons (pv 9) pa_nil)))) pa_nil)))
    (pss_cons (ps_if (pt_cmpR op_gt (pv 9) pe_int (nomark _))
    (pss_one (ps_setLc (i := 8) (own := [("kind", 10), ("count", 11)]) (g := (gTup K 2 (gCons (gName 10) (gCons (gName 11) gNil)))) (te := (tOp _ _ (tOp _ _ (tBT K (rTCnt K) _ (tCons _ tNil))))) rfl sc_rows.nd rfl rfl (sw_true rfl rfl rfl (by decide +kernel)) (pi_enumS rfl B.enumerate (pa_cons (pv 3) pa_nil)) (blkOk_by (own := [("kind", 10), ("count", 11)]) (N := ["counts", "lists", "sequence", "left", "course", "turns", "times", "kinds", "after", "many", "kind", "count"]) (sc := defScope (top 64)) (by decide +kernel)) (fun _ _ _ _ _ => (pg_tup rfl (pgs_cons (pg_name (i := 10) sc_rows.nd rfl (by first | exact Or.inl rfl | exact Or.inr rfl)) (pgs_cons (pg_name (i := 11) sc_rows.nd rfl (by first | exact Or.inl rfl | exact Or.inr rfl)) pgs_nil)))) (fun _ _ _ _ _ => pts_nil) (fun _ _ _ _ _ => (pe_op op_sub (pv 11) (pe_op op_mul (pv 9) (pe_bt PySem.F.slot_tuple_count PySem.F.type_tuple_count (mt_tcnt (hu_of hr)) (pv 7) (pa_cons (pv 10) pa_nil)))))))
    pss_nil)
    (pss_one (ps_par (i := 3) (j := 6) rfl sc_rows.nd rfl rfl (by decide) rfl rfl (pa_cons (pv 8) (pa_cons (pe_op op_sub (pv 6) (pv 9)) pa_nil)) rfl)))))))))
    (pss_one (ps_ret (pv 4)))))), body_of (fun M ds d hg => ?_) h⟩), m, F.kp, F.bindsN (fun _ _ _ _ _ _ us hl => match us, hl with | [_, _, _], _ => rfl)⟩
  cases hg with
  | mk c r1 r2 bs h1 h2 h hw hz =>
  refine ⟨by simp, ?_⟩
  walk_at "go"
  refine dq_par (c := .own (ownL K (LN c))) (c2 := .own (ownL K [])) (el_list (sk := .any) (EvJ.q_s (by walk_at "ev"))) (evc_lst (ds := []) eva_nil (Nat.zero_le _)) (by decide) ?_
  simp only [List.set_cons_zero, List.set_cons_succ]
  refine ds_frz 3 (K := K) (ds := LN c) rfl ?_
  simp only [List.set_cons_zero, List.set_cons_succ]
  refine dq_for (evi_src (ds := BD bs) (by walk_at "ev") itd_q) (fun i Γ' => ∃ rows left, Mid r1 r2 c (flat (bs.take i)) rows left ∧ Le Γ' [.val (sqA K (LN c)), .val (dP K (lsD r1 r2)), .val (sqA K (BD bs)), .val (dP K (.list (LN left))), .own (ownL K (rows.map rowD)), .un, .un, .un, .un, .un, .un, .un])
    ⟨[], c, ⟨⟨rfl, rfl, fun r hr => by cases hr⟩, rfl⟩, by walk_at "le"⟩ (fun i Γ' hi hI => ?_) (fun Γ' hI => ?_)
  · obtain ⟨rows0, left0, m0, hle⟩ := hI
    have hi' : i < bs.length := by simpa [BD] using hi
    rw [BD_getD hi']
    obtain ⟨q1, q2, q3, q4⟩ := h.ok _ (List.getElem_mem hi')
    refine ⟨_, _, fun B O0 O σ H x E hx Q q => gt2 B O0 O σ H x (E.le hle) hx Q q, ?_⟩
    simp only [List.set_cons_zero, List.set_cons_succ]
    have hfl := flat_take_succ bs hi'
    have hsp := congrArg List.length (flat_split bs hi')
    rw [List.length_append, List.length_append, rep_length] at hsp
    generalize flat (bs.take i) = D0 at *
    generalize bs[i] = b at *
    obtain ⟨u, T⟩ := b
    simp only at q1 q2 q3 q4 hfl hsp
    refine ds_whileL (fun s : Nat × List Row × List Nat => ∃ j, j + s.1 = T ∧ Mid r1 r2 c (D0 ++ (List.replicate j u).flatten) s.2.1 s.2.2) (fun s => [.val (sqA K (LN c)), .val (dP K (lsD r1 r2)), .val (sqA K (BD bs)), .val (dP K (.list (LN s.2.2))), .own (ownL K (s.2.1.map rowD)), .val (dP K (.str (SW u))), .val (dP K (nI s.1)), .un, .un, .un, .un, .un]) (fun s => s.1) (T, rows0, left0)
      ⟨⟨0, by simp, by simpa using m0⟩, by walk_at "le"⟩ fun s hF => ?_
    obtain ⟨t, rows, left⟩ := s
    obtain ⟨j, hj, mid⟩ := hF
    simp only at hj mid
    refine ⟨(· = decide ((0 : Int) < (t : Nat))), evt_test (K := K) (by walk_at "ev"), fun hf Γ2 hl2 => ?_, fun htr => ?_⟩
    · have ht : t = 0 := by simp at hf; omega
      have hjT : j = T := by omega
      subst hjT
      refine ⟨rows, left, hfl ▸ mid, ?_⟩
      cases hl2 with
      | eq e1 hl2 => cases hl2 with
        | eq e2 hl2 => cases hl2 with
          | eq e3 hl2 => cases hl2 with
            | eq e4 hl2 => cases hl2 with
              | eq e5 hl2 => cases hl2 with
                | eq e6 hl2 => cases hl2 with
                  | eq e7 hl2 => exact .eq e1 (.eq e2 (.eq e3 (.eq e4 (.eq e5 (.un (.un hl2))))))
    · have ht : 1 ≤ t := by simp at htr; omega
      have hDlen : (D0 ++ (List.replicate j u).flatten).length = D0.length + j * u.length := by rw [List.length_append, rep_length]
      have hTl : j * u.length + t * u.length = T * u.length := by rw [← hj, Nat.add_mul]
      obtain ⟨s1, s2, s3, s4, s5⟩ := mid.step h1 h2 rfl q1 q2 ht (by omega)
      have hlen : left.length = c.length := by rw [mid.left, plC_length]
      have hrows := mid.few
      have hkl : (plK r1 r2 u left).length = u.length := plK_length _ _
      have hkx : ∀ x ∈ plK r1 r2 u left, x < left.length := fun x hx => by
        rcases Nat.lt_or_ge x left.length with q | q
        · exact q
        · have h3 := s2 x
          have h0 : left.getD x 0 = 0 := by rw [List.getD_eq_getElem?_getD, List.getElem?_eq_none q]; rfl
          have h4 : 0 < (plK r1 r2 u left).count x := List.count_pos_iff.mpr hx
          have h5 : 1 ≤ likeN left (plK r1 r2 u left) t * (plK r1 r2 u left).count x := Nat.mul_pos s4 h4
          omega
      have ho1 : plC r1 r2 (List.replicate 1 u).flatten left = plC r1 r2 u left := by simp
      rw [hlen] at hkx
      generalize hks : plK r1 r2 u left = ks at *
      generalize hm : likeN left ks t = m at *
      refine dq_asg (d := tupP K [plP K (LN ks), dP K (.list (LN (plC r1 r2 u left)))]) (vs := [7, 8]) (by rw [← hks]; exact ev_call (by walk_at "ea") (gOne.mk left r1 r2 u (by rw [hlen]; exact h1) (by rw [hlen]; exact h2) s3 q2) (.inl rfl)) (gt_tup (gts_cons (gt_name (by simp)) (gts_cons (gt_name (by simp)) gts_nil)) rfl) ?_
      simp only [List.set_cons_zero, List.set_cons_succ]
      refine dq_setV (d := dP K (nI m)) (by rw [← hm]; exact ev_call (by walk_at "ea") (gLike.mk left ks t (by rw [hlen]; exact hkx) (by omega)) (.inl rfl)) ?_
      simp only [List.set_cons_zero, List.set_cons_succ]
      refine dq_append (K := K) (ds := rows.map rowD) (x := rowD (Row.mk u ks m)) rfl (ev_tupD (ds := [.str (SW u), .tuple (LN ks), nI m]) (eva_cons (by walk_at "ev") (eva_cons (ev_pl (by walk_at "ev")) (eva_cons (by walk_at "ev") eva_nil))) (by show 3 ≤ sizeLine; decide)) (by rw [List.length_map]; exact small1000 (by omega)) ?_
      simp only [List.set_cons_zero, List.set_cons_succ]
      have e1 : rows.map rowD ++ [rowD (Row.mk u ks m)] = (rows ++ [Row.mk u ks m]).map rowD := by simp
      rw [e1]
      have e2 : D0 ++ (List.replicate j u).flatten ++ (List.replicate m u).flatten = D0 ++ (List.replicate (j + m) u).flatten := by rw [rep_add, List.append_assoc]
      rw [e2] at s1
      refine ds_seq (ds_ifB (b := decide ((1 : Int) < (m : Nat))) (evt_test (K := K) (by walk_at "ev")) (fun hb => ?_) fun hb => ?_)
      · refine ds_set (c := .own (ownL K (LN (plC r1 r2 (List.replicate m u).flatten left)))) (evc_eqL (evc_mapF (K := K) (evi_enum (ds := LN left) (by walk_at "ev") itd_l) (fun i => nI (left.getD i 0 - m * ks.count i)) (by rw [LN_length, hlen]; have := h1.few; omega) fun i hi => ?_) ?_) ?_
        · rw [LN_length] at hi
          rw [LN_getD hi]
          have := s2 i
          exact ⟨_, gt2, el_subN (by walk_at "ev") (el_mulN (by walk_at "ev") (ev_eq (ev_tcnt (ns := ZN ks) (k := (i : Nat)) (by walk_at "ev") (ev_eq (by walk_at "ev") (by simp))) (by rw [ZN_count])) (by omega)) (by omega)⟩
        · rw [LN_length]
          have e3 : (List.range left.length).map (fun i => left.getD i 0 - m * ks.count i) = plC r1 r2 (List.replicate m u).flatten left := by
            refine ext_getD (by simp [plC_length]) fun x hx => ?_
            have := s2 x
            have hx' : x < left.length := by simpa using hx
            rw [List.getD_eq_getElem?_getD, List.getElem?_map, List.getElem?_range hx']
            show left.getD x 0 - m * ks.count x = _
            omega
          rw [← e3]
          simp only [LN, List.map_map]
          rfl
        · simp only [List.set_cons_zero, List.set_cons_succ]
          refine ds_frz 8 (K := K) (ds := LN (plC r1 r2 (List.replicate m u).flatten left)) rfl ?_
          simp only [List.set_cons_zero, List.set_cons_succ]
          refine ds_par (c := .val (dP K (.list (LN (plC r1 r2 (List.replicate m u).flatten left))))) (c2 := .val (dP K (nI (t - m)))) (EvC.of (by walk_at "ev")) (EvC.of (el_subN (by walk_at "ev") (by walk_at "ev") s5)) (by decide) ?_
          exact ⟨(t - m, rows ++ [Row.mk u ks m], plC r1 r2 (List.replicate m u).flatten left), by show t - m < t; omega, ⟨j + m, by show j + m + (t - m) = T; omega, s1⟩, by walk_at "le"⟩
      · have hm1 : m = 1 := by simp at hb; omega
        subst hm1
        rw [ho1] at s1
        refine ds_next ?_
        refine ds_par (c := .val (dP K (.list (LN (plC r1 r2 u left))))) (c2 := .val (dP K (nI (t - 1)))) (EvC.of (by walk_at "ev")) (EvC.of (el_subN (by walk_at "ev") (by walk_at "ev") s5)) (by decide) ?_
        exact ⟨(t - 1, rows ++ [Row.mk u ks 1], plC r1 r2 u left), by show t - 1 < t; omega, ⟨j + 1, by show j + 1 + (t - 1) = T; omega, s1⟩, by walk_at "le"⟩
  · obtain ⟨rows, left, mid, hle⟩ := hI
    have e : (BD bs).length = bs.length := by simp [BD]
    rw [e, List.take_length] at mid
    refine ds_le hle ?_
    refine ds_frz 4 (K := K) (ds := rows.map rowD) rfl ?_
    simp only [List.set_cons_zero, List.set_cons_succ]
    exact ds_retS (d' := dP K (.list (rows.map rowD))) (d := exP fun rows : { rows : List Row // RowsOk r1 r2 c (flat bs) rows } => dP K (.list (rows.1.map rowD))) (by walk_at "ev") (fun F v hv => ⟨⟨rows, mid.rows⟩, hv⟩)
end
end TPE
end
section
set_option maxHeartbeats 400000
namespace TPE
open PySem PySem.Spec PyProof.Rows L2 TPI TPZ RT
abbrev kA : Key := .inr (SW [true])
abbrev kB : Key := .inr (SW [false])
/-- a dict of two own lists, by the players -/
def ownD (K : PySem.W.Frag) (a b : List PyData) : OP where
  hold fp F H v := ∃ (d la lb : Addr) (va vb : List V), fp = [d, la, lb] ∧ d ≠ la ∧ d ≠ lb ∧ la ≠ lb ∧ v = .ref d ∧ H d = some (.dK [(kA, .ref la), (kB, .ref lb)]) ∧ H la = some (.lst va) ∧ H lb = some (.lst vb) ∧ DpAll K F va a ∧ DpAll K F vb b
  mono := by
    rintro fp F F' H H' v e k ⟨d, la, lb, va, vb, rfl, n1, n2, n3, rfl, h1, h2, h3, h4, h5⟩
    exact ⟨d, la, lb, va, vb, rfl, n1, n2, n3, rfl, k _ (by simp) _ h1, k _ (by simp) _ h2, k _ (by simp) _ h3, dpAll_same e _ _ h4, dpAll_same e _ _ h5⟩
theorem valAB {x y : V} (p : Bool) : valV [(kA, x), (kB, y)] (Sum.inr (SW [p]) : Key) = some (if p then x else y) := by
  cases p
  · rw [valV_neg (by intro e; have := SW_inj (Sum.inr.inj e); cases this), valV_pos rfl]; rfl
  · rw [valV_pos rfl]; rfl
section
variable {M : Option Addr} {K : PySem.W.Frag} {Γ Γ' : List Slt} {t ta tb te ti tk tv tl : TE} {P : Po} {ds a b : List PyData} {wi : TI} {g : TG} {vs : List Nat} {it : Nat → Pd}
/-- a new content at an address that slot i owns -/
theorem Sta.mutG [Tb] {B : Hp} {O0 O : Addr → Prop} {σ : L2.St} {H : Hp} (E : Sta M B O0 O Γ σ H) {i : Nat} {S S' : OP} (h : Γ[i]? = some (.own S)) : ∃ (fp : List Addr) (v : V), σ[i]? = some (some v) ∧ S.hold fp (wo H O) H v ∧
    ∀ (l : Addr) (o : HO), l ∈ fp → Pln H l → (∀ F, Same (wo H O) F → S'.hold fp F (upd H l o) v) → Sta M B O0 O (Γ.set i (.own S')) σ (upd H l o) := by
  obtain ⟨fp, h1, h2⟩ := E.own
  obtain ⟨⟨v, h3, h4⟩, h8⟩ := h1 i _ h
  have hi : i < Γ.length := by
    rcases Nat.lt_or_ge i Γ.length with z | z
    · exact z
    · rw [List.getElem?_eq_none z] at h; cases h
  refine ⟨fp i, v, h3, h4, fun l o hlf hpl hnew => ?_⟩
  have hl := h8 l hlf
  have sm : ∀ a, a ≠ l → upd H l o a = H a := fun a z => upd_ne z
  have sw : Same (wo H O) (wo (upd H l o) O) := wo_same fun a x q1 q2 => ⟨q1, by rw [sm a fun e => q1 (e ▸ hl.1)]; exact q2⟩
  have hlB : B l = none := (E.outs l hl.1).resolve_left hl.2
  have hlM : ¬ Mu M l := fun e => hl.2 (E.src l e).2
  refine ⟨by simp [E.len], fun a x hM hB => ?_, fun x e => ⟨?_, (E.src x e).2⟩, E.sub, fun a z => ?_, E.outs, fun j d q => ?_, fp, fun j T q => ?_, fun j k T T' hjk q q' => ?_⟩
  · rw [sm a fun e => by subst e; rw [hlB] at hB; cases hB]
    exact E.base a x hM hB
  · exact (E.src x e).1.updP (fun e2 => hlM (e2 ▸ e)) hpl
  · by_cases e : a = l
    · subst e; rw [upd_same]; exact fun z => nomatch z
    · rw [sm a e]; exact E.live a z
  · by_cases e : i = j
    · subst e
      rw [List.getElem?_set_self hi] at q
      cases q
    · rw [List.getElem?_set_ne e] at q
      obtain ⟨w, q1, q2⟩ := E.val j d q
      exact ⟨w, q1, d.mono sw q2⟩
  · by_cases e : i = j
    · subst e
      rw [List.getElem?_set_self hi] at q
      cases q
      exact ⟨⟨_, h3, hnew _ sw⟩, h8⟩
    · rw [List.getElem?_set_ne e] at q
      obtain ⟨⟨w, q1, q2⟩, q3⟩ := h1 j T q
      refine ⟨⟨w, q1, T.mono sw (fun a ha x hx => ?_) q2⟩, q3⟩
      rw [sm a fun e2 => h2 i j _ _ e h q l hlf (e2 ▸ ha)]
      exact hx
  · have hh : ∀ {k : Nat} {T : OP}, (Γ.set i (Slt.own S'))[k]? = some (.own T) → ∃ T0, Γ[k]? = some (.own T0) := fun {k T} z => by
      by_cases e : i = k
      · subst e; exact ⟨_, h⟩
      · rw [List.getElem?_set_ne e] at z; exact ⟨T, z⟩
    obtain ⟨T0, z0⟩ := hh q
    obtain ⟨T1, z1⟩ := hh q'
    exact h2 j k T0 T1 hjk z0 z1
/-- found[player] -/
theorem ev_dget [Tb] {i : Nat} {p : Bool} (h : Γ[i]? = some (.own (ownD K a b))) (hk : Ev M tk Γ (dP K (pD p))) : EvJ M (tDGet (tVar i) tk) Γ (jq K .l (if p then a else b)) := fun B O0 O σ H E Q q => by
  obtain ⟨v0, h0, _⟩ : ∃ v, σ[i]? = some (some v) ∧ True := by
    obtain ⟨fp, h1, _⟩ := E.own
    obtain ⟨⟨v, h2, _⟩, _⟩ := h1 i _ h
    exact ⟨v, h2, trivial⟩
  refine ⟨v0, h0, hk B O0 O σ H E _ fun y O1 H1 s hy => ?_⟩
  have hy : Dp K (wo H1 O1) y (pD p) := hy
  cases hy
  have E1 := E.step s
  obtain ⟨fp, h1, _⟩ := E1.own
  obtain ⟨⟨v, h2, d, la, lb, va, vb, e, n1, n2, n3, rfl, g1, g2, g3, g4, g5⟩, h3⟩ := h1 i _ h
  rw [h0] at h2
  cases h2
  have hM : ∀ z ∈ fp i, ¬ Mu M z := fun z hz e2 => (h3 z hz).2 (E1.src z e2).2
  refine ⟨d, if p then .ref la else .ref lb, rfl, ?_, ?_⟩
  · have := DGet.k (k := (Sum.inr (SW [p]) : Key)) g1
    rw [valAB] at this
    exact this
  · cases p
    · exact q _ O1 H1 s ⟨lb, vb, rfl, SqL.of (by show wo H1 _ lb = _; rw [wo_out (hM lb (by rw [e]; simp))]; exact g3), g5⟩
    · exact q _ O1 H1 s ⟨la, va, rfl, SqL.of (by show wo H1 _ la = _; rw [wo_out (hM la (by rw [e]; simp))]; exact g2), g4⟩
/-- found[player][kind] += e -/
theorem ds_augD [Tb] {f : Int → Int → Int} {i k : Nat} {p : Bool} {x y : Int} (h : Γ[i]? = some (.own (ownD K a b))) (hl : Ev M tl Γ (dP K (pD p))) (hi : Ev M ti Γ (dP K (nI k))) (hk : k < (if p then a else b).length) (ha : (if p then a else b)[k]? = some (.int x)) (he : Ev M te Γ (dP K (.int y)))
    (hn : P.nx (Γ.set i (.own (ownD K (if p then a.set k (.int (f x y)) else a) (if p then b else b.set k (.int (f x y))))))) : Ds M (tAugS (tDGet (tVar i) tl) ti te (rGetL K) (ipI f) rSetL) Γ P := fun B O0 O σ H E D pk => by
  obtain ⟨v0, h0, _⟩ : ∃ v, σ[i]? = some (some v) ∧ True := by
    obtain ⟨fp, h1, _⟩ := E.own
    obtain ⟨⟨v, h2, _⟩, _⟩ := h1 i _ h
    exact ⟨v, h2, trivial⟩
  refine ⟨v0, h0, hl B O0 O σ H E _ fun yv O1 H1 s hy => ?_⟩
  have hy : Dp K (wo H1 O1) yv (pD p) := hy
  cases hy
  have E1 := E.step s
  obtain ⟨fp, h1, _⟩ := E1.own
  obtain ⟨⟨v, h2, d, la, lb, va, vb, e, n1, n2, n3, rfl, g1, g2, g3, g4, g5⟩, h3⟩ := h1 i _ h
  rw [h0] at h2
  cases h2
  have hM : ∀ z ∈ fp i, ¬ Mu M z := fun z hz e2 => (h3 z hz).2 (E1.src z e2).2
  refine ⟨d, if p then .ref la else .ref lb, rfl, ?_, ?_⟩
  · have := DGet.k (k := (Sum.inr (SW [p]) : Key)) g1
    rw [valAB] at this
    exact this
  refine hi B O0 O1 σ H1 E1 _ fun w O2 H2 s2 hw => ?_
  have hw : Dp K (wo H2 O2) w (nI k) := hw
  cases hw
  have k2 : ∀ z ∈ fp i, ∀ o, H1 z = some o → H2 z = some o := fun z hz o ho => s2.rl.1 z o (hM z hz) ho
  have g4' := dpAll_same s2.same _ _ g4
  have g5' := dpAll_same s2.same _ _ g5
  -- the item that stands there
  have hget : ∃ xs, SqL K H2 (if p then la else lb) xs ∧ atI xs (k : Int) = some (.int x) := by
    cases p
    · obtain ⟨u, q1, q2⟩ := g5'.get ha
      cases q2
      exact ⟨vb, SqL.of (k2 lb (by rw [e]; simp) _ g3), atI_nat q1⟩
    · obtain ⟨u, q1, q2⟩ := g4'.get ha
      cases q2
      exact ⟨va, SqL.of (k2 la (by rw [e]; simp) _ g2), atI_nat q1⟩
  obtain ⟨xs, hx1, hx2⟩ := hget
  refine ⟨if p then la else lb, xs, k, .int x, by cases p <;> rfl, rfl, hx1, by omega, hx2, ?_⟩
  refine he B O0 O2 σ H2 (E1.step s2) _ fun u O3 H3 s3 hu => ?_
  have hu : Dp K (wo H3 O3) u (.int y) := hu
  cases hu
  refine ⟨x, y, rfl, rfl, ?_⟩
  have E3 := (E1.step s2).step s3
  have k3 : ∀ z ∈ fp i, ∀ o, H1 z = some o → H3 z = some o := fun z hz o ho => s3.rl.1 z o (hM z hz) (k2 z hz o ho)
  obtain ⟨fp', v', q1, q2, q3⟩ := E3.mutG (S' := ownD K (if p then a.set k (.int (f x y)) else a) (if p then b else b.set k (.int (f x y)))) h
  rw [h0] at q1
  cases q1
  obtain ⟨d', la', lb', va', vb', e', m1, m2, m3, ed, p1, p2, p3, p4, p5⟩ := q2
  cases ed
  rw [k3 d (by rw [e]; simp) _ g1] at p1
  cases p1
  have c1 := k3 la (by rw [e]; simp) _ g2
  have c2 := k3 lb (by rw [e]; simp) _ g3
  rw [c1] at p2
  cases p2
  rw [c2] at p3
  cases p3
  cases p
  · refine ⟨lb, vb, k, k, rfl, rfl, c2, by rw [g5.length]; exact ixN_nat hk, ?_⟩
    refine pk.nx _ _ _ O3 hn (q3 lb _ (by rw [e']; simp) (.lst c2) fun F sF => ⟨d, la, lb, va, vb.set k (.int (f x y)), e', n1, n2, n3, rfl, ?_, ?_, upd_same, dpAll_same sF _ _ p4, (dpAll_same sF _ _ p5).set k (.int _)⟩)
    · rw [upd_ne n2]; exact k3 d (by rw [e]; simp) _ g1
    · rw [upd_ne n3]; exact c1
  · refine ⟨la, va, k, k, rfl, rfl, c1, by rw [g4.length]; exact ixN_nat hk, ?_⟩
    refine pk.nx _ _ _ O3 hn (q3 la _ (by rw [e']; simp) (.lst c1) fun F sF => ⟨d, la, lb, va.set k (.int (f x y)), vb, e', n1, n2, n3, rfl, ?_, upd_same, ?_, (dpAll_same sF _ _ p4).set k (.int _), dpAll_same sF _ _ p5⟩)
    · rw [upd_ne n1]; exact k3 d (by rw [e]; simp) _ g1
    · rw [upd_ne (Ne.symm n3)]; exact c2
/-- {player: [..] for player in PLAYERS} -/
theorem evc_dc [Tb] (hi : EvI M wi Γ 2 it) (hs : ∀ i, i < 2 → ∃ Γ'', Gt M g vs (wipeG Γ vs) (it i) Γ'' ∧ Ev M tk Γ'' (dP K (pD (i == 0))) ∧ EvC M tv Γ'' (.own (ownL K ds))) : EvC M (tDc wi g tYes tk tv vs) Γ (.own (ownD K ds ds)) := fun B O0 O σ H E Q q => by
  refine hi B O0 O σ H E _ fun J O1 H1 s wk D hD => ?_
  have E1 := E.step s
  have s0 := E1.laidO (o := .dK []) hD
  have hDM : ¬ Mu M D := fun e => E1.live D (E1.srcO D e).1 hD
  -- the lists made so far
  refine ⟨fun i m H' => m = 2 - i ∧ i ≤ 2 ∧ ∃ O', Stp M O1 H1 O' H' ∧ O' D ∧
    ((i = 0 ∧ H' D = some (.dK [])) ∨ (i = 1 ∧ ∃ la va, H' D = some (.dK [(kA, .ref la)]) ∧ la ≠ D ∧ O' la ∧ ¬ O1 la ∧ H' la = some (.lst va) ∧ DpAll K (wo H' O') va ds) ∨
     (i = 2 ∧ ∃ la lb va vb, H' D = some (.dK [(kA, .ref la), (kB, .ref lb)]) ∧ la ≠ D ∧ lb ≠ D ∧ la ≠ lb ∧ O' la ∧ O' lb ∧ ¬ O1 la ∧ ¬ O1 lb ∧ H' la = some (.lst va) ∧ H' lb = some (.lst vb) ∧ DpAll K (wo H' O') va ds ∧ DpAll K (wo H' O') vb ds)),
    ⟨2, rfl, by omega, _, s0, .inr rfl, .inl ⟨rfl, upd_same⟩⟩, ?_⟩
  rintro i m H' ⟨rfl, hin, O', s1, hO, hc⟩
  have sF : Same (wo H1 O1) (wo H' O') := s1.same
  by_cases hlt : i < 2
  · refine .inr ⟨wk.goes i H' hlt (sF.trans wo_sub), fun H' => i + 1 ≤ 2 ∧ ∃ O', Stp M O1 H1 O' H' ∧ O' D ∧
      ((i + 1 = 0 ∧ H' D = some (.dK [])) ∨ (i + 1 = 1 ∧ ∃ la va, H' D = some (.dK [(kA, .ref la)]) ∧ la ≠ D ∧ O' la ∧ ¬ O1 la ∧ H' la = some (.lst va) ∧ DpAll K (wo H' O') va ds) ∨
       (i + 1 = 2 ∧ ∃ la lb va vb, H' D = some (.dK [(kA, .ref la), (kB, .ref lb)]) ∧ la ≠ D ∧ lb ≠ D ∧ la ≠ lb ∧ O' la ∧ O' lb ∧ ¬ O1 la ∧ ¬ O1 lb ∧ H' la = some (.lst va) ∧ H' lb = some (.lst vb) ∧ DpAll K (wo H' O') va ds ∧ DpAll K (wo H' O') vb ds)),
      fun H2 h => ⟨2 - (i + 1), by omega, rfl, h⟩, fun x H2 y => ?_⟩
    have E' := E1.step s1
    obtain ⟨q1, q2⟩ := wk.yields i H' x H2 hlt (sF.trans wo_sub) y
    have hx := q2 O' E'.live sF
    have st2 : Stp M O' H' O' H2 := .of_rl E' (.of q1)
    have E2 := (E'.step st2).wipe vs
    obtain ⟨Γ'', hg, hk, hv⟩ := hs i hlt
    refine hg B O0 O' _ H2 x E2 hx _ fun σ2 E3 kσ => ⟨?_, ?_⟩
    · have e : L2.wipe (L2.wipe σ vs) vs = L2.wipe σ vs := wipe_eq vs (wipe_length σ vs) fun i hi => wipe_out hi
      exact (wipe_eq vs kσ.1 kσ.2).trans e
    unfold tYes
    dsimp only
    rw [if_pos rfl]
    refine hk B O0 O' σ2 H2 E3 _ fun yv O3 H3 s3 hy => ?_
    have hy : Dp K (wo H3 O3) yv (pD (i == 0)) := hy
    cases hy
    refine hv B O0 O3 σ2 H3 (E3.step s3) _ fun z O4 H4 s4 hz => ?_
    obtain ⟨fp, ⟨l, va, rfl, rfl, hl, hd⟩, hfp⟩ := hz
    have hfl := hfp l (by simp)
    have s24 := (st2.trans s3).trans s4
    have s14 := s1.trans s24
    have keep : ∀ {z o}, ¬ Mu M z → H' z = some o → H4 z = some o := fun {z o} hM ho => s24.rl.1 z o hM ho
    have hDl : l ≠ D := fun e => hfl.2 (by rw [e]; exact s3.up D hO)
    have notO1 : ∀ {z}, ¬ O3 z → ¬ O1 z := fun {z} h3 h1 => h3 (s3.up z (s1.up z h1))
    have fin : ∀ o : HO, Pln H4 D → Stp M O1 H1 O4 (upd H4 D o) := fun o hpl => by
      refine ⟨⟨fun a x hM h => ?_, fun z e hz => ?_⟩, s14.src, s14.up, s14.new, fun a h => ?_⟩
      · rw [upd_ne (ne_of_none h hD)]
        exact s14.rl.1 a x hM h
      · have hne : z ≠ D := fun e2 => hDM (by rw [← e2]; exact e)
        exact (s14.rl.2 z e hz).updP hne hpl
      · by_cases e : a = D
        · subst e; rw [upd_same]; exact fun z => nomatch z
        · rw [upd_ne e]; exact s14.live a h
    have sD : ∀ o : HO, Same (wo H4 O4) (wo (upd H4 D o) O4) := fun o => wo_same fun a x h1 h2 => ⟨h1, by rw [upd_ne fun (e : a = D) => h1 (by rw [e]; exact s24.up D hO)]; exact h2⟩
    rcases hc with ⟨rfl, hc⟩ | ⟨rfl, la, wa, hc, na, oa, o1a, ha, da⟩ | ⟨rfl, _⟩
    · refine ⟨[], Sum.inr (SW [true]), rfl, keep hDM hc, by show 0 < sizeLine; decide, by omega, O4, fin _ (.dK (keep hDM hc)), s24.up D hO, .inr (.inl ⟨rfl, l, va, ?_, hDl, hfl.1, notO1 hfl.2, ?_, dpAll_same (sD _) _ _ hd⟩)⟩
      · rw [upd_same]; rfl
      · rw [upd_ne hDl]; exact hl
    · have hla : ¬ Mu M la := fun e => o1a (s1.src la e).1
      have nl : la ≠ l := fun e => hfl.2 (by rw [← e]; exact s3.up la oa)
      refine ⟨[(kA, .ref la)], Sum.inr (SW [false]), rfl, keep hDM hc, by show 1 < sizeLine; decide, by omega, O4, fin _ (.dK (keep hDM hc)), s24.up D hO, .inr (.inr ⟨rfl, la, l, wa, va, ?_, na, hDl, nl, s24.up la oa, hfl.1, o1a, notO1 hfl.2, ?_, ?_, dpAll_same ((s24.same).trans (sD _)) _ _ da, dpAll_same (sD _) _ _ hd⟩)⟩
      · rw [upd_same]
        rfl
      · rw [upd_ne na]; exact keep hla ha
      · rw [upd_ne hDl]; exact hl
    · omega
  · have e : i = 2 := by omega
    subst e
    rcases hc with ⟨h, _⟩ | ⟨h, _⟩ | ⟨_, la, lb, va, vb, h1, n1, n2, n3, oa, ob, o1a, o1b, h2, h3, h4, h5⟩
    · cases h
    · cases h
    · refine .inl ⟨wk.stops H' (sF.trans wo_sub), q _ O' H' (s.trans s1) ⟨[D, la, lb], ⟨D, la, lb, va, vb, rfl, Ne.symm n1, Ne.symm n2, n3, rfl, h1, h2, h3, h4, h5⟩, fun z hz => ?_⟩⟩
      have hz : z = D ∨ z = la ∨ z = lb := by simpa using hz
      rcases hz with rfl | rfl | rfl
      · exact ⟨hO, fun z => E1.live _ (s.up _ z) hD⟩
      · exact ⟨oa, fun z => o1a (s.up _ z)⟩
      · exact ⟨ob, fun z => o1b (s.up _ z)⟩
end
/-! ### name = {..} on one line, the name a local -/
section
variable {X : Cx}
theorem ps_setDc {i : Nat} {y : Str} {py : Pos} {kx vx tg iter : Expr} {ifs : List Expr} {scope : Scope} {own : List (Str × Nat)} {pos spos : Pos} {wi : TI} {g : TG} {tt : TT} {tk tv : TE} (hc : X.calm = true) (hN : X.N.Nodup) (hy : X.N[i]? = some y) (hyl : X.env.scope.names.lookup y = some .local)
    (hsw : swapsWith (.DictComp kx vx [⟨tg, iter, ifs, 0⟩] scope pos) (some (.Name y py)) spos.line X.env = pure true) (hi : PI X tg iter wi) (ok : BlkOk X.N X.env.scope scope own)
    (hg : ∀ (s : Shared) (H : Hp) (C : Addr) (cl : List (Str × Addr)) (fp : List Addr), PG (X.blk s H scope (compEnvC scope cl C X.env) fp) tg g) (ht : ∀ (s : Shared) (H : Hp) (C : Addr) (cl : List (Str × Addr)) (fp : List Addr), PTs (X.blk s H scope (compEnvC scope cl C X.env) fp) ifs tt)
    (hk : ∀ (s : Shared) (H : Hp) (C : Addr) (cl : List (Str × Addr)) (fp : List Addr), PE (X.blk s H scope (compEnvC scope cl C X.env) fp) kx tk)
    (he : ∀ (s : Shared) (H : Hp) (C : Addr) (cl : List (Str × Addr)) (fp : List Addr), PE (X.blk s H scope (compEnvC scope cl C X.env) fp) vx tv) (hs : ∀ x, foldedSetIterable iter X.env x = pure x := by intro _; rfl) :
    PS X (.Assign [.Name y py] (.DictComp kx vx [⟨tg, iter, ifs, 0⟩] scope pos) spos) (tAsg (tDc wi g tt tk tv (own.map (·.2))) (gName i)) := by
  refine ⟨fun pins s σ H D I h => ?_⟩
  rw [exec_Assign_Name_used _ _ _ _ hsw]
  refine wpAny_bind (wpAny_standAt (wpAny_bind ?_))
  show wpAny _ X.A (do let _ ← comprehension (.DictComp kx vx [⟨tg, iter, ifs, 0⟩] scope pos) scope X.env (firstIterPos [⟨tg, iter, ifs, 0⟩] pos) newDict false (eval iter X.env) (some (assign (.Name y py) X.env))) _ _ s
  have h : tDc wi g tt tk tv (own.map (·.2)) σ H (fun x H1 => gName i x σ H1 D.nx) := h
  refine wpAny_bind (thn (dc_core (Qf := fun _ s' => SP X pins D .next s') hc hN I hi ok hg ht hk he hs h fun L C s' m H' I' q hn f => ?_) fun _ s' hq => wpAny_pure (wpAny_pure hq))
  show wpAny _ _ (assign (.Name y py) X.env (.ref L)) _ _ _
  refine wpAny_assign_Name (store_ok2 (v := V.ref L) I' hN hy (.inl hyl) rfl (fun s2 I2 ⟨a, sb, ha⟩ => ?_) (.inr hyl))
  obtain ⟨f0, f1, f2, f3, f4, f5⟩ := f
  have haC : C ≠ a := by
    rcases ha with z | z
    · rw [z]; exact f1
    · exact fun e => f4 y a z e.symm
  refine ⟨m, hn.sameBut sb haC, fun h3 sb3 => ?_⟩
  exact ⟨_, H', I2.turned (t' := s2.toks) (fun b o hb e => (sb3.2 b hb).trans e) f0 f1 f3 f4 f5, q⟩
theorem swD_true {kx vx : Expr} {gs : List Comprehension} {scope : Scope} {pos py : Pos} {y : Str} {l : Nat} {env : Env} (hk : env.scope.kind = .function) (hy : env.scope.names.lookup y = some .local) (hl : (py.line == pos.line) = true)
    (ha : (scope.names.any fun (n, k) => n == y && (k == .local || k == .cell)) = false) : swapsWith (.DictComp kx vx gs scope pos) (some (.Name y py)) l env = pure true := by
  have ky : env.kindOf y = some .local := hy
  have hb : env.blockKind = .function := by unfold Env.blockKind; rw [hk]; rfl
  unfold swapsWith
  simp only [hb, ky, ha, Expr.pos, hl]
  rfl
end
/-! ### numbers by the place -/
def vN (k : Nat) (f : Nat → Nat) : List Nat := (List.range k).map f
theorem vN_length {k : Nat} {f : Nat → Nat} : (vN k f).length = k := by simp [vN]
theorem vN_get {k x : Nat} {f : Nat → Nat} (h : x < k) : (vN k f).getD x 0 = f x := by
  unfold vN
  rw [List.getD_eq_getElem?_getD, List.getElem?_map, List.getElem?_range h]
  rfl
theorem vN_set {k x v : Nat} {f : Nat → Nat} : (vN k f).set x v = vN k fun y => if y = x then v else f y := by
  apply List.ext_getElem
  · simp [vN]
  · intro i h1 h2
    simp only [vN, List.getElem_set, List.getElem_map, List.getElem_range]
    by_cases e : x = i
    · subst e; simp
    · rw [if_neg e, if_neg (Ne.symm e)]
theorem vN_eq {k : Nat} {f g : Nat → Nat} (h : ∀ x, x < k → f x = g x) : vN k f = vN k g := by
  unfold vN
  apply List.map_congr_left
  intro x hx
  exact h x (List.mem_range.mp hx)
theorem vN_of (c : List Nat) : vN c.length (fun x => c.getD x 0) = c := ext_getD (by simp [vN]) fun x hx => vN_get (by simpa [vN] using hx)
theorem rep_vN (k : Nat) : List.replicate k 0 = vN k fun _ => 0 := by
  apply List.ext_getElem
  · simp [vN]
  · intro i h1 h2; simp [vN]
/-! ### pairs of a player and a kind -/
/-- the bundle of p: how many of each kind it took -/
def bndl (k : Nat) (Z : List (Bool × Nat)) (p : Bool) : List Nat := vN k fun x => Z.count (p, x)
def rZ (rows : List Row) : List (Bool × Nat) := (rows.map fun r => (List.replicate r.m (r.u.zip r.ks)).flatten).flatten
theorem zip_rep {α β : Type} (u : List α) (v : List β) (h : u.length = v.length) : ∀ m : Nat, (List.replicate m u).flatten.zip (List.replicate m v).flatten = (List.replicate m (u.zip v)).flatten
  | 0 => rfl
  | m + 1 => by
    rw [List.replicate_succ, List.replicate_succ, List.replicate_succ, List.flatten_cons, List.flatten_cons, List.flatten_cons, List.zip_append h, zip_rep u v h m]
theorem rZ_eq : ∀ {rows : List Row}, (∀ r ∈ rows, r.ks.length = r.u.length) → (rW rows).zip (rK rows) = rZ rows
  | [], _ => rfl
  | r :: rows, h => by
    have e1 : rW (r :: rows) = (List.replicate r.m r.u).flatten ++ rW rows := by simp [rW]
    have e2 : rK (r :: rows) = (List.replicate r.m r.ks).flatten ++ rK rows := by simp [rK]
    have e3 : rZ (r :: rows) = (List.replicate r.m (r.u.zip r.ks)).flatten ++ rZ rows := by simp [rZ]
    have hr := h r List.mem_cons_self
    rw [e1, e2, e3, List.zip_append (by rw [rep_length, rep_length, hr]), zip_rep _ _ hr.symm, rZ_eq fun z hz => h z (List.mem_cons_of_mem _ hz)]
theorem cnt_repZ {α : Type} [BEq α] (Z : List α) (z : α) : ∀ m : Nat, (List.replicate m Z).flatten.count z = m * Z.count z
  | 0 => by simp
  | m + 1 => by rw [List.replicate_succ, List.flatten_cons, List.count_append, cnt_repZ Z z m, Nat.succ_mul, Nat.add_comm]
theorem cnt_pair : ∀ (Z : List (Bool × Nat)) (x : Nat), Z.count (true, x) + Z.count (false, x) = (Z.map Prod.snd).count x
  | [], _ => rfl
  | (p, y) :: Z, x => by
    have ih := cnt_pair Z x
    rw [List.map_cons, List.count_cons, List.count_cons, List.count_cons, ← ih]
    have e1 : ((p, y) == (true, x)) = (p && (y == x)) := by cases p <;> rfl
    have e2 : ((p, y) == (false, x)) = (!p && (y == x)) := by cases p <;> rfl
    show _ + (if ((p, y) == (true, x)) = true then 1 else 0) + (_ + if ((p, y) == (false, x)) = true then 1 else 0) = _ + if (y == x) = true then 1 else 0
    rw [e1, e2]
    cases p <;> cases (y == x) <;> simp <;> omega
theorem gt13 [Tb] {M : Option Addr} {K : PySem.W.Frag} {Γ : List Slt} {i j k l : Nat} {x a b c : PyData} : Gt M (gTup K 2 (gCons (gName i) (gCons (gTup K 3 (gCons (gName j) (gCons (gName k) (gCons (gName l) gNil)))) gNil))) [i, j, k, l] Γ (dP K (.tuple [x, .tuple [a, b, c]])) ((((Γ.set i (.val (dP K x))).set j (.val (dP K a))).set k (.val (dP K b))).set l (.val (dP K c))) :=
  gt_tupD (gts_cons (gt_name (by simp)) (gts_cons (gt_tupD (gts_cons (gt_name (by simp)) (gts_cons (gt_name (by simp)) (gts_cons (gt_name (by simp)) gts_nil))) rfl) gts_nil)) rfl
theorem rZ_app (a b : List Row) : rZ (a ++ b) = rZ a ++ rZ b := by simp [rZ]
theorem rZ_one (r : Row) : rZ [r] = (List.replicate r.m (r.u.zip r.ks)).flatten := by simp [rZ]
theorem rZ_take {rows : List Row} {i : Nat} (h : i < rows.length) : rZ (rows.take (i + 1)) = rZ (rows.take i) ++ (List.replicate rows[i].m (rows[i].u.zip rows[i].ks)).flatten := by
  rw [List.take_add_one, List.getElem?_eq_getElem h, rZ_app]
  show _ ++ rZ [rows[i]] = _
  rw [rZ_one]
theorem rZ_split {rows : List Row} {i : Nat} (h : i < rows.length) : rZ rows = rZ (rows.take i) ++ ((List.replicate rows[i].m (rows[i].u.zip rows[i].ks)).flatten ++ rZ (rows.drop (i + 1))) := by
  have e : rows = rows.take i ++ ([rows[i]] ++ rows.drop (i + 1)) := by
    have h1 := List.take_append_drop i rows
    rw [List.drop_eq_getElem_cons h] at h1
    exact h1.symm
  have e2 := congrArg rZ e
  rw [rZ_app, rZ_app, rZ_one] at e2
  exact e2
theorem LN_vset {k x v : Nat} {f : Nat → Nat} : (LN (vN k f)).set x (nI v) = LN (vN k fun y => if y = x then v else f y) := by rw [LN_set, vN_set]
/-- counts after a part of a row -/
def fP (Z Y : List (Bool × Nat)) (m : Nat) (p : Bool) (x : Nat) : Nat := Z.count (p, x) + m * Y.count (p, x)
def fK (Z Y : List (Bool × Nat)) (m : Nat) (x : Nat) : Nat := (Z.map Prod.snd).count x + m * (Y.map Prod.snd).count x
theorem fP_step {Z Y : List (Bool × Nat)} {m : Nat} {p : Bool} {x : Nat} : (fun y => if y = x then fP Z Y m p x + m else fP Z Y m p y) = fP Z (Y ++ [(p, x)]) m p := by
  funext y
  unfold fP
  rw [List.count_append, List.count_singleton]
  by_cases e : y = x
  · subst e; rw [if_pos rfl, beq_self_eq_true, if_pos rfl, Nat.mul_add, Nat.mul_one, Nat.add_assoc]
  · rw [if_neg e, if_neg (by simp [Ne.symm e])]
    simp
theorem fP_other {Z Y : List (Bool × Nat)} {m : Nat} {p q : Bool} {x : Nat} (h : p ≠ q) : fP Z (Y ++ [(p, x)]) m q = fP Z Y m q := by
  funext y
  unfold fP
  rw [List.count_append, List.count_singleton, if_neg (by simp [h])]
  simp
theorem fK_step {c : List Nat} {Z Y : List (Bool × Nat)} {m : Nat} {p : Bool} {x : Nat} (h : fK Z Y m x + m ≤ c.getD x 0) : (fun y => if y = x then c.getD x 0 - fK Z Y m x - m else c.getD y 0 - fK Z Y m y) = fun y => c.getD y 0 - fK Z (Y ++ [(p, x)]) m y := by
  funext y
  unfold fK at *
  rw [List.map_append, List.count_append]
  show _ = c.getD y 0 - (_ + m * (_ + [x].count y))
  rw [List.count_singleton]
  by_cases e : y = x
  · subst e; rw [if_pos rfl, beq_self_eq_true, if_pos rfl, Nat.mul_add, Nat.mul_one]; omega
  · rw [if_neg e, if_neg (by simpa using Ne.symm e)]
    simp
theorem Le.trans {a b c : List Slt} (h : Le a b) (h' : Le b c) : Le a c := by
  induction h generalizing c with
  | nil => exact h'
  | un _ ih =>
    cases h' with
    | un h' => exact .un (ih h')
    | eq e h' => subst e; exact .un (ih h')
  | eq e _ ih =>
    cases h' with
    | un h' => exact .un (ih h')
    | eq e' h' => exact .eq (e.trans e') (ih h')
end TPE
end
section
set_option maxHeartbeats 400000
namespace TPE
open PySem PySem.Spec PyProof.Rows L2 TPI TPZ RT
local macro_rules | `(tactic| walk_at "go") => `(tactic| (try dsimp only [cxK, cxKB, cxK2]); (try dsimp [Gam]); (try simp only [List.map_cons, List.map_nil, List.cons_append, List.nil_append]))
local macro_rules | `(tactic| walk_at "ev") => `(tactic| first
  | ((with_reducible apply ev_var); exact rfl)
  | with_reducible exact ev_int
  | with_reducible exact ev_str
  | with_reducible exact ev_bl
  | with_reducible exact ev_non
  | with_reducible exact ev_c
  | ((with_reducible apply el_i) <;> walk_at "ev")
  | ((with_reducible apply el_b) <;> walk_at "ev")
  | ((with_reducible apply el_eqI); (walk_at "ev"); (walk_at "ev"))
  | ((with_reducible apply el_neI); (walk_at "ev"); (walk_at "ev"))
  | ((with_reducible apply el_eqS); (walk_at "ev"); (walk_at "ev"))
  | ((with_reducible apply el_neS); (walk_at "ev"); (walk_at "ev"))
  | ((with_reducible apply ev_notV) <;> walk_at "ev")
  | ((with_reducible apply el_isi); (walk_at "ev"); exact rfl)
  | ((with_reducible apply el_len) <;> walk_at "ej")
  | (((with_reducible apply ev_aT); (walk_at "ev")))
  | (((with_reducible apply ev_aL); (walk_at "ev")))
  | (((with_reducible apply ev_aP); (walk_at "ev")))
  | (((with_reducible apply ev_pl); (walk_at "ev"))))
local macro_rules | `(tactic| walk_at "ej") => `(tactic| first
  | ((with_reducible apply ev_own); exact rfl)
  | ((with_reducible apply EvJ.q_s); walk_at "ev")
  | ((with_reducible apply EvJ.q_l); walk_at "ev")
  | ((with_reducible apply EvJ.q_t); walk_at "ev")
  | ((with_reducible apply evj); walk_at "ev"))
local macro_rules | `(tactic| walk_at "ea") => `(tactic| first
  | with_reducible exact eva_nil
  | ((with_reducible apply eva_cons); (walk_at "ev"); (walk_at "ea")))
local macro_rules | `(tactic| walk_at "et") => `(tactic| first
  | ((with_reducible apply evt_or); (walk_at "et"); (intro _; walk_at "et"))
  | ((with_reducible apply evt_and); (walk_at "et"); (intro _; walk_at "et"))
  | ((with_reducible apply evt_not); (walk_at "et"))
  | ((with_reducible apply evt_test); (walk_at "ev"))
  | ((with_reducible apply evt_tB); (walk_at "ev")))
local macro_rules | `(tactic| walk_at "le") => `(tactic| ((try simp only [List.set_cons_zero, List.set_cons_succ]); repeat' (first | exact Le.nil | (with_reducible apply Le.un) | (apply Le.eq rfl) | apply Le.eq)))
section
variable {P : Program} {w : World} {K : PySem.W.Frag} {mg : Str → Option Value} {base : Heap} {pA oA : Addr}
inductive gBund (K : PySem.W.Frag) : Option Addr → List Pd → Pd → Prop
  | mk (c : List Nat) (rows : List Row) (hc : c.length ≤ 60) (hz : rows.length ≤ 300) (hr : ∀ r ∈ rows, r.ks.length = r.u.length ∧ r.u.length ≤ 20) (hx : ∀ r ∈ rows, ∀ x ∈ r.ks, x < c.length) (hn : ∀ x, ((rZ rows).map Prod.snd).count x ≤ c.getD x 0) :
    gBund K none [sqA K (LN c), dP K (.list (rows.map rowD))] (tupP K [plP K (LN (bndl c.length (rZ rows) true)), plP K (LN (bndl c.length (rZ rows) false)), plP K (LN (vN c.length fun x => c.getD x 0 - ((rZ rows).map Prod.snd).count x))])
theorem sc_bund : FnScope ["counts", "course", "found", "left", "index", "turns", "kinds", "times", "letter", "kind", "player"] ["counts", "course"] (defScope (top 65)) := ⟨rfl, rfl, rfl, by decide +kernel, rfl, by decide +kernel, by decide +kernel⟩
-- slots: 0 counts*, 1 course, 2 found, 3 left, 4 index, 5 turns, 6 kinds, 7 times, 8 letter, 9 kind, 10 player
theorem w_bund [Tb] (B : Bi K mg pA oA) (D : FunG K mg "bundles_of" "bundles_of" (top 65)) : Okd P w K mg base 1 "bundles_of" ["counts", "course"] (gBund K) := by
  obtain ⟨f, fd, F, m⟩ := D
  refine ⟨f, fd, F.ok sc_bund (fun vs H Q E h => SpF.len (fun M ds d hg => by cases hg; rfl) h) (fun cdv A outer s H vs Q E hr h => ⟨_, PSs.nox ((pss_cons (ps_setDc (i := 2) (own := [("player", 10)]) (tv := (tOp _ _ (tCB (fun xs H Q => ∃ x n, xs = [x] ∧ LenV K x H n ∧ Q (.int n) H) (tCons _ tNil)))) rfl sc_bund.nd rfl rfl (swD_true rfl rfl rfl (by decide +kernel)) (pi_src (pe_globR rfl B.mPLAYERS)) (blkOk_by (own := [("player", 10)]) (N := ["counts", "course", "found", "left", "index", "turns", "kinds", "times", "letter", "kind", "player"]) (sc := defScope (top 65)) (by decide +kernel)) (fun _ _ _ _ _ => (pg_name (i := 10) sc_bund.nd rfl (by first | exact Or.inl rfl | exact Or.inr rfl))) (fun _ _ _ _ _ => pts_nil) (fun _ _ _ _ _ => (pv 10)) (fun _ _ _ _ _ => (pe_op op_rep (pe_lst (pa_cons pe_int pa_nil)) (pe_callB call_len rfl B.len (by decide +kernel) (pa_cons (pv 0) pa_nil)))))
    (pss_cons (ps_set (i := 3) sc_bund.nd rfl (by first | exact Or.inl rfl | exact Or.inr rfl) (pe_callTy call_list_of rfl B.list (by decide +kernel) (pa_cons (pv 0) pa_nil)))
    (pss_cons (ps_for PassesOwn.never rfl (pi_enumS rfl B.enumerate (pa_cons (pv 1) pa_nil)) (pg_tup rfl (pgs_cons (pg_name (i := 4) sc_bund.nd rfl (by first | exact Or.inl rfl | exact Or.inr rfl)) (pgs_cons (pg_tup rfl (pgs_cons (pg_name (i := 5) sc_bund.nd rfl (by first | exact Or.inl rfl | exact Or.inr rfl)) (pgs_cons (pg_name (i := 6) sc_bund.nd rfl (by first | exact Or.inl rfl | exact Or.inr rfl)) (pgs_cons (pg_name (i := 7) sc_bund.nd rfl (by first | exact Or.inl rfl | exact Or.inr rfl)) pgs_nil)))) pgs_nil)))
    (pss_one (ps_for PassesOwn.never rfl (pi_zipZ (pz_zipS rfl B.zip (pa_cons (pv 5) (pa_cons (pv 6) pa_nil)))) (pg_tup rfl (pgs_cons (pg_name (i := 8) sc_bund.nd rfl (by first | exact Or.inl rfl | exact Or.inr rfl)) (pgs_cons (pg_name (i := 9) sc_bund.nd rfl (by first | exact Or.inl rfl | exact Or.inr rfl)) pgs_nil)))
    (pss_cons (ps_augS (pe_dget (hu_of hr) (pv 2) (pv 8) (fun _ _ => rfl)) (pv 9) pget_list (pv 7) ip_add set_list)
    (pss_cons (ps_augS (pv 3) (pv 9) pget_list (pv 7) ip_sub set_list)
    (pss_one (ps_if (pt_cmpR op_lt (pe_ix ix_seq (pv 3) (pv 9) (fun _ _ => rfl)) pe_int (nomark _))
    (pss_one ps_never)
    pss_nil)))))))
    (pss_one (ps_ret (pe_tup (pa_cons (pe_callTy call_tupX rfl B.tuple (by decide +kernel) (pa_cons (pe_dget (hu_of hr) (pv 2) pe_str (fun _ _ => rfl)) pa_nil)) (pa_cons (pe_callTy call_tupX rfl B.tuple (by decide +kernel) (pa_cons (pe_dget (hu_of hr) (pv 2) pe_str (fun _ _ => rfl)) pa_nil)) (pa_cons (pe_callTy call_tupX rfl B.tuple (by decide +kernel) (pa_cons (pv 3) pa_nil)) pa_nil)))))))))), body_of (fun M ds d hg => ?_) h⟩), m, F.kp, F.bindsN (fun _ _ _ _ _ _ us hl => match us, hl with | [_, _], _ => rfl)⟩
  cases hg with
  | mk c rows hc hz hr hx hn =>
  refine ⟨by simp, ?_⟩
  walk_at "go"
  refine dq_set (c := .own (ownD K (LN (vN c.length fun _ => 0)) (LN (vN c.length fun _ => 0)))) (evc_dc (K := K) (ds := LN (vN c.length fun _ => 0)) (evi_src (ds := [pD true, pD false]) B.ev itd_t) fun i hi => ?_) ?_
  · refine ⟨_, gt1, ?_, ?_⟩
    · match i, hi with
      | 0, _ => exact ev_var rfl
      | 1, _ => exact ev_var rfl
    · rw [← rep_vN]
      exact evc_eqL (el_repL (ds := [nI 0]) (n := c.length) (evc_lst (ds := [nI 0]) (eva_cons (ev_eq ev_int rfl) eva_nil) (by show 1 ≤ sizeLine; decide)) (el_lenN (sk := .any) (EvJ.q_s (by walk_at "ev"))) (by simp; omega) (by omega)) (LN_rep _ _)
  simp only [List.set_cons_zero, List.set_cons_succ]
  refine dq_set (c := .own (ownL K (LN c))) (el_list (sk := .any) (EvJ.q_s (by walk_at "ev"))) ?_
  simp only [List.set_cons_zero, List.set_cons_succ]
  refine dq_forL (evi_enum (ds := rows.map rowD) (by walk_at "ev") itd_l) (fun i => True) (fun i => [.val (sqA K (LN c)), .val (dP K (.list (rows.map rowD))), .own (ownD K (LN (vN c.length fun x => (rZ (rows.take i)).count (true, x))) (LN (vN c.length fun x => (rZ (rows.take i)).count (false, x)))), .own (ownL K (LN (vN c.length fun x => c.getD x 0 - ((rZ (rows.take i)).map Prod.snd).count x))), .un, .un, .un, .un, .un, .un, .un]) ⟨trivial, ?_⟩ (fun i hi _ => ?_) (fun _ => ?_)
  · have e0 : rZ (rows.take 0) = [] := by simp [rZ]
    rw [e0]
    have e1 : (vN c.length fun x => c.getD x 0 - (([] : List (Bool × Nat)).map Prod.snd).count x) = c := by
      have : (fun x => c.getD x 0 - (([] : List (Bool × Nat)).map Prod.snd).count x) = fun x => c.getD x 0 := by funext x; simp
      rw [this, vN_of]
    rw [e1]
    walk_at "le"
  · have hi' : i < rows.length := by simpa using hi
    have e2 : (rows.map rowD).getD i .none = rowD rows[i] := by rw [List.getD_eq_getElem?_getD]; simp [hi']
    rw [e2]
    have hsp := rZ_split hi'
    have htk := rZ_take hi'
    obtain ⟨hlen, h20⟩ := hr _ (List.getElem_mem hi')
    have hxs := hx _ (List.getElem_mem hi')
    rw [htk]
    generalize rZ (rows.take i) = Z at *
    generalize rZ (rows.drop (i + 1)) = Z2 at *
    generalize rows[i] = r at *
    obtain ⟨u, ks, m⟩ := r
    simp only at hlen h20 hxs hsp htk
    refine ⟨_, _, gt13, ?_⟩
    simp only [List.set_cons_zero, List.set_cons_succ]
    have hfin : ∀ p, (fun x => (Z ++ (List.replicate m (u.zip ks)).flatten).count (p, x)) = fP Z (u.zip ks) m p := fun p => by
      funext x; unfold fP; rw [List.count_append, cnt_repZ]
    have hfinK : (fun x => c.getD x 0 - ((Z ++ (List.replicate m (u.zip ks)).flatten).map Prod.snd).count x) = fun x => c.getD x 0 - fK Z (u.zip ks) m x := by
      funext x
      unfold fK
      rw [List.map_append, List.count_append, List.map_flatten, List.map_replicate, cnt_repZ]
    rw [hfin, hfin, hfinK]
    have hzl : (u.zip ks).length = u.length := by rw [List.length_zip, hlen, Nat.min_self]
    refine ds_forL (evi_zip (K := K) (ds1 := sgn (SW u)) (ds2 := LN ks) (d1 := dP K (.str (SW u))) (d2 := dP K (.tuple (LN ks))) (by walk_at "ea") itd_s itd_t (fun _ => by simp [sgn_SW, LN_length, hlen])) (fun j => True) (fun j => [.val (sqA K (LN c)), .val (dP K (.list (rows.map rowD))), .own (ownD K (LN (vN c.length (fP Z ((u.zip ks).take j) m true))) (LN (vN c.length (fP Z ((u.zip ks).take j) m false)))), .own (ownL K (LN (vN c.length fun x => c.getD x 0 - fK Z ((u.zip ks).take j) m x))), .un, .val (dP K (.str (SW u))), .val (dP K (.tuple (LN ks))), .val (dP K (nI m)), .un, .un, .un]) ⟨trivial, ?_⟩ (fun j hj _ => ?_) (fun _ Γ' hl => ?_)
    · have f0 : ∀ p, fP Z ((u.zip ks).take 0) m p = fun x => Z.count (p, x) := fun p => by funext x; simp [fP]
      have f1 : (fun x => c.getD x 0 - fK Z ((u.zip ks).take 0) m x) = fun x => c.getD x 0 - (Z.map Prod.snd).count x := by funext x; simp [fK]
      rw [f0, f0, f1]
      walk_at "le"
    · have hj1 : j < u.length := by simp [sgn_SW, LN_length] at hj; omega
      have hj2 : j < ks.length := by omega
      have e3 : (sgn (SW u)).getD j .none = pD u[j] := by rw [sgn_SW, List.getD_eq_getElem?_getD]; simp [hj1]
      rw [e3, LN_getD hj2, getD_of hj2]
      have hz : (u.zip ks)[j]'(by omega) = (u[j], ks[j]) := by simp
      have htz : (u.zip ks).take (j + 1) = (u.zip ks).take j ++ [(u[j], ks[j])] := by rw [List.take_add_one, List.getElem?_eq_getElem (by omega), hz]; rfl
      have hxk : ks[j] < c.length := hxs _ (List.getElem_mem hj2)
      have hroom : fK Z ((u.zip ks).take j) m ks[j] + m ≤ c.getD ks[j] 0 := by
        have h1 := hn ks[j]
        rw [hsp, List.map_append, List.map_append, List.count_append, List.count_append, List.map_flatten, List.map_replicate, cnt_repZ] at h1
        have h2 : (((u.zip ks).take j).map Prod.snd).count ks[j] + 1 ≤ ((u.zip ks).map Prod.snd).count ks[j] := by
          have e4 : ((u.zip ks).take (j + 1) ++ (u.zip ks).drop (j + 1)) = u.zip ks := List.take_append_drop _ _
          have h5 := congrArg (fun W => (W.map Prod.snd).count ks[j]) e4
          simp only [htz, List.map_append, List.count_append] at h5
          have h6 : ([(u[j], ks[j])].map Prod.snd).count ks[j] = 1 := List.count_singleton_self
          omega
        have h3 : m * ((((u.zip ks).take j).map Prod.snd).count ks[j] + 1) ≤ m * ((u.zip ks).map Prod.snd).count ks[j] := Nat.mul_le_mul_left _ h2
        rw [Nat.mul_add, Nat.mul_one] at h3
        unfold fK
        omega
      rw [htz]
      generalize (u.zip ks).take j = Y at *
      generalize hp : u[j] = p at *
      generalize ks[j] = x at *
      refine ⟨_, _, gt2, ?_⟩
      simp only [List.set_cons_zero, List.set_cons_succ]
      have hget : (if p then LN (vN c.length (fP Z Y m true)) else LN (vN c.length (fP Z Y m false))) = LN (vN c.length (fP Z Y m p)) := by cases p <;> rfl
      refine ds_seq (ds_augD (K := K) (a := LN (vN c.length (fP Z Y m true))) (b := LN (vN c.length (fP Z Y m false))) (p := p) (k := x) (x := (fP Z Y m p x : Nat)) (y := (m : Nat)) rfl (by walk_at "ev") (by walk_at "ev") (by rw [hget, LN_length, vN_length]; exact hxk) (by rw [hget, LN_get (by rw [vN_length]; exact hxk), vN_get hxk]) (by walk_at "ev") ?_)
      simp only [List.set_cons_zero, List.set_cons_succ]
      have g1 : (if p then (LN (vN c.length (fP Z Y m true))).set x (.int (((fP Z Y m p x : Nat) : Int) + (m : Nat))) else LN (vN c.length (fP Z Y m true))) = LN (vN c.length (fP Z (Y ++ [(p, x)]) m true)) := by
        have e5 : PyData.int (((fP Z Y m p x : Nat) : Int) + (m : Nat)) = nI (fP Z Y m p x + m) := by simp
        rw [e5]
        cases p
        · rw [fP_other (by simp)]; rfl
        · rw [if_pos rfl, LN_vset, fP_step]
      have g2 : (if p then LN (vN c.length (fP Z Y m false)) else (LN (vN c.length (fP Z Y m false))).set x (.int (((fP Z Y m p x : Nat) : Int) + (m : Nat)))) = LN (vN c.length (fP Z (Y ++ [(p, x)]) m false)) := by
        have e5 : PyData.int (((fP Z Y m p x : Nat) : Int) + (m : Nat)) = nI (fP Z Y m p x + m) := by simp
        rw [e5]
        cases p
        · rw [if_neg Bool.false_ne_true, LN_vset, fP_step]
        · rw [fP_other (by simp)]; rfl
      rw [g1, g2]
      refine ds_seq (ds_augG (K := K) (ds := LN (vN c.length fun x => c.getD x 0 - fK Z Y m x)) (k := x) (a := ((c.getD x 0 - fK Z Y m x : Nat) : Int)) (b := (m : Nat)) rfl (by walk_at "ev") (by rw [LN_length, vN_length]; exact hxk) (by rw [LN_get (by rw [vN_length]; exact hxk), vN_get hxk]) (by walk_at "ev") ?_)
      simp only [List.set_cons_zero, List.set_cons_succ]
      have g3 : (LN (vN c.length fun x => c.getD x 0 - fK Z Y m x)).set x (.int (((c.getD x 0 - fK Z Y m x : Nat) : Int) - (m : Nat))) = LN (vN c.length fun y => c.getD y 0 - fK Z (Y ++ [(p, x)]) m y) := by
        have e5 : PyData.int (((c.getD x 0 - fK Z Y m x : Nat) : Int) - (m : Nat)) = nI (c.getD x 0 - fK Z Y m x - m) := by simp only [nI]; congr 1; omega
        rw [e5, LN_vset, fK_step (p := p) hroom]
      rw [g3]
      refine dq_guardL (b := decide ((((vN c.length fun y => c.getD y 0 - fK Z (Y ++ [(p, x)]) m y).getD x 0 : Nat) : Int) < 0)) (evt_test (K := K) (el_b (el_ixN (sk := .l) (by walk_at "ej") (by walk_at "ev") (by rw [vN_length]; exact hxk)) (by walk_at "ev"))) (by simp only [decide_eq_false_iff_not]; omega) ⟨trivial, by walk_at "le"⟩
    · have e6 : min (sgn (SW u)).length (LN ks).length = (u.zip ks).length := by simp [sgn_SW, LN_length, List.length_zip]
      rw [e6, List.take_length] at hl
      refine ⟨trivial, ?_⟩
      exact hl.trans (by walk_at "le")
  · rw [List.length_map, List.take_length]
    refine ds_retR (ev_tup (eva_cons ?_ (eva_cons ?_ (eva_cons (el_tup (by walk_at "ej")) eva_nil))) (by show 3 ≤ sizeLine; decide))
    · exact el_tup (ds := LN (bndl c.length (rZ rows) true)) (ev_dget (K := K) (p := true) (a := LN (bndl c.length (rZ rows) true)) (b := LN (bndl c.length (rZ rows) false)) rfl (ev_eq ev_str rfl))
    · exact el_tup (ds := LN (bndl c.length (rZ rows) false)) (ev_dget (K := K) (p := false) (a := LN (bndl c.length (rZ rows) true)) (b := LN (bndl c.length (rZ rows) false)) rfl (ev_eq ev_str rfl))
end
end TPE
end
section
set_option maxHeartbeats 400000
namespace TPE
open PySem PySem.Spec PyProof.Rows L2 TPI TPZ RT
/-- the blocks turned -/
def rb (bs : List (List Bool × Nat)) : List (List Bool × Nat) := (bs.map fun b => (b.1.reverse, b.2)).reverse
theorem rep_rev {α : Type} (u : List α) (n : Nat) : (List.replicate n u).flatten.reverse = (List.replicate n u.reverse).flatten := by
  rw [List.reverse_flatten, List.map_replicate, List.reverse_replicate]
theorem flat_rb : ∀ bs : List (List Bool × Nat), flat (rb bs) = (flat bs).reverse
  | [] => rfl
  | b :: bs => by
    have e : rb (b :: bs) = rb bs ++ [(b.1.reverse, b.2)] := by simp [rb]
    rw [e, flat_append, flat_rb bs, flat_cons b bs, List.reverse_append, rep_rev, flat_cons, flat_nil, List.append_nil]
theorem rb_ok {bs : List (List Bool × Nat)} (h : BlOk bs) : BlOk (rb bs) := by
  refine ⟨by simpa [rb] using h.few, fun b hb => ?_⟩
  obtain ⟨a, ha, rfl⟩ := List.mem_map.mp (List.mem_reverse.mp hb)
  obtain ⟨q1, q2, q3, q4⟩ := h.ok a ha
  exact ⟨by simpa using q1, by simpa using q2, q3, q4⟩
theorem RkOk.rev {k : Nat} {r : List Nat} (h : RkOk k r) : RkOk k r.reverse := ⟨(List.reverse_perm r).trans h.perm, h.few⟩
/-- the end: p's bundle -/
def endB (r1 r2 c : List Nat) (w : List Bool) (p : Bool) : List Nat := bndl c.length (w.reverse.zip (plK r2.reverse r1.reverse w.reverse c)) p
/-- the blocks without the first turn -/
def wfB : List (List Bool × Nat) → List (List Bool × Nat)
  | [] => []
  | (u, n) :: bs => (if 1 < u.length then [(u.drop 1, 1)] else []) ++ (if 1 < n then [(u, n - 1)] else []) ++ bs
theorem flat_wf {bs : List (List Bool × Nat)} (h : BlOk bs) : flat (wfB bs) = (flat bs).drop 1 := by
  cases bs with
  | nil => rfl
  | cons b bs =>
    obtain ⟨u, n⟩ := b
    obtain ⟨q1, q2, q3, q4⟩ := h.ok (u, n) List.mem_cons_self
    simp only at q1 q2 q3 q4
    have hp : 0 < u.length := List.length_pos_iff.mpr q1
    obtain ⟨m, rfl⟩ : ∃ m, n = m + 1 := ⟨n - 1, by omega⟩
    have e0 : flat ((u, m + 1) :: bs) = u ++ ((List.replicate m u).flatten ++ flat bs) := by
      rw [flat_cons]
      show (List.replicate (m + 1) u).flatten ++ flat bs = _
      rw [List.replicate_succ, List.flatten_cons, List.append_assoc]
    have e1 : flat (if 1 < u.length then [(u.drop 1, 1)] else []) = u.drop 1 := by
      by_cases h1 : 1 < u.length
      · rw [if_pos h1, flat_cons, flat_nil]; simp
      · rw [if_neg h1, List.drop_eq_nil_of_le (by omega)]; rfl
    have e2 : flat (if 1 < m + 1 then [(u, m + 1 - 1)] else []) = (List.replicate m u).flatten := by
      by_cases h1 : 1 < m + 1
      · rw [if_pos h1, flat_cons, flat_nil]; simp
      · rw [if_neg h1]
        have : m = 0 := by omega
        subst this
        rfl
    rw [e0, List.drop_append_of_le_length hp]
    show flat ((if 1 < u.length then [(u.drop 1, 1)] else []) ++ (if 1 < m + 1 then [(u, m + 1 - 1)] else []) ++ bs) = _
    rw [flat_append, flat_append, e1, e2, List.append_assoc]
theorem wf_ok {bs : List (List Bool × Nat)} (h : BlOk bs) (hf : bs.length ≤ 99) : BlOk (wfB bs) := by
  cases bs with
  | nil => exact h
  | cons b bs =>
    obtain ⟨u, n⟩ := b
    obtain ⟨q1, q2, q3, q4⟩ := h.ok (u, n) List.mem_cons_self
    simp only at q1 q2 q3 q4
    simp only [List.length_cons] at hf
    refine ⟨?_, fun b hb => ?_⟩
    · show ((if 1 < u.length then [(u.drop 1, 1)] else []) ++ (if 1 < n then [(u, n - 1)] else []) ++ bs).length ≤ 100
      rw [List.length_append, List.length_append]
      split <;> split <;> simp <;> omega
    · have hb : b ∈ (if 1 < u.length then [(u.drop 1, 1)] else []) ++ (if 1 < n then [(u, n - 1)] else []) ++ bs := hb
      rcases List.mem_append.mp hb with hb | hb
      · rcases List.mem_append.mp hb with hb | hb
        · by_cases h1 : 1 < u.length
          · rw [if_pos h1] at hb
            have e := List.mem_singleton.mp hb
            subst e
            refine ⟨fun e => ?_, by simp; omega, by simp, by simp⟩
            have := congrArg List.length e
            simp at this
            omega
          · rw [if_neg h1] at hb; cases hb
        · by_cases h1 : 1 < n
          · rw [if_pos h1] at hb
            have e := List.mem_singleton.mp hb
            subst e
            exact ⟨q1, q2, by show 1 ≤ n - 1; omega, by show n - 1 ≤ 1000; omega⟩
          · rw [if_neg h1] at hb; cases hb
      · exact h.ok b (List.mem_cons_of_mem _ hb)
section
variable {M : Option Addr} {K : PySem.W.Frag} {Γ : List Slt} {t ta tb te : TE} {tr : TA} {d : Pd} {ds : List Pd} {ps : List Pd} {sk : Sk}
/-- a call with arguments of which only some form is known -/
theorem ev_callE [Tb] {g : Option Addr → List Pd → Pd → Prop} {M' : Option Addr} {E' : XK} (ha : EvA M tr Γ ds) (hg : ∀ F vs, Hs F ds vs → ∃ ds', Hs F ds' vs ∧ g M' ds' d) (hM : M' = none ∨ M' = M) : Ev M (tCall (SpF g) [] E' tr) Γ d := fun B O0 O σ H E Q q => by
  refine ha B O0 O σ H E _ fun vs O1 H1 s hvs => ?_
  obtain ⟨ds', h1, h2⟩ := hg _ _ hvs
  rw [List.append_nil]
  have E1 := E.step s
  refine ⟨M', O1, ds', d, h2, h1, s.live, fun x e => ?_, fun v H' r hv => ?_⟩
  · rcases hM with rfl | rfl
    · exact ⟨(E1.src x e.up).1.non, (E1.srcO x e.up).1⟩
    · exact ⟨(E1.src x e).1, (E1.srcO x e).1⟩
  · have r' : Rl M H1 H' := by
      rcases hM with rfl | rfl
      · exact .up (fun s e => (E1.src s e).1) r
      · exact r
    exact q v O1 H' (s.trans (.of_rl E1 r')) hv
/-- t[a:b] of a tuple of such -/
theorem hs_drop {F : Hp} {ps : List Pd} {vs : List V} (h : Hs F ps vs) : ∀ n : Nat, Hs F (ps.drop n) (vs.drop n) := by
  induction h with
  | nil => intro n; simp; exact .nil
  | cons h t ih =>
    intro n
    cases n with
    | zero => exact .cons h t
    | succ n => simpa using ih n
theorem hs_take {F : Hp} {ps : List Pd} {vs : List V} (h : Hs F ps vs) : ∀ n : Nat, Hs F (ps.take n) (vs.take n) := by
  induction h with
  | nil => intro n; simp; exact .nil
  | cons h t ih =>
    intro n
    cases n with
    | zero => exact .nil
    | succ n => exact .cons h (ih n)
theorem sj_tP [Tb] {lo hi : Option Int} : SlJ M (rSlA K) (jd (tupP K ps)) lo hi (.val (tupP K (cutD ps lo hi))) := fun B O0 O Γ σ H x E hx Q q => by
  obtain ⟨a, xs, rfl, h1, h2⟩ := hx
  have hl : xs.length = ps.length := (Paired.length h2).symm
  refine ⟨a, xs, rfl, sqT_same wo_sub h1, fun e => ?_, fun e p hp => ?_⟩
  · rw [hl] at e
    refine q _ O H E.refl ?_
    show (tupP K (cutD ps lo hi)).hold _ _
    rw [cut_all e]
    exact ⟨a, xs, rfl, h1, h2⟩
  · obtain ⟨s2, sm, hw⟩ := pd_new E E.refl (ob := .tup (cutV xs lo hi)) hp
    have h3 : Hs (wo H O) (cutD ps lo hi) (cutV xs lo hi) := by
      unfold cutV cutD
      rw [hl]
      exact hs_take (hs_drop h2 _) _
    exact q _ O _ s2 ⟨p, _, rfl, SqT.of hw, h3.same sm⟩
theorem el_slTP [Tb] {lo hi : Option Int} {tl th : TO} (ha : Ev M ta Γ (tupP K ps)) (hl : EvO M tl Γ lo) (hh : EvO M th Γ hi) : Ev M (tSl (rSlA K) ta tl th) Γ (tupP K (cutD ps lo hi)) := evc_sl (c := .val _) (evj ha) hl hh sj_tP
theorem el_slT [Tb] {ds : List PyData} {lo hi : Option Int} {tl th : TO} (ha : Ev M ta Γ (dP K (.tuple ds))) (hl : EvO M tl Γ lo) (hh : EvO M th Γ hi) : Ev M (tSl (rSlA K) ta tl th) Γ (dP K (.tuple (cutD ds lo hi))) := evc_sl (c := .val _) (evj ha) hl hh sj_t
theorem el_catT [Tb] {xs ys : List PyData} (ha : Ev M ta Γ (dP K (.tuple xs))) (hb : Ev M tb Γ (dP K (.tuple ys))) (hz : xs.length + ys.length ≤ 1000) : Ev M (tOp (rCatA K) ta tb) Γ (dP K (.tuple (xs ++ ys))) := ev_op (EvJ.q_t ha) (EvJ.q_t hb) (oj_catT (Nat.le_of_lt (small1000 hz)))
end
section
variable {M : Option Addr} {K : PySem.W.Frag} {Γ : List Slt} {ta : TE} {ds : List PyData}
theorem sj_q [Tb] {lo hi : Option Int} : SlJ M (fun x lo hi H Q => rSlL K x lo hi H Q ∨ rSlA K x lo hi H Q) (jd (sqA K ds)) lo hi (.val (sqA K (cutD ds lo hi))) := fun B O0 O Γ σ H x E hx Q q => by
  obtain ⟨a, xs, rfl, h1, h2⟩ := hx
  rcases h1 with h1 | h1
  · refine .inl ⟨a, xs, rfl, Same.seq wo_sub h1, fun p hp => ?_⟩
    obtain ⟨s2, sm, hw⟩ := pd_new E E.refl (ob := .lst (cutV xs lo hi)) hp
    exact q _ O _ s2 ⟨p, _, rfl, .inl (SqL.of hw), dpAll_same sm _ _ (cut_dp h2 lo hi)⟩
  · refine .inr ⟨a, xs, rfl, sqT_same wo_sub h1, fun e => ?_, fun e p hp => ?_⟩
    · rw [h2.length] at e
      refine q _ O H E.refl ?_
      show (sqA K (cutD ds lo hi)).hold _ _
      rw [cut_all e]
      exact ⟨a, xs, rfl, .inr h1, h2⟩
    · obtain ⟨s2, sm, hw⟩ := pd_new E E.refl (ob := .tup (cutV xs lo hi)) hp
      exact q _ O _ s2 ⟨p, _, rfl, .inr (SqT.of hw), dpAll_same sm _ _ (cut_dp h2 lo hi)⟩
theorem el_slQ [Tb] {lo hi : Option Int} {tl th : TO} (ha : Ev M ta Γ (sqA K ds)) (hl : EvO M tl Γ lo) (hh : EvO M th Γ hi) : Ev M (tSl (fun x lo hi H Q => rSlL K x lo hi H Q ∨ rSlA K x lo hi H Q) ta tl th) Γ (sqA K (cutD ds lo hi)) := evc_sl (c := .val _) (evj ha) hl hh sj_q
end
end TPE
end
section
set_option maxHeartbeats 400000
namespace TPE
open PySem PySem.Spec PyProof.Rows L2 TPI TPZ RT
local macro_rules | `(tactic| walk_at "go") => `(tactic| (try dsimp only [cxK, cxKB, cxK2]); (try dsimp [Gam]); (try simp only [List.map_cons, List.map_nil, List.cons_append, List.nil_append]))
local macro_rules | `(tactic| walk_at "ev") => `(tactic| first
  | ((with_reducible apply ev_var); exact rfl)
  | with_reducible exact ev_int
  | with_reducible exact ev_str
  | with_reducible exact ev_bl
  | with_reducible exact ev_non
  | with_reducible exact ev_c
  | ((with_reducible apply el_i) <;> walk_at "ev")
  | ((with_reducible apply el_b) <;> walk_at "ev")
  | ((with_reducible apply el_eqI); (walk_at "ev"); (walk_at "ev"))
  | ((with_reducible apply el_neI); (walk_at "ev"); (walk_at "ev"))
  | ((with_reducible apply el_eqS); (walk_at "ev"); (walk_at "ev"))
  | ((with_reducible apply el_neS); (walk_at "ev"); (walk_at "ev"))
  | ((with_reducible apply ev_notV) <;> walk_at "ev")
  | ((with_reducible apply el_isi); (walk_at "ev"); exact rfl)
  | ((with_reducible apply el_len) <;> walk_at "ej")
  | (((with_reducible apply ev_aT); (walk_at "ev")))
  | (((with_reducible apply ev_aL); (walk_at "ev")))
  | (((with_reducible apply ev_aP); (walk_at "ev")))
  | (((with_reducible apply ev_pl); (walk_at "ev"))))
local macro_rules | `(tactic| walk_at "ej") => `(tactic| first
  | ((with_reducible apply ev_own); exact rfl)
  | ((with_reducible apply EvJ.q_s); walk_at "ev")
  | ((with_reducible apply EvJ.q_l); walk_at "ev")
  | ((with_reducible apply EvJ.q_t); walk_at "ev")
  | ((with_reducible apply evj); walk_at "ev"))
local macro_rules | `(tactic| walk_at "ea") => `(tactic| first
  | with_reducible exact eva_nil
  | ((with_reducible apply eva_cons); (walk_at "ev"); (walk_at "ea")))
local macro_rules | `(tactic| walk_at "et") => `(tactic| first
  | ((with_reducible apply evt_or); (walk_at "et"); (intro _; walk_at "et"))
  | ((with_reducible apply evt_and); (walk_at "et"); (intro _; walk_at "et"))
  | ((with_reducible apply evt_not); (walk_at "et"))
  | ((with_reducible apply evt_test); (walk_at "ev"))
  | ((with_reducible apply evt_tB); (walk_at "ev")))
local macro_rules | `(tactic| walk_at "le") => `(tactic| ((try simp only [List.set_cons_zero, List.set_cons_succ]); repeat' (first | exact Le.nil | (with_reducible apply Le.un) | (apply Le.eq rfl) | apply Le.eq)))
section
variable {P : Program} {w : World} {K : PySem.W.Frag} {mg : Str → Option Value} {base : Heap} {pA oA : Addr}
inductive gGame (K : PySem.W.Frag) : Option Addr → List Pd → Pd → Prop
  | mk (c r1 r2 : List Nat) (bs : List (List Bool × Nat)) (h1 : RkOk c.length r1) (h2 : RkOk c.length r2) (h : BlOk bs) : gGame K none [dP K (.tuple (LN c)), dP K (lsD r1 r2), sqA K (BD bs)] (dP K .none)
theorem sc_game : FnScope ["counts", "lists", "sequence"] ["counts", "lists", "sequence"] (defScope (top 66)) := ⟨rfl, rfl, rfl, by decide +kernel, rfl, by decide +kernel, by decide +kernel⟩
-- slots: 0 counts, 1 lists, 2 sequence
theorem w_game [Tb] (B : Bi K mg pA oA) (D : FunG K mg "require_game" "require_game" (top 66)) (O_require_counts : Okd P w K mg base 4 "require_counts" ["counts"] (gRCounts K)) (O_require_lists : Okd P w K mg base 4 "require_lists" ["lists", "many"] (gRLists K)) (O_require_sequence : Okd P w K mg base 4 "require_sequence" ["sequence"] (gRSeq K)) : Okd P w K mg base 5 "require_game" ["counts", "lists", "sequence"] (gGame K) := by
  obtain ⟨f, fd, F, m⟩ := D
  refine ⟨f, fd, F.ok sc_game (fun vs H Q E h => SpF.len (fun M ds d hg => by cases hg; rfl) h) (fun cdv A outer s H vs Q E hr h => ⟨_, PSs.nox ((pss_cons (ps_expr (pe_callO O_require_counts (hr.mono (by decide)) rfl (pa_cons (pv 0) pa_nil)))
    (pss_cons (ps_expr (pe_callO O_require_lists (hr.mono (by decide)) rfl (pa_cons (pv 1) (pa_cons (pe_callB call_len rfl B.len (by decide +kernel) (pa_cons (pv 0) pa_nil)) pa_nil))))
    (pss_one (ps_expr (pe_callO O_require_sequence (hr.mono (by decide)) rfl (pa_cons (pv 2) pa_nil))))))), body_of (fun M ds d hg => ?_) h⟩), m, F.kp, F.bindsN (fun _ _ _ _ _ _ us hl => match us, hl with | [_, _, _], _ => rfl)⟩
  cases hg with
  | mk c r1 r2 bs h1 h2 h =>
  refine ⟨by simp, ?_⟩
  walk_at "go"
  refine dq_drop (ev_call (by walk_at "ea") (gRCounts.mk c h1.few) (.inl rfl)) ?_
  refine dq_drop (ev_call (eva_cons (by walk_at "ev") (eva_cons (el_lenN (sk := .t) (by walk_at "ej")) eva_nil)) (gRLists.mk c.length r1 r2 h1 h2) (.inl rfl)) ?_
  refine ds_drop (ev_call (by walk_at "ea") (gRSeq.mk bs h) (.inl rfl)) ?_
  exact fun F => .non
inductive gWhole (K : PySem.W.Frag) : Option Addr → List Pd → Pd → Prop
  | mk (c r1 r2 : List Nat) (bs : List (List Bool × Nat)) (h1 : RkOk c.length r1) (h2 : RkOk c.length r2) (h : BlOk bs) (hw : (flat bs).length = c.sum) : gWhole K none [dP K (.tuple (LN c)), dP K (lsD r1 r2), sqA K (BD bs)] (dP K .none)
theorem sc_whole : FnScope ["counts", "lists", "sequence"] ["counts", "lists", "sequence"] (defScope (top 68)) := ⟨rfl, rfl, rfl, by decide +kernel, rfl, by decide +kernel, by decide +kernel⟩
-- slots: 0 counts, 1 lists, 2 sequence
theorem w_whole [Tb] (B : Bi K mg pA oA) (D : FunG K mg "require_whole_thinking" "require_whole" (top 68)) (O_require_game : Okd P w K mg base 5 "require_game" ["counts", "lists", "sequence"] (gGame K)) (O_picks_of : Okd P w K mg base 1 "picks_of" ["sequence"] (gPicks K)) : Okd P w K mg base 6 "require_whole_thinking" ["counts", "lists", "sequence"] (gWhole K) := by
  obtain ⟨f, fd, F, m⟩ := D
  refine ⟨f, fd, F.ok sc_whole (fun vs H Q E h => SpF.len (fun M ds d hg => by cases hg; rfl) h) (fun cdv A outer s H vs Q E hr h => ⟨_, PSs.nox ((pss_cons (ps_expr (pe_callO O_require_game (hr.mono (by decide)) rfl (pa_cons (pv 0) (pa_cons (pv 1) (pa_cons (pv 2) pa_nil)))))
    (pss_one (ps_if (pt_cmpR op_ne (pe_callO O_picks_of (hr.mono (by decide)) rfl (pa_cons (pv 2) pa_nil)) (pe_callB (cr_sumT rfl) rfl B.sum (by decide +kernel) (pa_cons (pv 0) pa_nil)) (nomark _))
    (pss_one ps_never)
    pss_nil)))), body_of (fun M ds d hg => ?_) h⟩), m, F.kp, F.bindsN (fun _ _ _ _ _ _ us hl => match us, hl with | [_, _, _], _ => rfl)⟩
  cases hg with
  | mk c r1 r2 bs h1 h2 h hw =>
  refine ⟨by simp, ?_⟩
  walk_at "go"
  refine dq_drop (ev_call (by walk_at "ea") (gGame.mk c r1 r2 bs h1 h2 h) (.inl rfl)) ?_
  refine dq_guardL (b := !decide (((flat bs).length : Int) = (c.sum : Nat))) (evt_test (el_neI (ev_call (by walk_at "ea") (gPicks.mk bs h) (.inl rfl)) (el_sumT (by walk_at "ev")))) (by rw [hw]; simp) ?_
  exact fun F => .non
inductive gTL (K : PySem.W.Frag) : Option Addr → List Pd → Pd → Prop
  | mk (r1 r2 : List Nat) : gTL K none [dP K (lsD r1 r2)] (dP K (lsD r2.reverse r1.reverse))
theorem LN_rev (ns : List Nat) : (LN ns).reverse = LN ns.reverse := by simp [LN, List.map_reverse]
theorem sc_turnl : FnScope ["lists"] ["lists"] (defScope (top 70)) := ⟨rfl, rfl, rfl, by decide +kernel, rfl, by decide +kernel, by decide +kernel⟩
-- slots: 0 lists
theorem w_turnl [Tb] (B : Bi K mg pA oA) (D : FunG K mg "turned_lists" "turned_lists" (top 70)) : Okd P w K mg base 1 "turned_lists" ["lists"] (gTL K) := by
  obtain ⟨f, fd, F, m⟩ := D
  refine ⟨f, fd, F.ok sc_turnl (fun vs H Q E h => SpF.len (fun M ds d hg => by cases hg; rfl) h) (fun cdv A outer s H vs Q E hr h => ⟨_, PSs.nox ((pss_one (ps_ret (pe_tup (pa_cons (pe_revT (pe_ix ix_seq (pv 0) pe_int (fun _ _ => rfl))) (pa_cons (pe_revT (pe_ix ix_seq (pv 0) pe_int (fun _ _ => rfl))) pa_nil)))))), body_of (fun M ds d hg => ?_) h⟩), m, F.kp, F.bindsN (fun _ _ _ _ _ _ us hl => match us, hl with | [_], _ => rfl)⟩
  cases hg with
  | mk r1 r2 =>
  refine ⟨by simp, ?_⟩
  walk_at "go"
  refine ds_retR (ev_tupD (ds := [.tuple (LN r2.reverse), .tuple (LN r1.reverse)]) (eva_cons ?_ (eva_cons ?_ eva_nil)) (by show 2 ≤ sizeLine; decide))
  · exact ev_eq (ev_revT (ds := LN r2) (el_ix (sk := .t) (i := 1) (EvJ.q_t (by walk_at "ev")) ev_int (by rfl))) (by rw [LN_rev])
  · exact ev_eq (ev_revT (ds := LN r1) (el_ix (sk := .t) (i := 0) (EvJ.q_t (by walk_at "ev")) ev_int (by rfl))) (by rw [LN_rev])
inductive gTR (K : PySem.W.Frag) : Option Addr → List Pd → Pd → Prop
  | mk (c r1 r2 : List Nat) (bs : List (List Bool × Nat)) (h1 : RkOk c.length r1) (h2 : RkOk c.length r2) (h : BlOk bs) (hw : (flat bs).length ≤ c.sum) (hz : (flat bs).length ≤ 300) :
    gTR K none [sqA K (LN c), dP K (lsD r1 r2), sqA K (BD bs)] (exP fun rows : { rows : List Row // RowsOk r2.reverse r1.reverse c (flat bs).reverse rows } => dP K (.list (rows.1.map rowD)))
theorem sc_turnr : FnScope ["counts", "lists", "blocks", "backwards", "turns", "times"] ["counts", "lists", "blocks"] (defScope (top 71)) := ⟨rfl, rfl, rfl, by decide +kernel, rfl, by decide +kernel, by decide +kernel⟩
-- slots: 0 counts, 1 lists, 2 blocks, 3 backwards, 4 turns, 5 times
theorem w_turnr [Tb] (B : Bi K mg pA oA) (D : FunG K mg "turned_rows" "turned_rows" (top 71)) (O_plain_rows : Okd P w K mg base 3 "plain_rows" ["counts", "lists", "sequence"] (gRows K)) (O_turned_lists : Okd P w K mg base 1 "turned_lists" ["lists"] (gTL K)) : Okd P w K mg base 4 "turned_rows" ["counts", "lists", "blocks"] (gTR K) := by
  obtain ⟨f, fd, F, m⟩ := D
  refine ⟨f, fd, F.ok sc_turnr (fun vs H Q E h => SpF.len (fun M ds d hg => by cases hg; rfl) h) (fun cdv A outer s H vs Q E hr h => ⟨_, PSs.nox ((pss_cons (ps_setLc (i := 3) (own := [("turns", 4), ("times", 5)]) (g := (gTup K 2 (gCons (gName 4) (gCons (gName 5) gNil)))) (te := (tTup (tCons (tRevS _) (tCons _ tNil)))) rfl sc_turnr.nd rfl rfl (sw_true rfl rfl rfl (by decide +kernel)) (pi_revA rfl B.reversed (pv 2)) (blkOk_by (own := [("turns", 4), ("times", 5)]) (N := ["counts", "lists", "blocks", "backwards", "turns", "times"]) (sc := defScope (top 71)) (by decide +kernel)) (fun _ _ _ _ _ => (pg_tup rfl (pgs_cons (pg_name (i := 4) sc_turnr.nd rfl (by first | exact Or.inl rfl | exact Or.inr rfl)) (pgs_cons (pg_name (i := 5) sc_turnr.nd rfl (by first | exact Or.inl rfl | exact Or.inr rfl)) pgs_nil)))) (fun _ _ _ _ _ => pts_nil) (fun _ _ _ _ _ => (pe_tup (pa_cons (pe_revS (pv 4)) (pa_cons (pv 5) pa_nil)))))
    (pss_one (ps_ret (pe_callO O_plain_rows (hr.mono (by decide)) rfl (pa_cons (pv 0) (pa_cons (pe_callO O_turned_lists (hr.mono (by decide)) rfl (pa_cons (pv 1) pa_nil)) (pa_cons (pv 3) pa_nil)))))))), body_of (fun M ds d hg => ?_) h⟩), m, F.kp, F.bindsN (fun _ _ _ _ _ _ us hl => match us, hl with | [_, _, _], _ => rfl)⟩
  cases hg with
  | mk c r1 r2 bs h1 h2 h hw hz =>
  refine ⟨by simp, ?_⟩
  walk_at "go"
  have hf := h.few
  have hl : (rb bs).length = bs.length := by simp [rb]
  refine dq_set (c := .own (ownL K (BD (rb bs)))) (evc_eqL (evc_mapF (K := K) (evi_rev (sk := .any) (ds := BD bs) (by walk_at "ev")) (fun i => bD ((rb bs).getD i ([], 0))) (by simp [BD]; omega) fun i hi => ?_) ?_) ?_
  · have hi' : i < bs.length := by simpa [BD] using hi
    have e1 : (BD bs).reverse.getD i .none = bD (bs.reverse.getD i ([], 0)) := by
      rw [List.getD_eq_getElem?_getD, List.getD_eq_getElem?_getD]
      simp [BD, hi', ← List.map_reverse]
    have e2 : (rb bs).getD i ([], 0) = ((bs.reverse.getD i ([], 0)).1.reverse, (bs.reverse.getD i ([], 0)).2) := by
      rw [List.getD_eq_getElem?_getD, List.getD_eq_getElem?_getD]
      simp [rb, hi', ← List.map_reverse]
    have hm : bs.reverse.getD i ([], 0) ∈ bs := by
      rw [List.getD_eq_getElem?_getD, List.getElem?_eq_getElem (by simpa using hi')]
      exact List.mem_reverse.mp (List.getElem_mem _)
    rw [e1, e2]
    obtain ⟨q1, q2, q3, q4⟩ := h.ok _ hm
    generalize bs.reverse.getD i ([], 0) = b at *
    exact ⟨_, gt2, ev_tupD (ds := [.str (SW b.1.reverse), nI b.2]) (eva_cons (revS_SW b.1 ▸ ev_revS (by walk_at "ev") (by rw [SW_length]; exact Nat.le_of_lt (small1000 (by omega)))) (eva_cons (by walk_at "ev") eva_nil)) (by show 2 ≤ sizeLine; decide)⟩
  · have e : (BD bs).length = (rb bs).length := by simp [BD, rb]
    rw [e, map_range_get (rb bs) _ (fun b => bD b) fun i hi => by rw [List.getD_eq_getElem?_getD]; simp [hi]]
    rfl
  · simp only [List.set_cons_zero, List.set_cons_succ]
    refine ds_frz 3 (K := K) (ds := BD (rb bs)) rfl ?_
    simp only [List.set_cons_zero, List.set_cons_succ]
    have e := flat_rb bs
    rw [← e]
    exact ds_retR (ev_call (eva_cons (by walk_at "ev") (eva_cons (ev_call (by walk_at "ea") (gTL.mk r1 r2) (.inl rfl)) (eva_cons (by walk_at "ev") eva_nil))) (gRows.mk c r2.reverse r1.reverse (rb bs) h2.rev h1.rev (rb_ok h) (by rw [e, List.length_reverse]; exact hw) (by rw [e, List.length_reverse]; exact hz)) (.inl rfl))
inductive gEnd (K : PySem.W.Frag) : Option Addr → List Pd → Pd → Prop
  | mk (c r1 r2 : List Nat) (bs : List (List Bool × Nat)) (h1 : RkOk c.length r1) (h2 : RkOk c.length r2) (h : BlOk bs) (hw : (flat bs).length ≤ c.sum) (hz : (flat bs).length ≤ 300) :
    gEnd K none [sqA K (LN c), dP K (lsD r1 r2), sqA K (BD bs)] (tupP K [plP K (LN (endB r1 r2 c (flat bs) true)), plP K (LN (endB r1 r2 c (flat bs) false))])
theorem sc_ends : FnScope ["counts", "lists", "blocks"] ["counts", "lists", "blocks"] (defScope (top 72)) := ⟨rfl, rfl, rfl, by decide +kernel, rfl, by decide +kernel, by decide +kernel⟩
-- slots: 0 counts, 1 lists, 2 blocks
theorem w_ends [Tb] (B : Bi K mg pA oA) (D : FunG K mg "end_bundles" "end_bundles" (top 72)) (O_bundles_of : Okd P w K mg base 1 "bundles_of" ["counts", "course"] (gBund K)) (O_turned_rows : Okd P w K mg base 4 "turned_rows" ["counts", "lists", "blocks"] (gTR K)) : Okd P w K mg base 5 "end_bundles" ["counts", "lists", "blocks"] (gEnd K) := by
  obtain ⟨f, fd, F, m⟩ := D
  refine ⟨f, fd, F.ok sc_ends (fun vs H Q E h => SpF.len (fun M ds d hg => by cases hg; rfl) h) (fun cdv A outer s H vs Q E hr h => ⟨_, PSs.nox ((pss_one (ps_ret (pe_slice sl_tupA (pe_callO O_bundles_of (hr.mono (by decide)) rfl (pa_cons (pv 0) (pa_cons (pe_callO O_turned_rows (hr.mono (by decide)) rfl (pa_cons (pv 0) (pa_cons (pv 1) (pa_cons (pv 2) pa_nil)))) pa_nil))) po_none (po_some pe_int))))), body_of (fun M ds d hg => ?_) h⟩), m, F.kp, F.bindsN (fun _ _ _ _ _ _ us hl => match us, hl with | [_, _, _], _ => rfl)⟩
  cases hg with
  | mk c r1 r2 bs h1 h2 h hw hz =>
  refine ⟨by simp, ?_⟩
  walk_at "go"
  have hl' : (flat bs).reverse.length = (flat bs).length := List.length_reverse
  have hpl := plC_sum (h2.rev) (h1.rev) (flat bs).reverse c rfl (by rw [hl']; exact hw)
  have hcl : ∀ x ∈ plK r2.reverse r1.reverse (flat bs).reverse c, x < c.length := fun x hx => by
    rcases Nat.lt_or_ge x c.length with q | q
    · exact q
    · have h3 := hpl.2 x
      have h0 : c.getD x 0 = 0 := by rw [List.getD_eq_getElem?_getD, List.getElem?_eq_none q]; rfl
      have h4 : 0 < (plK r2.reverse r1.reverse (flat bs).reverse c).count x := List.count_pos_iff.mpr hx
      omega
  refine ds_retR ?_
  refine el_slTP (K := K) (lo := none) (hi := some 2) (ps := [plP K (LN (endB r1 r2 c (flat bs) true)), plP K (LN (endB r1 r2 c (flat bs) false)), plP K (LN (vN c.length fun x => c.getD x 0 - (((flat bs).reverse.zip (plK r2.reverse r1.reverse (flat bs).reverse c)).map Prod.snd).count x))]) (ev_callE (ds := [sqA K (LN c), exP fun rows : { rows : List Row // RowsOk r2.reverse r1.reverse c (flat bs).reverse rows } => dP K (.list (rows.1.map rowD))]) (eva_cons (by walk_at "ev") (eva_cons (ev_call (by walk_at "ea") (gTR.mk c r1 r2 bs h1 h2 h hw hz) (.inl rfl)) eva_nil)) (fun F vs hs => ?_) (.inl rfl)) evo_none (evo_some (K := K) ev_int)
  cases hs with
  | cons ha hs => cases hs with
    | cons hb hs =>
      cases hs
      obtain ⟨⟨rows, ok⟩, hb⟩ := hb
      have hZ : rZ rows = (flat bs).reverse.zip (plK r2.reverse r1.reverse (flat bs).reverse c) := by
        rw [← rZ_eq fun r hr => (ok.ok r hr).1, ok.word, ok.kinds]
      have hfew : rows.length ≤ 300 := by
        have := (Mid.mk ok rfl : Mid r2.reverse r1.reverse c (flat bs).reverse rows (plC r2.reverse r1.reverse (flat bs).reverse c)).few
        omega
      have hks : ∀ r ∈ rows, ∀ x ∈ r.ks, x < c.length := fun r hr x hx => hcl x (by
        rw [← ok.kinds]
        refine List.mem_flatten.mpr ⟨_, List.mem_map.mpr ⟨r, hr, rfl⟩, ?_⟩
        refine List.mem_flatten.mpr ⟨r.ks, ?_, hx⟩
        exact List.mem_replicate.mpr ⟨by have := (ok.ok r hr).2.2.1; omega, rfl⟩)
      have hsnd : ((flat bs).reverse.zip (plK r2.reverse r1.reverse (flat bs).reverse c)).map Prod.snd = plK r2.reverse r1.reverse (flat bs).reverse c := by
        apply List.map_snd_zip
        rw [plK_length]
        exact Nat.le_refl _
      refine ⟨[sqA K (LN c), dP K (.list (rows.map rowD))], .cons ha (.cons hb .nil), ?_⟩
      have hn : ∀ x, ((rZ rows).map Prod.snd).count x ≤ c.getD x 0 := fun x => by
        rw [hZ, hsnd]
        have := hpl.2 x
        omega
      have := gBund.mk (K := K) c rows h1.few hfew (fun r hr => ⟨(ok.ok r hr).1, (ok.ok r hr).2.1⟩) hks hn
      rw [hZ] at this
      exact this
inductive gEndOf (K : PySem.W.Frag) : Option Addr → List Pd → Pd → Prop
  | mk (c r1 r2 : List Nat) (bs : List (List Bool × Nat)) (h1 : RkOk c.length r1) (h2 : RkOk c.length r2) (h : BlOk bs) (hw : (flat bs).length = c.sum) (hz : (flat bs).length ≤ 300) :
    gEndOf K none [dP K (.tuple (LN c)), dP K (lsD r1 r2), sqA K (BD bs)] (tupP K [plP K (LN (endB r1 r2 c (flat bs) true)), plP K (LN (endB r1 r2 c (flat bs) false))])
theorem sc_endof : FnScope ["counts", "lists", "sequence"] ["counts", "lists", "sequence"] (defScope (top 73)) := ⟨rfl, rfl, rfl, by decide +kernel, rfl, by decide +kernel, by decide +kernel⟩
-- slots: 0 counts, 1 lists, 2 sequence
theorem w_endof [Tb] (B : Bi K mg pA oA) (D : FunG K mg "end_of" "end_of" (top 73)) (O_require_whole_thinking : Okd P w K mg base 6 "require_whole_thinking" ["counts", "lists", "sequence"] (gWhole K)) (O_end_bundles : Okd P w K mg base 5 "end_bundles" ["counts", "lists", "blocks"] (gEnd K)) : Okd P w K mg base 7 "end_of" ["counts", "lists", "sequence"] (gEndOf K) := by
  obtain ⟨f, fd, F, m⟩ := D
  refine ⟨f, fd, F.ok sc_endof (fun vs H Q E h => SpF.len (fun M ds d hg => by cases hg; rfl) h) (fun cdv A outer s H vs Q E hr h => ⟨_, PSs.nox ((pss_cons (ps_expr (pe_callO O_require_whole_thinking (hr.mono (by decide)) rfl (pa_cons (pv 0) (pa_cons (pv 1) (pa_cons (pv 2) pa_nil)))))
    (pss_one (ps_ret (pe_callO O_end_bundles (hr.mono (by decide)) rfl (pa_cons (pv 0) (pa_cons (pv 1) (pa_cons (pv 2) pa_nil)))))))), body_of (fun M ds d hg => ?_) h⟩), m, F.kp, F.bindsN (fun _ _ _ _ _ _ us hl => match us, hl with | [_, _, _], _ => rfl)⟩
  cases hg with
  | mk c r1 r2 bs h1 h2 h hw hz =>
  refine ⟨by simp, ?_⟩
  walk_at "go"
  refine dq_drop (ev_call (by walk_at "ea") (gWhole.mk c r1 r2 bs h1 h2 h hw) (.inl rfl)) ?_
  exact ds_retR (ev_call (by walk_at "ea") (gEnd.mk c r1 r2 bs h1 h2 h (by omega) hz) (.inl rfl))
abbrev teWF (K : PySem.W.Frag) : TE := tOp (rCatL K) (tVar 3) (tCB (fun xs H Q => ∃ p ys, xs = [.ref p] ∧ (SqL K H p ys ∨ SqT K H p ys) ∧ ∀ l, H l = none → Q (.ref l) (upd H l (.lst ys))) (tCons (tSl (fun x lo hi H Q => rSlL K x lo hi H Q ∨ rSlA K x lo hi H Q) (tVar 0) (tPart (tC (.int 1))) tNoPart) tNil))
inductive gWF (K : PySem.W.Frag) : Option Addr → List Pd → Pd → Prop
  | mk (bs : List (List Bool × Nat)) (h : BlOk bs) (hf : bs.length ≤ 99) (h0 : bs ≠ []) : gWF K none [sqA K (BD bs)] (dP K (.list (BD (wfB bs))))
theorem sc_wf : FnScope ["sequence", "turns", "times", "found"] ["sequence"] (defScope (top 74)) := ⟨rfl, rfl, rfl, by decide +kernel, rfl, by decide +kernel, by decide +kernel⟩
-- slots: 0 sequence, 1 turns, 2 times, 3 found
theorem w_wf [Tb] (B : Bi K mg pA oA) (D : FunG K mg "without_first" "without_first" (top 74)) : Okd P w K mg base 1 "without_first" ["sequence"] (gWF K) := by
  obtain ⟨f, fd, F, m⟩ := D
  refine ⟨f, fd, F.ok sc_wf (fun vs H Q E h => SpF.len (fun M ds d hg => by cases hg; rfl) h) (fun cdv A outer s H vs Q E hr h => ⟨_, PSs.nox ((pss_cons (ps_asg (pe_ix ix_seq (pv 0) pe_int (fun _ _ => rfl)) (pg_tup rfl (pgs_cons (pg_name (i := 1) sc_wf.nd rfl (by first | exact Or.inl rfl | exact Or.inr rfl)) (pgs_cons (pg_name (i := 2) sc_wf.nd rfl (by first | exact Or.inl rfl | exact Or.inr rfl)) pgs_nil))))
    (pss_cons (ps_set (i := 3) sc_wf.nd rfl (by first | exact Or.inl rfl | exact Or.inr rfl) (pe_ifExp (pt_cmpR op_gt (pe_callB call_len rfl B.len (by decide +kernel) (pa_cons (pv 1) pa_nil)) pe_int (nomark _)) (pe_lst (pa_cons (pe_tup (pa_cons (pe_slice sl_str (pv 1) (po_some pe_int) po_none) (pa_cons pe_int pa_nil))) pa_nil)) (pe_lst pa_nil)))
    (pss_cons (ps_if (pt_cmpR op_gt (pv 2) pe_int (nomark _))
    (pss_one (ps_expr (pe_bm PySem.F.plainAttrs_list PySem.F.slot_list_append PySem.F.type_list_append mt_append (pv 3) (pa_cons (pe_tup (pa_cons (pv 1) (pa_cons (pe_op op_sub (pv 2) pe_int) pa_nil))) pa_nil))))
    pss_nil)
    (pss_one (ps_ret (pe_op op_catL (pv 3) (pe_callTy call_list_of rfl B.list (by decide +kernel) (pa_cons (pe_slice (SlR.or sl_list sl_tupA) (pv 0) (po_some pe_int) po_none) pa_nil))))))))), body_of (fun M ds d hg => ?_) h⟩), m, F.kp, F.bindsN (fun _ _ _ _ _ _ us hl => match us, hl with | [_], _ => rfl)⟩
  cases hg with
  | mk bs h hf h0 =>
  refine ⟨by simp, ?_⟩
  walk_at "go"
  obtain ⟨b, bs, rfl⟩ := List.exists_cons_of_ne_nil h0
  obtain ⟨u, n⟩ := b
  obtain ⟨q1, q2, q3, q4⟩ := h.ok (u, n) List.mem_cons_self
  simp only at q1 q2 q3 q4
  simp only [List.length_cons] at hf
  refine dq_asg (el_ix (K := K) (sk := .any) (ds := BD ((u, n) :: bs)) (i := 0) (EvJ.q_s (by walk_at "ev")) ev_int (show atI (BD ((u, n) :: bs)) 0 = some (bD (u, n)) from atI_nat (j := 0) rfl)) gt2 ?_
  simp only [List.set_cons_zero, List.set_cons_succ]
  refine dq_set (c := .own (ownL K (BD (if 1 < u.length then [(u.drop 1, 1)] else [])))) (evc_if (p := (· = decide ((1 : Int) < (u.length : Nat)))) (evt_test (el_b (el_lenW (by walk_at "ev") (len20 q2)) (by walk_at "ev"))) (fun e => ?_) fun e => ?_) ?_
  · have e : 1 < u.length := by simp at e; omega
    rw [if_pos e]
    exact evc_lst (ds := [bD (u.drop 1, 1)]) (eva_cons (ev_tupD (ds := [.str (SW (u.drop 1)), nI 1]) (eva_cons (ev_eq (el_slW (by walk_at "ev") (evo_some (K := K) (i := ((1 : Nat) : Int)) (ev_eq ev_int rfl)) evo_none (len20 q2)) (by rw [cut_drop])) (eva_cons (ev_eq ev_int rfl) eva_nil)) (by show 2 ≤ sizeLine; decide)) eva_nil) (by show 1 ≤ sizeLine; decide)
  · have e : ¬ 1 < u.length := by simp at e; omega
    rw [if_neg e]
    exact evc_lst (ds := []) eva_nil (Nat.zero_le _)
  simp only [List.set_cons_zero, List.set_cons_succ]
  have hA : (if 1 < u.length then [(u.drop 1, 1)] else []).length ≤ 1 := by split <;> simp
  generalize hAe : (if 1 < u.length then [(u.drop 1, 1)] else []) = A at *
  have key : ∀ {B : List (List Bool × Nat)}, (if 1 < n then [(u, n - 1)] else []) = B → Ev none (teWF K) [.val (sqA K (BD ((u, n) :: bs))), .val (dP K (.str (SW u))), .val (dP K (nI n)), .own (ownL K (BD (A ++ B)))] (dP K (.list (BD (wfB ((u, n) :: bs))))) := fun {B} hB => by
    have hB1 : B.length ≤ 1 := by rw [← hB]; split <;> simp
    refine (ev_eq (ev_frz (el_catL (ds := BD (A ++ B)) (es := BD bs) (by walk_at "ej") (EvJ.q_l (ev_frz (evc_eqL (el_list (sk := .any) (EvJ.q_s (el_slQ (K := K) (ds := BD ((u, n) :: bs)) (lo := some 1) (hi := none) (ev_var rfl) (evo_some (K := K) ev_int) evo_none))) (cut_drop (BD ((u, n) :: bs)) 1)))) (by simp [BD]; omega))) ?_)
    rw [← hAe, ← hB]
    show PyData.list (BD _ ++ BD bs) = .list (BD ((if 1 < u.length then [(u.drop 1, 1)] else []) ++ (if 1 < n then [(u, n - 1)] else []) ++ bs))
    simp [BD]
  refine ds_seq (ds_ifB (b := decide ((1 : Int) < (n : Nat))) (evt_test (K := K) (by walk_at "ev")) (fun hb => ?_) fun hb => ?_)
  · have hb : 1 < n := by simp at hb; omega
    refine ds_append (K := K) (ds := BD A) (x := bD (u, n - 1)) rfl (ev_tupD (ds := [.str (SW u), nI (n - 1)]) (eva_cons (by walk_at "ev") (eva_cons (el_subN (a := n) (b := 1) (by walk_at "ev") (ev_eq ev_int rfl) (by omega)) eva_nil)) (by show 2 ≤ sizeLine; decide)) (by simp [BD]; exact small1000 (by omega)) ?_
    have e : BD A ++ [bD (u, n - 1)] = BD (A ++ [(u, n - 1)]) := by simp [BD]
    rw [e]
    exact ds_retR (key (by rw [if_pos hb]))
  · have hb : ¬ 1 < n := by simp at hb; omega
    refine ds_next ?_
    have := key (B := []) (by rw [if_neg hb])
    rw [List.append_nil] at this
    exact ds_retR this
inductive gWith (K : PySem.W.Frag) : Option Addr → List Pd → Pd → Prop
  | mk (b : List Nat) (x v : Nat) (n : Int) (hx : x < b.length) (hz : b.length ≤ 60) (hv : ((b.getD x 0 : Nat) : Int) + n = (v : Nat)) : gWith K none [dP K (.tuple (LN b)), dP K (nI x), dP K (.int n)] (dP K (.tuple (LN (b.set x v))))
theorem sc_with : FnScope ["bundle", "kind", "number"] ["bundle", "kind", "number"] (defScope (top 75)) := ⟨rfl, rfl, rfl, by decide +kernel, rfl, by decide +kernel, by decide +kernel⟩
-- slots: 0 bundle, 1 kind, 2 number
theorem w_with [Tb] (B : Bi K mg pA oA) (D : FunG K mg "with_item" "with_item" (top 75)) : Okd P w K mg base 1 "with_item" ["bundle", "kind", "number"] (gWith K) := by
  obtain ⟨f, fd, F, m⟩ := D
  refine ⟨f, fd, F.ok sc_with (fun vs H Q E h => SpF.len (fun M ds d hg => by cases hg; rfl) h) (fun cdv A outer s H vs Q E hr h => ⟨_, PSs.nox ((pss_one (ps_ret (pe_op op_catA (pe_op op_catA (pe_slice sl_tupA (pv 0) po_none (po_some (pv 1))) (pe_tup (pa_cons (pe_op op_add (pe_ix ix_seq (pv 0) (pv 1) (fun _ _ => rfl)) (pv 2)) pa_nil))) (pe_slice sl_tupA (pv 0) (po_some (pe_op op_add (pv 1) pe_int)) po_none))))), body_of (fun M ds d hg => ?_) h⟩), m, F.kp, F.bindsN (fun _ _ _ _ _ _ us hl => match us, hl with | [_, _, _], _ => rfl)⟩
  cases hg with
  | mk b x v n hx hz hv =>
  refine ⟨by simp, ?_⟩
  walk_at "go"
  refine ds_retR (ev_eq (el_catT (xs := LN (b.take x) ++ [nI v]) (ys := LN (b.drop (x + 1))) (el_catT (xs := LN (b.take x)) (ys := [nI v]) ?_ ?_ (by simp [LN_length]; omega)) ?_ (by simp [LN_length]; omega)) ?_)
  · exact ev_eq (el_slT (ds := LN b) (by walk_at "ev") evo_none (evo_N (K := K) (n := x) (by walk_at "ev"))) (by rw [LN_cut, cut_take])
  · exact ev_tupD (ds := [nI v]) (eva_cons (ev_eq (el_i (i := ((b.getD x 0 : Nat) : Int)) (k := n) (el_ixN (sk := .t) (by walk_at "ej") (by walk_at "ev") hx) (by walk_at "ev")) (by rw [hv])) eva_nil) (by show 1 ≤ sizeLine; decide)
  · exact ev_eq (el_slT (ds := LN b) (by walk_at "ev") (evo_N (K := K) (n := x + 1) (el_addN (a := x) (b := 1) (by walk_at "ev") (ev_eq ev_int rfl))) evo_none) (by rw [LN_cut, cut_drop])
  · have e : b.set x v = b.take x ++ [v] ++ b.drop (x + 1) := by rw [List.set_eq_take_append_cons_drop, if_pos hx]; simp
    rw [e, LN_append, LN_append]
    rfl
end
end TPE
end
section
set_option maxHeartbeats 400000
namespace TPE
open PySem PySem.Spec PyProof.Rows L2 TPI TPZ RT
local macro_rules | `(tactic| walk_at "go") => `(tactic| (try dsimp only [cxK, cxKB, cxK2]); (try dsimp [Gam]); (try simp only [List.map_cons, List.map_nil, List.cons_append, List.nil_append]))
local macro_rules | `(tactic| walk_at "ev") => `(tactic| first
  | ((with_reducible apply ev_var); exact rfl)
  | with_reducible exact ev_int
  | with_reducible exact ev_str
  | with_reducible exact ev_bl
  | with_reducible exact ev_non
  | with_reducible exact ev_c
  | ((with_reducible apply el_i) <;> walk_at "ev")
  | ((with_reducible apply el_b) <;> walk_at "ev")
  | ((with_reducible apply el_eqI); (walk_at "ev"); (walk_at "ev"))
  | ((with_reducible apply el_neI); (walk_at "ev"); (walk_at "ev"))
  | ((with_reducible apply el_eqS); (walk_at "ev"); (walk_at "ev"))
  | ((with_reducible apply el_neS); (walk_at "ev"); (walk_at "ev"))
  | ((with_reducible apply ev_notV) <;> walk_at "ev")
  | ((with_reducible apply el_isi); (walk_at "ev"); exact rfl)
  | ((with_reducible apply el_len) <;> walk_at "ej")
  | (((with_reducible apply ev_aT); (walk_at "ev")))
  | (((with_reducible apply ev_aL); (walk_at "ev")))
  | (((with_reducible apply ev_aP); (walk_at "ev")))
  | (((with_reducible apply ev_pl); (walk_at "ev"))))
local macro_rules | `(tactic| walk_at "ej") => `(tactic| first
  | ((with_reducible apply ev_own); exact rfl)
  | ((with_reducible apply EvJ.q_s); walk_at "ev")
  | ((with_reducible apply EvJ.q_l); walk_at "ev")
  | ((with_reducible apply EvJ.q_t); walk_at "ev")
  | ((with_reducible apply evj); walk_at "ev"))
local macro_rules | `(tactic| walk_at "ea") => `(tactic| first
  | with_reducible exact eva_nil
  | ((with_reducible apply eva_cons); (walk_at "ev"); (walk_at "ea")))
local macro_rules | `(tactic| walk_at "et") => `(tactic| first
  | ((with_reducible apply evt_or); (walk_at "et"); (intro _; walk_at "et"))
  | ((with_reducible apply evt_and); (walk_at "et"); (intro _; walk_at "et"))
  | ((with_reducible apply evt_not); (walk_at "et"))
  | ((with_reducible apply evt_test); (walk_at "ev"))
  | ((with_reducible apply evt_tB); (walk_at "ev")))
local macro_rules | `(tactic| walk_at "le") => `(tactic| ((try simp only [List.set_cons_zero, List.set_cons_succ]); repeat' (first | exact Le.nil | (with_reducible apply Le.un) | (apply Le.eq rfl) | apply Le.eq)))
theorem fil_yes {α : Type} {q : α → Bool} {x : α} (h : q x = true) : [x].filter q = [x] := by rw [List.filter_cons, h]; rfl
theorem fil_no {α : Type} {q : α → Bool} {x : α} (h : q x = false) : [x].filter q = [] := by rw [List.filter_cons, h]; rfl
section
variable {P : Program} {w : World} {K : PySem.W.Frag} {mg : Str → Option Value} {base : Heap} {pA oA : Addr}
section
variable {M : Option Addr} {Γ : List Slt} {ta tb t : TE}
theorem el_neg [Tb] {i : Int} (h : Ev M t Γ (dP K (.int i))) : Ev M (tUn (rU fun i => .int (-i)) t) Γ (dP K (.int (-i))) := fun B O0 O σ H E Q q => h B O0 O σ H E _ fun v O1 H1 s hv => by
  have hv : Dp K (wo H1 O1) v (.int i) := hv
  cases hv
  exact ⟨i, rfl, q _ O1 H1 s (.int _)⟩
theorem el_eqT [Tb] {a b : List Nat} (ha : Ev M ta Γ (dP K (.tuple (LN a)))) (hb : Ev M tb Γ (dP K (.tuple (LN b)))) : Ev M (tOp (rEqD K) ta tb) Γ (dP K (.bool (decide (a = b)))) :=
  ev_eq (ev_op (evj ha) (evj hb) (oj_eqD toD_d toD_d (shaped_intsT (ZN a)) (shaped_intsT (ZN b)))) (by rw [LN_eq, LN_eq, eqv_intsT, ZN_eq])
theorem el_neT [Tb] {a b : List Nat} (ha : Ev M ta Γ (dP K (.tuple (LN a)))) (hb : Ev M tb Γ (dP K (.tuple (LN b)))) : Ev M (tOp (rNeD K) ta tb) Γ (dP K (.bool (!decide (a = b)))) :=
  ev_eq (ev_op (evj ha) (evj hb) (oj_neD toD_d toD_d (shaped_intsT (ZN a)) (shaped_intsT (ZN b)))) (by rw [LN_eq, LN_eq, eqv_intsT, ZN_eq])
/-- the first sign of a word -/
theorem el_fst [Tb] {u : List Bool} {p : Bool} {v : List Bool} (e : u = p :: v) (h : Ev M t Γ (dP K (.str (SW u)))) (hz : u.length ≤ 1000) : Ev M (tOp (rIx K) t (tC (.int 0))) Γ (dP K (pD p)) := by
  subst e
  exact ev_op (evj h) (evj ev_int) (oj_ixS (k := cd p) (by rw [SW_length]; exact Nat.le_of_lt (small1000 hz)) (by rw [SW_toList]; exact atI_nat (j := 0) rfl))
end
theorem endB_length {r1 r2 c : List Nat} {w : List Bool} {p : Bool} : (endB r1 r2 c w p).length = c.length := by unfold endB bndl; exact vN_length
/-- is x a best first pick -/
def isBf (r1 r2 c : List Nat) (w : List Bool) (p : Bool) (x : Nat) : Bool := decide (0 < c.getD x 0) && decide ((endB r1 r2 (dec c x) (w.drop 1) p).set x ((endB r1 r2 (dec c x) (w.drop 1) p).getD x 0 + 1) = endB r1 r2 c w p)
def bfp (r1 r2 c : List Nat) (w : List Bool) (p : Bool) : List Nat := (rk r1 r2 p).filter (isBf r1 r2 c w p)
theorem plP_if {a b : List Nat} (p : Bool) : atI [plP K (LN a), plP K (LN b)] ((if p then 0 else 1 : Nat) : Int) = some (plP K (LN (if p then a else b))) := by cases p <;> rfl
theorem endB_if {r1 r2 c : List Nat} {w : List Bool} (p : Bool) : (if p then endB r1 r2 c w true else endB r1 r2 c w false) = endB r1 r2 c w p := by cases p <;> rfl
inductive gBF1 (K : PySem.W.Frag) : Option Addr → List Pd → Pd → Prop
  | mk (c r1 r2 : List Nat) (bs : List (List Bool × Nat)) (p : Bool) (v : List Bool) (h1 : RkOk c.length r1) (h2 : RkOk c.length r2) (h : BlOk bs) (hf : bs.length ≤ 99) (hw : (flat bs).length = c.sum) (hz : (flat bs).length ≤ 300) (hv : flat bs = p :: v) :
    gBF1 K none [dP K (.tuple (LN c)), dP K (lsD r1 r2), sqA K (BD bs)] (dP K (.list (LN (bfp r1 r2 c (flat bs) p))))
theorem sc_bfirst : FnScope ["counts", "lists", "sequence", "player", "rest", "side", "found", "end", "kind", "later"] ["counts", "lists", "sequence"] (defScope (top 76)) := ⟨rfl, rfl, rfl, by decide +kernel, rfl, by decide +kernel, by decide +kernel⟩
-- slots: 0 counts, 1 lists, 2 sequence, 3 player, 4 rest, 5 side, 6 found, 7 end, 8 kind, 9 later
theorem w_bfirst [Tb] (B : Bi K mg pA oA) (D : FunG K mg "best_first_picks" "best_first_picks" (top 76)) (O_require_whole_thinking : Okd P w K mg base 6 "require_whole_thinking" ["counts", "lists", "sequence"] (gWhole K)) (O_own_list : Okd P w K mg base 1 "own_list" ["lists", "player"] (gOwn K)) (O_picks_of : Okd P w K mg base 1 "picks_of" ["sequence"] (gPicks K)) (O_without_first : Okd P w K mg base 1 "without_first" ["sequence"] (gWF K)) (O_end_bundles : Okd P w K mg base 5 "end_bundles" ["counts", "lists", "blocks"] (gEnd K)) (O_with_item : Okd P w K mg base 1 "with_item" ["bundle", "kind", "number"] (gWith K)) : Okd P w K mg base 7 "best_first_picks" ["counts", "lists", "sequence"] (gBF1 K) := by
  obtain ⟨f, fd, F, m⟩ := D
  refine ⟨f, fd, F.ok sc_bfirst (fun vs H Q E h => SpF.len (fun M ds d hg => by cases hg; rfl) h) (fun cdv A outer s H vs Q E hr h => ⟨_, PSs.nox ((pss_cons (ps_expr (pe_callO O_require_whole_thinking (hr.mono (by decide)) rfl (pa_cons (pv 0) (pa_cons (pv 1) (pa_cons (pv 2) pa_nil)))))
    (pss_cons (ps_if (pt_cmpR op_eq (pe_callO O_picks_of (hr.mono (by decide)) rfl (pa_cons (pv 2) pa_nil)) pe_int (nomark _))
    (pss_one (ps_ret (pe_lst pa_nil)))
    pss_nil)
    (pss_cons (ps_par (i := 3) (j := 4) rfl sc_bfirst.nd rfl rfl (by decide) rfl rfl (pa_cons (pe_ix ix_seq (pe_ix ix_seq (pe_ix ix_seq (pv 2) pe_int (fun _ _ => rfl)) pe_int (fun _ _ => rfl)) pe_int (fun _ _ => rfl)) (pa_cons (pe_callO O_without_first (hr.mono (by decide)) rfl (pa_cons (pv 2) pa_nil)) pa_nil)) rfl)
    (pss_cons (ps_par (i := 5) (j := 6) rfl sc_bfirst.nd rfl rfl (by decide) rfl rfl (pa_cons (pe_bm PySem.F.plainAttrs_tuple PySem.F.slot_tuple_index PySem.F.type_tuple_index mt_tup_index (pe_globR rfl B.mPLAYERS) (pa_cons (pv 3) pa_nil)) (pa_cons (pe_lst pa_nil) pa_nil)) rfl)
    (pss_cons (ps_set (i := 7) sc_bfirst.nd rfl (by first | exact Or.inl rfl | exact Or.inr rfl) (pe_ix ix_seq (pe_callO O_end_bundles (hr.mono (by decide)) rfl (pa_cons (pv 0) (pa_cons (pv 1) (pa_cons (pv 2) pa_nil)))) (pv 5) (fun _ _ => rfl)))
    (pss_cons (ps_for PassesOwn.never rfl (pi_src (pe_callO O_own_list (hr.mono (by decide)) rfl (pa_cons (pv 1) (pa_cons (pv 3) pa_nil)))) (pg_name (i := 8) sc_bfirst.nd rfl (by first | exact Or.inl rfl | exact Or.inr rfl))
    (pss_one (ps_if (pt_cmpR op_gt (pe_ix ix_seq (pv 0) (pv 8) (fun _ _ => rfl)) pe_int (nomark _))
    (pss_cons (ps_set (i := 9) sc_bfirst.nd rfl (by first | exact Or.inl rfl | exact Or.inr rfl) (pe_ix ix_seq (pe_callO O_end_bundles (hr.mono (by decide)) rfl (pa_cons (pe_callO O_with_item (hr.mono (by decide)) rfl (pa_cons (pv 0) (pa_cons (pv 8) (pa_cons (pe_un un_neg pe_int) pa_nil)))) (pa_cons (pv 1) (pa_cons (pv 4) pa_nil)))) (pv 5) (fun _ _ => rfl)))
    (pss_one (ps_if (pt_cmpR (op_eqD hr.units) (pe_callO O_with_item (hr.mono (by decide)) rfl (pa_cons (pv 9) (pa_cons (pv 8) (pa_cons pe_int pa_nil)))) (pv 7) (nomark _))
    (pss_one (ps_expr (pe_bm PySem.F.plainAttrs_list PySem.F.slot_list_append PySem.F.type_list_append mt_append (pv 6) (pa_cons (pv 8) pa_nil))))
    pss_nil)))
    pss_nil)))
    (pss_one (ps_ret (pv 6)))))))))), body_of (fun M ds d hg => ?_) h⟩), m, F.kp, F.bindsN (fun _ _ _ _ _ _ us hl => match us, hl with | [_, _, _], _ => rfl)⟩
  cases hg with
  | mk c r1 r2 bs p v h1 h2 h hf hw hz hv =>
  refine ⟨by simp, ?_⟩
  walk_at "go"
  refine dq_drop (ev_call (by walk_at "ea") (gWhole.mk c r1 r2 bs h1 h2 h hw) (.inl rfl)) ?_
  refine dq_guard (b := decide (((flat bs).length : Int) = 0)) (evt_test (el_eqI (ev_call (by walk_at "ea") (gPicks.mk bs h) (.inl rfl)) (by walk_at "ev"))) (by rw [hv]; simp; omega) ?_
  have hb0 : bs ≠ [] := fun e => by rw [e] at hv; cases hv
  obtain ⟨b, bs', hbe⟩ := List.exists_cons_of_ne_nil hb0
  obtain ⟨u, n⟩ := b
  obtain ⟨q1, q2, q3, q4⟩ := h.ok (u, n) (by rw [hbe]; exact List.mem_cons_self)
  simp only at q1 q2 q3 q4
  have hu : ∃ u', u = p :: u' := by
    obtain ⟨a, u', e⟩ := List.exists_cons_of_ne_nil q1
    have : flat bs = u ++ ((List.replicate (n - 1) u).flatten ++ flat bs') := by
      obtain ⟨m, rfl⟩ : ∃ m, n = m + 1 := ⟨n - 1, by omega⟩
      rw [hbe, flat_cons]
      show (List.replicate (m + 1) u).flatten ++ flat bs' = _
      rw [List.replicate_succ, List.flatten_cons, List.append_assoc]
      rfl
    rw [hv, e] at this
    have ep := (List.cons.inj this).1
    exact ⟨u', by rw [e, ep]⟩
  obtain ⟨u', hu⟩ := hu
  have hat : atI (BD bs) 0 = some (bD (u, n)) := by rw [hbe]; exact atI_nat (j := 0) rfl
  refine dq_par (c := .val (dP K (pD p))) (c2 := .val (dP K (.list (BD (wfB bs))))) (EvC.of (el_fst hu (el_ix (K := K) (sk := .t) (ds := [.str (SW u), nI n]) (i := 0) (EvJ.q_t (el_ix (K := K) (sk := .any) (ds := BD bs) (i := 0) (EvJ.q_s (by walk_at "ev")) ev_int hat)) ev_int rfl) (by omega))) (EvC.of (ev_call (by walk_at "ea") (gWF.mk bs h hf hb0) (.inl rfl))) (by decide) ?_
  simp only [List.set_cons_zero, List.set_cons_succ]
  refine dq_par (c := .val (dP K (nI (if p then 0 else 1)))) (c2 := .own (ownL K [])) (EvC.of (B.idx (by walk_at "ev"))) (evc_lst (ds := []) eva_nil (Nat.zero_le _)) (by decide) ?_
  simp only [List.set_cons_zero, List.set_cons_succ]
  refine dq_setV (d := plP K (LN (endB r1 r2 c (flat bs) p))) (endB_if (r1 := r1) (r2 := r2) (c := c) (w := flat bs) p ▸ el_ixP (ps := [plP K (LN (endB r1 r2 c (flat bs) true)), plP K (LN (endB r1 r2 c (flat bs) false))]) (i := ((if p then 0 else 1 : Nat) : Int)) (ev_call (by walk_at "ea") (gEnd.mk c r1 r2 bs h1 h2 h (by omega) hz) (.inl rfl)) (by walk_at "ev") (plP_if p)) ?_
  simp only [List.set_cons_zero, List.set_cons_succ]
  have hr := rk_ok h1 h2 p
  have h60 := h1.few
  refine dq_forL (evi_src (ds := LN (rk r1 r2 p)) (rk_d (K := K) (r1 := r1) (r2 := r2) p ▸ ev_call (eva_cons (lsD_tup (by walk_at "ev")) (eva_cons (by walk_at "ev") eva_nil)) (gOwn.mk (dP K (.tuple (LN r1))) (dP K (.tuple (LN r2))) p) (.inl rfl)) itd_t) (fun i => True) (fun i => [.val (dP K (.tuple (LN c))), .val (dP K (lsD r1 r2)), .val (sqA K (BD bs)), .val (dP K (pD p)), .val (dP K (.list (BD (wfB bs)))), .val (dP K (nI (if p then 0 else 1))), .own (ownL K (LN (((rk r1 r2 p).take i).filter (isBf r1 r2 c (flat bs) p)))), .val (plP K (LN (endB r1 r2 c (flat bs) p))), .un, .un]) ⟨trivial, by walk_at "le"⟩ (fun i hi _ => ?_) (fun _ => ?_)
  · rw [LN_length] at hi
    rw [LN_getD hi, getD_of hi]
    have hx : (rk r1 r2 p)[i] < c.length := hr.lt (List.getElem_mem hi)
    have hfl : (((rk r1 r2 p).take i).filter (isBf r1 r2 c (flat bs) p)).length ≤ 60 := by
      have a1 := List.length_filter_le (isBf r1 r2 c (flat bs) p) ((rk r1 r2 p).take i)
      have a2 := hr.length
      rw [List.length_take] at a1
      omega
    have htk : (rk r1 r2 p).take (i + 1) = (rk r1 r2 p).take i ++ [(rk r1 r2 p)[i]] := by rw [List.take_add_one, List.getElem?_eq_getElem hi]; rfl
    rw [htk, List.filter_append]
    generalize ((rk r1 r2 p).take i).filter (isBf r1 r2 c (flat bs) p) = L at *
    generalize (rk r1 r2 p)[i] = x at *
    refine ⟨_, _, gt1, ?_⟩
    simp only [List.set_cons_zero, List.set_cons_succ]
    refine ds_ifB (b := decide ((0 : Int) < (c.getD x 0 : Nat))) (evt_test (K := K) (el_b (el_ixN (sk := .t) (by walk_at "ej") (by walk_at "ev") hx) (by walk_at "ev"))) (fun h0 => ?_) fun h0 => ?_
    · have h0 : 0 < c.getD x 0 := by simp at h0; rw [List.getD_eq_getElem?_getD]; omega
      have hdl : (dec c x).length = c.length := dec_length
      have hds := dec_sum hx h0
      have hwl : (flat (wfB bs)).length + 1 = (flat bs).length := by rw [flat_wf h, hv]; simp
      have hE := endB_length (r1 := r1) (r2 := r2) (c := dec c x) (w := flat (wfB bs)) (p := p)
      refine dq_setV (d := plP K (LN (endB r1 r2 (dec c x) (flat (wfB bs)) p))) (endB_if (r1 := r1) (r2 := r2) (c := dec c x) (w := flat (wfB bs)) p ▸ el_ixP (ps := [plP K (LN (endB r1 r2 (dec c x) (flat (wfB bs)) true)), plP K (LN (endB r1 r2 (dec c x) (flat (wfB bs)) false))]) (i := ((if p then 0 else 1 : Nat) : Int)) (ev_call (eva_cons (ev_aT (ds := LN (dec c x)) (ev_call (eva_cons (by walk_at "ev") (eva_cons (by walk_at "ev") (eva_cons (el_neg ev_int) eva_nil))) (gWith.mk c x (c.getD x 0 - 1) (-1) hx (by omega) (by omega)) (.inl rfl))) (by walk_at "ea")) (gEnd.mk (dec c x) r1 r2 (wfB bs) (by rw [hdl]; exact h1) (by rw [hdl]; exact h2) (wf_ok h hf) (by omega) (by omega)) (.inl rfl)) (by walk_at "ev") (plP_if p)) ?_
      simp only [List.set_cons_zero, List.set_cons_succ]
      have hq : isBf r1 r2 c (flat bs) p x = decide ((endB r1 r2 (dec c x) (flat (wfB bs)) p).set x ((endB r1 r2 (dec c x) (flat (wfB bs)) p).getD x 0 + 1) = endB r1 r2 c (flat bs) p) := by
        unfold isBf
        rw [decide_eq_true h0, Bool.true_and, flat_wf h]
      refine ds_ifB (b := isBf r1 r2 c (flat bs) p x) (evt_eq (evt_test (K := K) (el_eqT (a := (endB r1 r2 (dec c x) (flat (wfB bs)) p).set x ((endB r1 r2 (dec c x) (flat (wfB bs)) p).getD x 0 + 1)) (b := endB r1 r2 c (flat bs) p) (ev_call (eva_cons (ev_pl (by walk_at "ev")) (eva_cons (by walk_at "ev") (eva_cons (by walk_at "ev") eva_nil))) (gWith.mk (endB r1 r2 (dec c x) (flat (wfB bs)) p) x ((endB r1 r2 (dec c x) (flat (wfB bs)) p).getD x 0 + 1) 1 (by omega) (by omega) (by omega)) (.inl rfl)) (ev_pl (by walk_at "ev")))) hq.symm) (fun h3 => ?_) fun h3 => ?_
      · refine ds_append (K := K) (ds := LN L) (x := nI x) rfl (by walk_at "ev") (by rw [LN_length]; exact small1000 (by omega)) ⟨trivial, ?_⟩
        have e : LN L ++ [nI x] = LN (L ++ [x].filter (isBf r1 r2 c (flat bs) p)) := by rw [LN_append, fil_yes h3]; rfl
        rw [e]
        walk_at "le"
      · refine ds_next ⟨trivial, ?_⟩
        rw [fil_no h3, List.append_nil]
        walk_at "le"
    · refine ds_next ⟨trivial, ?_⟩
      have h0 : ¬ 0 < c.getD x 0 := by simp at h0; rw [List.getD_eq_getElem?_getD]; omega
      have h3 : isBf r1 r2 c (flat bs) p x = false := by unfold isBf; rw [decide_eq_false h0, Bool.false_and]
      rw [fil_no h3, List.append_nil]
      walk_at "le"
  · rw [LN_length, List.take_length]
    refine ds_frz 6 (K := K) (ds := LN (bfp r1 r2 c (flat bs) p)) rfl ?_
    exact ds_retR (by walk_at "ev")
end
end TPE
end
section
set_option maxHeartbeats 400000
namespace TPE
open PySem PySem.Spec PyProof.Rows L2 TPI TPZ RT
local macro_rules | `(tactic| walk_at "go") => `(tactic| (try dsimp only [cxK, cxKB, cxK2]); (try dsimp [Gam]); (try simp only [List.map_cons, List.map_nil, List.cons_append, List.nil_append]))
local macro_rules | `(tactic| walk_at "ev") => `(tactic| first
  | ((with_reducible apply ev_var); exact rfl)
  | with_reducible exact ev_int
  | with_reducible exact ev_str
  | with_reducible exact ev_bl
  | with_reducible exact ev_non
  | with_reducible exact ev_c
  | ((with_reducible apply el_i) <;> walk_at "ev")
  | ((with_reducible apply el_b) <;> walk_at "ev")
  | ((with_reducible apply el_eqI); (walk_at "ev"); (walk_at "ev"))
  | ((with_reducible apply el_neI); (walk_at "ev"); (walk_at "ev"))
  | ((with_reducible apply el_eqS); (walk_at "ev"); (walk_at "ev"))
  | ((with_reducible apply el_neS); (walk_at "ev"); (walk_at "ev"))
  | ((with_reducible apply ev_notV) <;> walk_at "ev")
  | ((with_reducible apply el_isi); (walk_at "ev"); exact rfl)
  | ((with_reducible apply el_len) <;> walk_at "ej")
  | (((with_reducible apply ev_aT); (walk_at "ev")))
  | (((with_reducible apply ev_aL); (walk_at "ev")))
  | (((with_reducible apply ev_aP); (walk_at "ev")))
  | (((with_reducible apply ev_pl); (walk_at "ev"))))
local macro_rules | `(tactic| walk_at "ej") => `(tactic| first
  | ((with_reducible apply ev_own); exact rfl)
  | ((with_reducible apply EvJ.q_s); walk_at "ev")
  | ((with_reducible apply EvJ.q_l); walk_at "ev")
  | ((with_reducible apply EvJ.q_t); walk_at "ev")
  | ((with_reducible apply evj); walk_at "ev"))
local macro_rules | `(tactic| walk_at "ea") => `(tactic| first
  | with_reducible exact eva_nil
  | ((with_reducible apply eva_cons); (walk_at "ev"); (walk_at "ea")))
local macro_rules | `(tactic| walk_at "et") => `(tactic| first
  | ((with_reducible apply evt_or); (walk_at "et"); (intro _; walk_at "et"))
  | ((with_reducible apply evt_and); (walk_at "et"); (intro _; walk_at "et"))
  | ((with_reducible apply evt_not); (walk_at "et"))
  | ((with_reducible apply evt_test); (walk_at "ev"))
  | ((with_reducible apply evt_tB); (walk_at "ev")))
local macro_rules | `(tactic| walk_at "le") => `(tactic| ((try simp only [List.set_cons_zero, List.set_cons_succ]); repeat' (first | exact Le.nil | (with_reducible apply Le.un) | (apply Le.eq rfl) | apply Le.eq)))
theorem rep_drop {α : Type} (u : List α) (hu : 0 < u.length) {t m : Nat} (h : m / u.length < t) : (List.replicate t u).flatten.drop m = u.drop (m - m / u.length * u.length) ++ (List.replicate (t - m / u.length - 1) u).flatten := by
  have hm : m / u.length * u.length ≤ m := Nat.div_mul_le_self m u.length
  have hr : m - m / u.length * u.length < u.length := by
    have := Nat.mod_lt m hu
    have e := Nat.div_add_mod m u.length
    rw [Nat.mul_comm] at e
    omega
  have e1 : (List.replicate (m / u.length) u).flatten.drop m = [] := List.drop_eq_nil_of_le (by rw [rep_length]; exact hm)
  rw [rep_split u h, List.drop_append, e1, rep_length, List.nil_append, List.drop_append_of_le_length (by omega)]
/-- a rest: blocks of what is left of a word -/
structure RestOk (w : List Bool) (most : Nat) (rest : List (List Bool × Nat)) : Prop where
  word : flat rest = w
  few : rest.length ≤ most
  ok : ∀ b ∈ rest, b.1 ≠ [] ∧ b.1.length ≤ 20 ∧ 1 ≤ b.2 ∧ b.2 ≤ 1000
theorem flat_one (b : List Bool × Nat) : flat [b] = (List.replicate b.2 b.1).flatten := by rw [flat_cons, flat_nil, List.append_nil]
section
variable {P : Program} {w : World} {K : PySem.W.Frag} {mg : Str → Option Value} {base : Heap} {pA oA : Addr}
inductive gRest (K : PySem.W.Frag) : Option Addr → List Pd → Pd → Prop
  | mk (bs : List (List Bool × Nat)) (h : BlOk bs) (n : Nat) (hn : n ≤ (flat bs).length) : gRest K none [sqA K (BD bs), dP K (nI n)] (exP fun rest : { rest : List (List Bool × Nat) // RestOk ((flat bs).drop n) (bs.length + 1) rest } => dP K (.list (BD rest.1)))
theorem sc_rest : FnScope ["sequence", "picks", "found", "turns", "times", "whole"] ["sequence", "picks"] (defScope (top 40)) := ⟨rfl, rfl, rfl, by decide +kernel, rfl, by decide +kernel, by decide +kernel⟩
-- slots: 0 sequence, 1 picks, 2 found, 3 turns, 4 times, 5 whole
theorem w_rest [Tb] (B : Bi K mg pA oA) (D : FunG K mg "rest_of" "rest_of" (top 40)) (O_require_sequence : Okd P w K mg base 4 "require_sequence" ["sequence"] (gRSeq K)) (O_is_between : Okd P w K mg base 2 "is_between" ["value", "low", "high"] (gBetween K)) (O_picks_of : Okd P w K mg base 1 "picks_of" ["sequence"] (gPicks K)) : Okd P w K mg base 5 "rest_of" ["sequence", "picks"] (gRest K) := by
  obtain ⟨f, fd, F, m⟩ := D
  refine ⟨f, fd, F.ok sc_rest (fun vs H Q E h => SpF.len (fun M ds d hg => by cases hg; rfl) h) (fun cdv A outer s H vs Q E hr h => ⟨_, PSs.nox ((pss_cons (ps_expr (pe_callO O_require_sequence (hr.mono (by decide)) rfl (pa_cons (pv 0) pa_nil)))
    (pss_cons (ps_if (pt_not (pt_val (pe_callO O_is_between (hr.mono (by decide)) rfl (pa_cons (pv 1) (pa_cons pe_int (pa_cons (pe_callO O_picks_of (hr.mono (by decide)) rfl (pa_cons (pv 0) pa_nil)) pa_nil))))))
    (pss_one ps_never)
    pss_nil)
    (pss_cons (ps_if (pt_cmpR op_eq (pe_callB call_len rfl B.len (by decide +kernel) (pa_cons (pv 0) pa_nil)) (pe_globI rfl B.mMAX_BLOCKS) (nomark _))
    (pss_one ps_never)
    pss_nil)
    (pss_cons (ps_set (i := 2) sc_rest.nd rfl (by first | exact Or.inl rfl | exact Or.inr rfl) (pe_lst pa_nil))
    (pss_cons (ps_for PassesOwn.never rfl (pi_src (pv 0)) (pg_tup rfl (pgs_cons (pg_name (i := 3) sc_rest.nd rfl (by first | exact Or.inl rfl | exact Or.inr rfl)) (pgs_cons (pg_name (i := 4) sc_rest.nd rfl (by first | exact Or.inl rfl | exact Or.inr rfl)) pgs_nil)))
    (pss_cons (ps_set (i := 5) sc_rest.nd rfl (by first | exact Or.inl rfl | exact Or.inr rfl) (pe_callB (call_min2 rfl) rfl B.min (by decide +kernel) (pa_cons (pv 4) (pa_cons (pe_op op_fdiv (pv 1) (pe_callB call_len rfl B.len (by decide +kernel) (pa_cons (pv 3) pa_nil))) pa_nil))))
    (pss_cons (ps_aug (i := 1) sc_rest.nd rfl (by first | exact Or.inl rfl | exact Or.inr rfl) (pe_op op_mul (pv 5) (pe_callB call_len rfl B.len (by decide +kernel) (pa_cons (pv 3) pa_nil))) ip_sub)
    (pss_cons (ps_if (PW.pt (pw_and (pt_cmpR op_lt (pv 5) (pv 4) (nomark _)) (pw_and1 (pt_cmpR op_gt (pv 1) pe_int (nomark _)))))
    (pss_cons (ps_expr (pe_bm PySem.F.plainAttrs_list PySem.F.slot_list_append PySem.F.type_list_append mt_append (pv 2) (pa_cons (pe_tup (pa_cons (pe_slice sl_str (pv 3) (po_some (pv 1)) po_none) (pa_cons pe_int pa_nil))) pa_nil)))
    (pss_one (ps_par (i := 1) (j := 5) rfl sc_rest.nd rfl rfl (by decide) rfl rfl (pa_cons pe_int (pa_cons (pe_op op_add (pv 5) pe_int) pa_nil)) rfl)))
    pss_nil)
    (pss_one (ps_if (pt_cmpR op_lt (pv 5) (pv 4) (nomark _))
    (pss_one (ps_expr (pe_bm PySem.F.plainAttrs_list PySem.F.slot_list_append PySem.F.type_list_append mt_append (pv 2) (pa_cons (pe_tup (pa_cons (pv 3) (pa_cons (pe_op op_sub (pv 4) (pv 5)) pa_nil))) pa_nil))))
    pss_nil))))))
    (pss_one (ps_ret (pv 2))))))))), body_of (fun M ds d hg => ?_) h⟩), m, F.kp, F.bindsN (fun _ _ _ _ _ _ us hl => match us, hl with | [_, _], _ => rfl)⟩
  cases hg with
  | mk bs h n hn =>
  refine ⟨by simp, ?_⟩
  walk_at "go"
  have hfew := h.few
  refine dq_drop (ev_call (by walk_at "ea") (gRSeq.mk bs h) (.inl rfl)) ?_
  refine dq_guard (b := !(decide ((0 : Int) ≤ (n : Nat)) && decide (((n : Nat) : Int) ≤ ((flat bs).length : Nat)))) (evt_not (evt_tB (ev_call (eva_cons (by walk_at "ev") (eva_cons (by walk_at "ev") (eva_cons (ev_call (by walk_at "ea") (gPicks.mk bs h) (.inl rfl)) eva_nil))) (gBetween.mk _ _ _) (.inl rfl)))) (by rw [decide_eq_true (by omega), decide_eq_true (by omega)]; rfl) ?_
  refine dq_guard (b := decide ((((BD bs).length : Nat) : Int) = 200)) (evt_test (K := K) (by walk_at "ev")) (by simp [BD]; omega) ?_
  refine dq_set (c := .own (ownL K (BD []))) (evc_lst (ds := []) eva_nil (Nat.zero_le _)) ?_
  simp only [List.set_cons_zero, List.set_cons_succ]
  refine dq_for (evi_src (ds := BD bs) (by walk_at "ev") itd_q) (fun i Γ' => ∃ rest, RestOk ((flat (bs.take i)).drop n) (i + 1) rest ∧ ((flat (bs.take i)).length ≤ n → rest = []) ∧ Le Γ' [.val (sqA K (BD bs)), .val (dP K (nI (n - (flat (bs.take i)).length))), .own (ownL K (BD rest)), .un, .un, .un])
    ⟨[], ⟨by simp [flat], by simp, fun b hb => by cases hb⟩, fun _ => rfl, by walk_at "le"⟩ (fun i Γ' hi hI => ?_) (fun Γ' hI => ?_)
  · obtain ⟨rest, rok, rnil, hle⟩ := hI
    have hi' : i < bs.length := by simpa [BD] using hi
    rw [BD_getD hi']
    obtain ⟨q1, q2, q3, q4⟩ := h.ok _ (List.getElem_mem hi')
    refine ⟨_, _, fun B O0 O σ H x E hx Q q => gt2 B O0 O σ H x (E.le hle) hx Q q, ?_⟩
    simp only [List.set_cons_zero, List.set_cons_succ]
    have hfl := flat_take_succ bs hi'
    have hL2 := congrArg List.length hfl
    rw [List.length_append, rep_length] at hL2
    rw [hfl, List.length_append, rep_length]
    generalize flat (bs.take i) = D at *
    generalize bs[i] = b at *
    obtain ⟨u, T⟩ := b
    simp only at q1 q2 q3 q4 hfl hL2
    have hu : 0 < u.length := List.length_pos_iff.mpr q1
    generalize hm : n - D.length = m at *
    have hTl : 1 ≤ T * u.length := Nat.mul_pos q3 hu
    -- the end of a turn
    have fin : ∀ {rest' : List (List Bool × Nat)} {Γ2 : List Slt}, RestOk ((D ++ (List.replicate T u).flatten).drop n) (i + 1 + 1) rest' → (D.length + T * u.length ≤ n → rest' = []) → Le Γ2 [.val (sqA K (BD bs)), .val (dP K (nI (n - (D.length + T * u.length)))), .own (ownL K (BD rest')), .un, .un, .un] →
      ∃ rest, RestOk ((D ++ (List.replicate T u).flatten).drop n) (i + 1 + 1) rest ∧ (D.length + T * u.length ≤ n → rest = []) ∧ Le Γ2 [.val (sqA K (BD bs)), .val (dP K (nI (n - (D.length + T * u.length)))), .own (ownL K (BD rest)), .un, .un, .un] := fun a b c => ⟨_, a, b, c⟩
    refine dq_setV (d := dP K (nI (min T (m / u.length)))) (el_minN (by walk_at "ev") (el_divN (by walk_at "ev") (el_lenW (by walk_at "ev") (len20 q2)) hu (by omega))) ?_
    simp only [List.set_cons_zero, List.set_cons_succ]
    have hwle : min T (m / u.length) * u.length ≤ m := Nat.le_trans (Nat.mul_le_mul_right _ (Nat.min_le_right _ _)) (Nat.div_mul_le_self _ _)
    refine ds_seq (ds_aug (a := (m : Nat)) (b := ((min T (m / u.length) * u.length : Nat) : Int)) rfl (el_mulN (by walk_at "ev") (el_lenW (by walk_at "ev") (len20 q2)) (by omega)) ?_)
    simp only [List.set_cons_zero, List.set_cons_succ]
    have e2 : PyData.int (((m : Nat) : Int) - ((min T (m / u.length) * u.length : Nat) : Int)) = nI (m - min T (m / u.length) * u.length) := by simp only [nI]; congr 1; omega
    rw [e2]
    by_cases hq : m / u.length < T
    · have hmin : min T (m / u.length) = m / u.length := by omega
      rw [hmin] at hwle ⊢
      have hmlt : m < T * u.length := (Nat.div_lt_iff_lt_mul hu).mp hq
      have hr : m - m / u.length * u.length < u.length := by
        have a1 := Nat.mod_lt m hu
        have a2 := Nat.div_add_mod m u.length
        rw [Nat.mul_comm] at a2
        omega
      have hdrop : (D ++ (List.replicate T u).flatten).drop n = D.drop n ++ (u.drop (m - m / u.length * u.length) ++ (List.replicate (T - m / u.length - 1) u).flatten) := by
        rw [List.drop_append, hm, rep_drop u hu hq]
      have hlast : ¬ D.length + T * u.length ≤ n := by omega
      have hz : n - (D.length + T * u.length) = 0 := by omega
      rw [hz, hdrop] at fin
      rw [hz, hdrop]
      generalize hqe : m / u.length = q at *
      generalize hre : m - q * u.length = r at *
      have hrest0 : 0 < r → rest = [] := fun h0 => rnil (by omega)
      refine ds_seq (ds_ifB (b := decide (((q : Nat) : Int) < (T : Nat)) && decide ((0 : Int) < (r : Nat))) (evt_and (evt_test (K := K) (by walk_at "ev")) fun _ => evt_test (K := K) (by walk_at "ev")) (fun hb => ?_) fun hb => ?_)
      · have h0 : 0 < r := by simp at hb; omega
        have hrn := hrest0 h0
        subst hrn
        have hDn : D.drop n = [] := by have := rok.word; rw [flat_nil] at this; exact this.symm
        rw [hDn, List.nil_append] at fin ⊢
        refine dq_append (K := K) (ds := BD []) (x := bD (u.drop r, 1)) rfl (ev_tupD (ds := [.str (SW (u.drop r)), nI 1]) (eva_cons (ev_eq (el_slW (by walk_at "ev") (evo_some (K := K) (i := ((r : Nat) : Int)) (by walk_at "ev")) evo_none (len20 q2)) (by rw [cut_drop])) (eva_cons (ev_eq ev_int rfl) eva_nil)) (by show 2 ≤ sizeLine; decide)) (by show 0 < sizeLine; decide) ?_
        simp only [List.set_cons_zero, List.set_cons_succ]
        refine ds_par (c := .val (dP K (nI 0))) (c2 := .val (dP K (nI (q + 1)))) (EvC.of (ev_eq ev_int rfl)) (EvC.of (el_addN (a := q) (b := 1) (by walk_at "ev") (ev_eq ev_int rfl))) (by decide) ?_
        simp only [List.set_cons_zero, List.set_cons_succ]
        have hub : u.drop r ≠ [] := fun e => by have := congrArg List.length e; simp at this; omega
        refine ds_ifB (b := decide (((q + 1 : Nat) : Int) < (T : Nat))) (evt_test (K := K) (by walk_at "ev")) (fun h1 => ?_) fun h1 => ?_
        · have h1 : q + 1 < T := by simp at h1; omega
          refine ds_append (K := K) (ds := BD [] ++ [bD (u.drop r, 1)]) (x := bD (u, T - (q + 1))) rfl (ev_tupD (ds := [.str (SW u), nI (T - (q + 1))]) (eva_cons (by walk_at "ev") (eva_cons (el_subN (a := T) (b := q + 1) (by walk_at "ev") (by walk_at "ev") (by omega)) eva_nil)) (by show 2 ≤ sizeLine; decide)) (by show 1 < sizeLine; decide) ?_
          refine fin (rest' := [(u.drop r, 1), (u, T - (q + 1))]) ⟨?_, by simp, fun b hb => ?_⟩ (fun h => absurd h hlast) (by walk_at "le" <;> rfl)
          · rw [flat_cons, flat_one]
            have : T - q - 1 = T - (q + 1) := by omega
            rw [this]
            simp
          · rcases List.mem_cons.mp hb with rfl | hb
            · exact ⟨hub, by simp; omega, by simp, by simp⟩
            · have e := List.mem_singleton.mp hb
              subst e
              exact ⟨q1, q2, by show 1 ≤ T - (q + 1); omega, by show T - (q + 1) ≤ 1000; omega⟩
        · have h1 : ¬ q + 1 < T := by simp at h1; omega
          refine ds_next (fin (rest' := [(u.drop r, 1)]) ⟨?_, by simp, fun b hb => ?_⟩ (fun h => absurd h hlast) (by walk_at "le" <;> rfl))
          · rw [flat_one]
            have : T - q - 1 = 0 := by omega
            rw [this]
            simp
          · have e := List.mem_singleton.mp hb
            subst e
            exact ⟨hub, by simp; omega, by simp, by simp⟩
      · have h0 : r = 0 := by
          have : decide (((q : Nat) : Int) < (T : Nat)) = true := decide_eq_true (by omega)
          rw [this, Bool.true_and] at hb
          simp at hb
          omega
        subst h0
        refine ds_next ?_
        refine ds_ifB (b := decide (((q : Nat) : Int) < (T : Nat))) (evt_test (K := K) (by walk_at "ev")) (fun h1 => ?_) fun h1 => by simp at h1; omega
        have hfr := rok.few
        refine ds_append (K := K) (ds := BD rest) (x := bD (u, T - q)) rfl (ev_tupD (ds := [.str (SW u), nI (T - q)]) (eva_cons (by walk_at "ev") (eva_cons (el_subN (a := T) (b := q) (by walk_at "ev") (by walk_at "ev") (by omega)) eva_nil)) (by show 2 ≤ sizeLine; decide)) (by simp [BD]; exact small1000 (by omega)) ?_
        have e : BD rest ++ [bD (u, T - q)] = BD (rest ++ [(u, T - q)]) := by simp [BD]
        rw [e]
        refine fin (rest' := rest ++ [(u, T - q)]) ⟨?_, by simp; omega, fun b hb => ?_⟩ (fun h => absurd h hlast) (by walk_at "le")
        · rw [flat_append, rok.word, flat_one, List.drop_zero]
          show _ ++ (List.replicate (T - q) u).flatten = _
          have : T - q = (T - q - 1) + 1 := by omega
          conv => lhs; rw [this, List.replicate_succ, List.flatten_cons]
        · rcases List.mem_append.mp hb with hb | hb
          · exact rok.ok b hb
          · have e := List.mem_singleton.mp hb
            subst e
            exact ⟨q1, q2, by show 1 ≤ T - q; omega, by show T - q ≤ 1000; omega⟩
    · have hmin : min T (m / u.length) = T := by omega
      have htm : T * u.length ≤ m := Nat.le_trans (Nat.mul_le_mul_right _ (by omega)) (Nat.div_mul_le_self _ _)
      rw [hmin]
      have hrn := rnil (by omega)
      subst hrn
      have hz : m - T * u.length = n - (D.length + T * u.length) := by omega
      rw [hz]
      have hT : ∀ {X : Int}, decide (((T : Nat) : Int) < (T : Nat)) = false := fun {X} => decide_eq_false (by omega)
      refine ds_seq (ds_ifB (b := decide (((T : Nat) : Int) < (T : Nat)) && decide ((0 : Int) < ((n - (D.length + T * u.length) : Nat) : Int))) (evt_and (evt_test (K := K) (by walk_at "ev")) fun _ => evt_test (K := K) (by walk_at "ev")) (fun hb => by simp at hb) fun hb => ?_)
      refine ds_next (dq_guardL (b := decide (((T : Nat) : Int) < (T : Nat))) (evt_test (K := K) (by walk_at "ev")) (decide_eq_false (by omega)) ?_)
      refine fin (rest' := []) ⟨?_, by simp, fun b hb => by cases hb⟩ (fun _ => rfl) (by walk_at "le")
      rw [flat_nil, List.drop_eq_nil_of_le]
      rw [List.length_append, rep_length]
      omega
  · obtain ⟨rest, rok, rnil, hle⟩ := hI
    have e : (BD bs).length = bs.length := by simp [BD]
    rw [e, List.take_length] at rok
    refine ds_le hle ?_
    refine ds_frz 2 (K := K) (ds := BD rest) rfl ?_
    simp only [List.set_cons_zero, List.set_cons_succ]
    exact ds_retS (d' := dP K (.list (BD rest))) (d := exP fun rest : { rest : List (List Bool × Nat) // RestOk ((flat bs).drop n) (bs.length + 1) rest } => dP K (.list (BD rest.1))) (by walk_at "ev") (fun F v hv => ⟨⟨rest, rok⟩, hv⟩)
end
end TPE
end
section
set_option maxHeartbeats 400000
namespace TPE
open PySem PySem.Spec PyProof.Rows L2 TPI TPZ RT
local macro_rules | `(tactic| walk_at "go") => `(tactic| (try dsimp only [cxK, cxKB, cxK2]); (try dsimp [Gam]); (try simp only [List.map_cons, List.map_nil, List.cons_append, List.nil_append]))
local macro_rules | `(tactic| walk_at "ev") => `(tactic| first
  | ((with_reducible apply ev_var); exact rfl)
  | with_reducible exact ev_int
  | with_reducible exact ev_str
  | with_reducible exact ev_bl
  | with_reducible exact ev_non
  | with_reducible exact ev_c
  | ((with_reducible apply el_i) <;> walk_at "ev")
  | ((with_reducible apply el_b) <;> walk_at "ev")
  | ((with_reducible apply el_eqI); (walk_at "ev"); (walk_at "ev"))
  | ((with_reducible apply el_neI); (walk_at "ev"); (walk_at "ev"))
  | ((with_reducible apply el_eqS); (walk_at "ev"); (walk_at "ev"))
  | ((with_reducible apply el_neS); (walk_at "ev"); (walk_at "ev"))
  | ((with_reducible apply ev_notV) <;> walk_at "ev")
  | ((with_reducible apply el_isi); (walk_at "ev"); exact rfl)
  | ((with_reducible apply el_len) <;> walk_at "ej")
  | (((with_reducible apply ev_aT); (walk_at "ev")))
  | (((with_reducible apply ev_aL); (walk_at "ev")))
  | (((with_reducible apply ev_aP); (walk_at "ev")))
  | (((with_reducible apply ev_pl); (walk_at "ev"))))
local macro_rules | `(tactic| walk_at "ej") => `(tactic| first
  | ((with_reducible apply ev_own); exact rfl)
  | ((with_reducible apply EvJ.q_s); walk_at "ev")
  | ((with_reducible apply EvJ.q_l); walk_at "ev")
  | ((with_reducible apply EvJ.q_t); walk_at "ev")
  | ((with_reducible apply evj); walk_at "ev"))
local macro_rules | `(tactic| walk_at "ea") => `(tactic| first
  | with_reducible exact eva_nil
  | ((with_reducible apply eva_cons); (walk_at "ev"); (walk_at "ea")))
local macro_rules | `(tactic| walk_at "et") => `(tactic| first
  | ((with_reducible apply evt_or); (walk_at "et"); (intro _; walk_at "et"))
  | ((with_reducible apply evt_and); (walk_at "et"); (intro _; walk_at "et"))
  | ((with_reducible apply evt_not); (walk_at "et"))
  | ((with_reducible apply evt_test); (walk_at "ev"))
  | ((with_reducible apply evt_tB); (walk_at "ev")))
local macro_rules | `(tactic| walk_at "le") => `(tactic| ((try simp only [List.set_cons_zero, List.set_cons_succ]); repeat' (first | exact Le.nil | (with_reducible apply Le.un) | (apply Le.eq rfl) | apply Le.eq)))
section
variable {P : Program} {w : World} {K : PySem.W.Frag} {mg : Str → Option Value} {base : Heap} {pA oA : Addr}
def opps : List Str := ["plain", "hostile", "thinking"]
inductive gROpp (K : PySem.W.Frag) : Option Addr → List Pd → Pd → Prop
  | mk (o : Str) (h : opps.contains o = true) : gROpp K none [dP K (.str o)] (dP K .none)
theorem sc_ropp : FnScope ["opponent"] ["opponent"] (defScope (top 80)) := ⟨rfl, rfl, rfl, by decide +kernel, rfl, by decide +kernel, by decide +kernel⟩
-- slots: 0 opponent
theorem w_ropp [Tb] (B : Bi K mg pA oA) (D : FunG K mg "require_opponent" "require_opponent" (top 80)) : Okd P w K mg base 1 "require_opponent" ["opponent"] (gROpp K) := by
  obtain ⟨f, fd, F, m⟩ := D
  refine ⟨f, fd, F.ok sc_ropp (fun vs H Q E h => SpF.len (fun M ds d hg => by cases hg; rfl) h) (fun cdv A outer s H vs Q E hr h => ⟨_, PSs.nox ((pss_one (ps_if (PW.pt (pw_or (pt_not (pt_val (pe_callB call_isi rfl B.isinstance (by decide +kernel) (pa_cons (pv 0) (pa_cons (pe_bltn (v := .ty "str") rfl B.str (by decide +kernel) rfl) pa_nil))))) (pw_or1 (pt_cmpR op_notIn_seq (pv 0) (pe_globR rfl B.mOPPONENTS) (by rfl)))))
    (pss_one ps_never)
    pss_nil))), body_of (fun M ds d hg => ?_) h⟩), m, F.kp, F.bindsN (fun _ _ _ _ _ _ us hl => match us, hl with | [_], _ => rfl)⟩
  cases hg with
  | mk o h =>
  refine ⟨by simp, ?_⟩
  walk_at "go"
  apply dq_guardL
  · refine evt_or (b := false) (b' := false) ?_ fun _ => ?_
    · exact evt_eq (evt_not (evt_tB (b := true) (by walk_at "ev"))) rfl
    · exact evt_eq (evt_test (el_notIn (sk := .t) (xs := opps) (z := o) (by walk_at "ev") (EvJ.q_t B.evO))) (by rw [h]; rfl)
  · rfl
  · exact fun F => .non
inductive gWholeR (K : PySem.W.Frag) : Option Addr → List Pd → Pd → Prop
  | mk (c : List Nat) (bs : List (List Bool × Nat)) (o : Str) (h : BlOk bs) (hw : c.sum ≤ (flat bs).length) : gWholeR K none [dP K (.tuple (LN c)), sqA K (BD bs), dP K (.str o)] (dP K .none)
theorem sc_wholer : FnScope ["counts", "sequence", "opponent"] ["counts", "sequence", "opponent"] (defScope (top 81)) := ⟨rfl, rfl, rfl, by decide +kernel, rfl, by decide +kernel, by decide +kernel⟩
-- slots: 0 counts, 1 sequence, 2 opponent
theorem w_wholer [Tb] (B : Bi K mg pA oA) (D : FunG K mg "require_whole_records" "require_whole" (top 81)) (O_picks_of : Okd P w K mg base 1 "picks_of" ["sequence"] (gPicks K)) : Okd P w K mg base 2 "require_whole_records" ["counts", "sequence", "opponent"] (gWholeR K) := by
  obtain ⟨f, fd, F, m⟩ := D
  refine ⟨f, fd, F.ok sc_wholer (fun vs H Q E h => SpF.len (fun M ds d hg => by cases hg; rfl) h) (fun cdv A outer s H vs Q E hr h => ⟨_, PSs.nox ((pss_one (ps_if (PW.pt (pw_and (pt_cmpR op_eq (pv 2) pe_str (nomark _)) (pw_and1 (pt_cmpR op_lt (pe_callO O_picks_of (hr.mono (by decide)) rfl (pa_cons (pv 1) pa_nil)) (pe_callB (cr_sumT rfl) rfl B.sum (by decide +kernel) (pa_cons (pv 0) pa_nil)) (nomark _)))))
    (pss_one ps_never)
    pss_nil))), body_of (fun M ds d hg => ?_) h⟩), m, F.kp, F.bindsN (fun _ _ _ _ _ _ us hl => match us, hl with | [_, _, _], _ => rfl)⟩
  cases hg with
  | mk c bs o h hw =>
  refine ⟨by simp, ?_⟩
  walk_at "go"
  refine dq_guardL (b := decide (o = "thinking") && decide (((flat bs).length : Int) < (c.sum : Nat))) (evt_and (evt_test (K := K) (by walk_at "ev")) fun _ => evt_test (el_b (ev_call (by walk_at "ea") (gPicks.mk bs h) (.inl rfl)) (el_sumT (by walk_at "ev")))) (by rw [decide_eq_false (p := ((flat bs).length : Int) < (c.sum : Nat)) (by omega), Bool.and_false]) ?_
  exact fun F => .non
inductive gRPicks (K : PySem.W.Frag) : Option Addr → List Pd → Pd → Prop
  | mk (c ks : List Nat) (bs : List (List Bool × Nat)) (hc : c.length ≤ 60) (h : BlOk bs) (hl : ks.length ≤ (flat bs).length) (hz : ks.length ≤ 200) (hk : ∀ x ∈ ks, x < c.length) (hn : ∀ x, ks.count x ≤ c.getD x 0) :
    gRPicks K none [dP K (.tuple (LN c)), sqA K (BD bs), sqA K (LN ks)] (dP K .none)
theorem sc_rpicks : FnScope ["counts", "sequence", "picks", "left", "index", "kind"] ["counts", "sequence", "picks"] (defScope (top 83)) := ⟨rfl, rfl, rfl, by decide +kernel, rfl, by decide +kernel, by decide +kernel⟩
-- slots: 0 counts, 1 sequence, 2 picks, 3 left, 4 index, 5 kind
theorem w_rpicks [Tb] (B : Bi K mg pA oA) (D : FunG K mg "require_picks" "require_picks" (top 83)) (O_picks_of : Okd P w K mg base 1 "picks_of" ["sequence"] (gPicks K)) (O_is_between : Okd P w K mg base 2 "is_between" ["value", "low", "high"] (gBetween K)) : Okd P w K mg base 3 "require_picks" ["counts", "sequence", "picks"] (gRPicks K) := by
  obtain ⟨f, fd, F, m⟩ := D
  refine ⟨f, fd, F.ok sc_rpicks (fun vs H Q E h => SpF.len (fun M ds d hg => by cases hg; rfl) h) (fun cdv A outer s H vs Q E hr h => ⟨_, PSs.nox ((pss_cons (ps_if (PW.pt (pw_or (pt_not (pt_val (pe_callB call_isiT rfl B.isinstance (by decide +kernel) (pa_cons (pv 2) (pa_cons (pe_tup (pa_cons (pe_bltn (v := .ty "list") rfl B.list (by decide +kernel) rfl) (pa_cons (pe_bltn (v := .ty "tuple") rfl B.tuple (by decide +kernel) rfl) pa_nil))) pa_nil))))) (pw_or1 (pt_cmpR op_gt (pe_callB call_len rfl B.len (by decide +kernel) (pa_cons (pv 2) pa_nil)) (pe_callB (call_min2 rfl) rfl B.min (by decide +kernel) (pa_cons (pe_globI rfl B.mMAX_PICKS) (pa_cons (pe_callO O_picks_of (hr.mono (by decide)) rfl (pa_cons (pv 1) pa_nil)) pa_nil))) (nomark _)))))
    (pss_one ps_never)
    pss_nil)
    (pss_cons (ps_set (i := 3) sc_rpicks.nd rfl (by first | exact Or.inl rfl | exact Or.inr rfl) (pe_callTy call_list_of rfl B.list (by decide +kernel) (pa_cons (pv 0) pa_nil)))
    (pss_one (ps_for PassesOwn.never rfl (pi_enumS rfl B.enumerate (pa_cons (pv 2) pa_nil)) (pg_tup rfl (pgs_cons (pg_name (i := 4) sc_rpicks.nd rfl (by first | exact Or.inl rfl | exact Or.inr rfl)) (pgs_cons (pg_name (i := 5) sc_rpicks.nd rfl (by first | exact Or.inl rfl | exact Or.inr rfl)) pgs_nil)))
    (pss_cons (ps_if (PW.pt (pw_or (pt_not (pt_val (pe_callO O_is_between (hr.mono (by decide)) rfl (pa_cons (pv 5) (pa_cons pe_int (pa_cons (pe_op op_sub (pe_callB call_len rfl B.len (by decide +kernel) (pa_cons (pv 0) pa_nil)) pe_int) pa_nil)))))) (pw_or1 (pt_cmpR op_eq (pe_ix ix_seq (pv 3) (pv 5) (fun _ _ => rfl)) pe_int (nomark _)))))
    (pss_one ps_never)
    pss_nil)
    (pss_one (ps_augS (pv 3) (pv 5) pget_list pe_int ip_sub set_list)))))))), body_of (fun M ds d hg => ?_) h⟩), m, F.kp, F.bindsN (fun _ _ _ _ _ _ us hl => match us, hl with | [_, _, _], _ => rfl)⟩
  cases hg with
  | mk c ks bs hc h hl hz hk hn =>
  refine ⟨by simp, ?_⟩
  walk_at "go"
  refine dq_guard (b := false) (evt_or (b := false) (b' := false) (evt_not (b := true) (evt_tB (K := K) (el_isiQ (by walk_at "ev")))) fun _ => ?_) rfl ?_
  · refine evt_eq (b := decide (((min 200 (flat bs).length : Nat) : Int) < ((LN ks).length : Nat))) (evt_test (el_b (by walk_at "ev") (el_minN (a := 200) (ev_eq ev_int rfl) (ev_call (by walk_at "ea") (gPicks.mk bs h) (.inl rfl))))) ?_
    rw [LN_length, decide_eq_false_iff_not]
    omega
  refine dq_set (c := .own (ownL K (LN c))) (el_list (sk := .t) (by walk_at "ej")) ?_
  simp only [List.set_cons_zero, List.set_cons_succ]
  refine ds_forL (evi_enum (ds := LN ks) (by walk_at "ev") itd_q) (fun i => True) (fun i => [.val (dP K (.tuple (LN c))), .val (sqA K (BD bs)), .val (sqA K (LN ks)), .own (ownL K (LN (vN c.length fun x => c.getD x 0 - (ks.take i).count x))), .un, .un]) ⟨trivial, ?_⟩ (fun i hi _ => ?_) (fun _ Γ' _ => fun F => .non)
  · have e : (vN c.length fun x => c.getD x 0 - (ks.take 0).count x) = c := by
      have : (fun x => c.getD x 0 - (ks.take 0).count x) = fun x => c.getD x 0 := by funext x; simp
      rw [this, vN_of]
    rw [e]
    walk_at "le"
  · rw [LN_length] at hi
    rw [LN_getD hi, getD_of hi]
    have hx := hk _ (List.getElem_mem hi)
    have htk : ks.take (i + 1) = ks.take i ++ [ks[i]] := by rw [List.take_add_one, List.getElem?_eq_getElem hi]; rfl
    have hroom : (ks.take i).count ks[i] + 1 ≤ c.getD ks[i] 0 := by
      have h1 := hn ks[i]
      have h2 : ks = ks.take (i + 1) ++ ks.drop (i + 1) := (List.take_append_drop _ _).symm
      have h3 := congrArg (fun l => List.count ks[i] l) h2
      simp only [htk, List.count_append, List.count_singleton_self] at h3
      omega
    rw [htk]
    generalize ks.take i = Y at *
    generalize ks[i] = x at *
    refine ⟨_, _, gt2, ?_⟩
    simp only [List.set_cons_zero, List.set_cons_succ]
    refine dq_guard (b := !(decide ((0 : Int) ≤ (x : Nat)) && decide (((x : Nat) : Int) ≤ (c.length : Nat) - 1)) || decide (((c.getD x 0 - Y.count x : Nat) : Int) = 0)) (evt_or (evt_not (evt_tB (ev_call (eva_cons (by walk_at "ev") (eva_cons (by walk_at "ev") (eva_cons (el_i (el_lenN (sk := .t) (by walk_at "ej")) ev_int) eva_nil))) (gBetween.mk _ _ _) (.inl rfl)))) fun _ => evt_test (K := K) (ev_eq (el_eqI (el_ixN (sk := .l) (by walk_at "ej") (by walk_at "ev") (by rw [vN_length]; exact hx)) (by walk_at "ev")) (by rw [vN_get hx]))) ?_ ?_
    · have a1 : decide ((0 : Int) ≤ (x : Nat)) = true := decide_eq_true (by omega)
      have a2 : decide (((x : Nat) : Int) ≤ (c.length : Nat) - 1) = true := decide_eq_true (by omega)
      have a3 : decide (((c.getD x 0 - Y.count x : Nat) : Int) = 0) = false := decide_eq_false (by omega)
      rw [a1, a2, a3]
      rfl
    · refine ds_augG (K := K) (ds := LN (vN c.length fun x => c.getD x 0 - Y.count x)) (k := x) (a := ((c.getD x 0 - Y.count x : Nat) : Int)) (b := 1) rfl (by walk_at "ev") (by rw [LN_length, vN_length]; exact hx) (by rw [LN_get (by rw [vN_length]; exact hx), vN_get hx]) ev_int ?_
      refine ⟨trivial, ?_⟩
      have e5 : PyData.int (((c.getD x 0 - Y.count x : Nat) : Int) - 1) = nI (c.getD x 0 - Y.count x - 1) := by simp only [nI]; congr 1; omega
      have e6 : (fun y => if y = x then c.getD x 0 - Y.count x - 1 else c.getD y 0 - Y.count y) = fun y => c.getD y 0 - (Y ++ [x]).count y := by
        funext y
        rw [List.count_append, List.count_singleton]
        by_cases e : y = x
        · subst e; rw [if_pos rfl, beq_self_eq_true, if_pos rfl]; omega
        · rw [if_neg e, if_neg (by simpa using Ne.symm e)]; rfl
      simp only [List.set_cons_zero, List.set_cons_succ]
      rw [e5, LN_vset, e6]
      walk_at "le"
inductive gOwner (K : PySem.W.Frag) : Option Addr → List Pd → Pd → Prop
  | mk (bs : List (List Bool × Nat)) (h : BlOk bs) (i : Nat) (hi : i < (flat bs).length) : gOwner K none [sqA K (BD bs), dP K (nI i)] (dP K (pD ((flat bs)[i])))
theorem sc_owner : FnScope ["sequence", "index"] ["sequence", "index"] (defScope (top 84)) := ⟨rfl, rfl, rfl, by decide +kernel, rfl, by decide +kernel, by decide +kernel⟩
-- slots: 0 sequence, 1 index
theorem w_owner [Tb] (B : Bi K mg pA oA) (D : FunG K mg "owner_of" "owner_of" (top 84)) (O_count_turns : Okd P w K mg base 1 "count_turns" ["sequence", "player", "picks"] (gCT K)) : Okd P w K mg base 2 "owner_of" ["sequence", "index"] (gOwner K) := by
  obtain ⟨f, fd, F, m⟩ := D
  refine ⟨f, fd, F.ok sc_owner (fun vs H Q E h => SpF.len (fun M ds d hg => by cases hg; rfl) h) (fun cdv A outer s H vs Q E hr h => ⟨_, PSs.nox ((pss_one (ps_ret (pe_ifExp (pt_cmpR op_gt (pe_callO O_count_turns (hr.mono (by decide)) rfl (pa_cons (pv 0) (pa_cons pe_str (pa_cons (pe_op op_add (pv 1) pe_int) pa_nil)))) (pe_callO O_count_turns (hr.mono (by decide)) rfl (pa_cons (pv 0) (pa_cons pe_str (pa_cons (pv 1) pa_nil)))) (nomark _)) pe_str pe_str)))), body_of (fun M ds d hg => ?_) h⟩), m, F.kp, F.bindsN (fun _ _ _ _ _ _ us hl => match us, hl with | [_, _], _ => rfl)⟩
  cases hg with
  | mk bs h i hi =>
  refine ⟨by simp, ?_⟩
  walk_at "go"
  have hA : ∀ {M : Option Addr} {Γ : List Slt}, Ev M (tC (.str "A")) Γ (dP K (pD true)) := ev_eq ev_str rfl
  have hc : cntw (flat bs) true (i + 1) = cntw (flat bs) true i + if (flat bs)[i] = true then 1 else 0 := by
    unfold cntw
    rw [List.take_add_one, List.getElem?_eq_getElem hi, List.count_append]
    congr 1
    show [(flat bs)[i]].count true = _
    cases (flat bs)[i] <;> rfl
  refine ds_retR (ev_if (evt_test (K := K) (b := decide (((cntw (flat bs) true i : Nat) : Int) < (cntw (flat bs) true (i + 1) : Nat))) (el_b (ev_call (eva_cons (by walk_at "ev") (eva_cons hA (eva_cons (el_addN (a := i) (b := 1) (by walk_at "ev") (ev_eq ev_int rfl)) eva_nil))) (gCT.mk bs h true (i + 1)) (.inl rfl)) (ev_call (eva_cons (by walk_at "ev") (eva_cons hA (eva_cons (by walk_at "ev") eva_nil))) (gCT.mk bs h true i) (.inl rfl)))) (fun e => ?_) fun e => ?_)
  · have e : (flat bs)[i] = true := by
      cases q : (flat bs)[i]
      · rw [hc, q] at e; simp at e
      · rfl
    rw [e]
    exact hA
  · have e : (flat bs)[i] = false := by
      cases q : (flat bs)[i]
      · rfl
      · rw [hc, q] at e; simp at e; omega
    rw [e]
    exact ev_eq ev_str rfl
end
end TPE
end
section
set_option maxHeartbeats 400000
namespace TPE
open PySem PySem.Spec PyProof.Rows L2 TPI TPZ RT
/-! ### records -/
def Fh (F : Hp) (ds : List (Str × Pd)) (fs : List (Str × V)) : Prop := Paired (fun (p : Str × Pd) (q : Str × V) => p.1 = q.1 ∧ p.2.hold F q.2) ds fs
theorem Fh.same {F F' : Hp} (e : Same F F') {ds : List (Str × Pd)} {fs : List (Str × V)} (h : Fh F ds fs) : Fh F' ds fs := Paired.mapP h fun d v q => ⟨q.1, d.2.mono e q.2⟩
theorem Fh.get {F : Hp} {ds : List (Str × Pd)} {fs : List (Str × V)} (h : Fh F ds fs) {f : Str} {d : Pd} (e : ds.lookup f = some d) : ∃ v, fs.lookup f = some v ∧ d.hold F v := by
  induction h with
  | nil => cases e
  | @cons p q ps qs h t ih =>
    obtain ⟨n, d'⟩ := p
    obtain ⟨n', v'⟩ := q
    obtain ⟨h1, h2⟩ := h
    have h1 : n = n' := h1
    subst h1
    rw [List.lookup_cons] at e ⊢
    cases hq : (f == n) with
    | true => rw [hq] at e; cases e; exact ⟨v', rfl, h2⟩
    | false => rw [hq] at e; exact ih e
theorem Fh.none {F : Hp} {ds : List (Str × Pd)} {fs : List (Str × V)} (h : Fh F ds fs) {f : Str} (e : ds.lookup f = none) : fs.lookup f = none := by
  induction h with
  | nil => rfl
  | @cons p q ps qs h t ih =>
    obtain ⟨n, d'⟩ := p
    obtain ⟨n', v'⟩ := q
    obtain ⟨h1, h2⟩ := h
    have h1 : n = n' := h1
    subst h1
    rw [List.lookup_cons] at e ⊢
    cases hq : (f == n) with
    | true => rw [hq] at e; cases e
    | false => rw [hq] at e; exact ih e
/-- an instance of C with such attributes -/
def recP (C : Addr) (ds : List (Str × Pd)) : Pd := ⟨fun H v => ∃ a dx fs, v = .ref a ∧ H a = some (.ins C dx fs) ∧ Fh H ds fs, fun e ⟨a, dx, fs, h1, h2, h3⟩ => ⟨a, dx, fs, h1, e _ _ h2, h3.same e⟩⟩
structure RecC (K : PySem.W.Frag) (mg : Str → Option Value) (C : Addr) : Prop where
  cls : Cls K C
  glo : mg "Record" = some (.ref C)
  counts : NoAttr K C "counts"
  lists : NoAttr K C "lists"
  sequence : NoAttr K C "sequence"
  picks : NoAttr K C "picks"
  owners : NoAttr K C "owners"
/-- a method's def -/
def FunM (K : PySem.W.Frag) (C : Addr) (x q : Str) (st : Stmt) : Prop := ∃ f fd, FunD K x q (defArgs st) (defBody st) (defScope st) [] [] f fd ∧ Meth K C x f
def OkM [Tb] (P : Program) (w : World) (K : PySem.W.Frag) (mg : Str → Option Value) (base : Heap) (C : Addr) (k : Nat) (m : Str) (ps : List Str) (g : Option Addr → List Pd → Pd → Prop) : Prop :=
  ∃ f fd, FnOk P w K mg base CX0 k f fd ps (SpF g) ∧ Meth K C m f ∧ Binds K fd ps []
section
variable {X : Cx} {C : Addr} {k : Nat} {m : Str} {ps : List Str} {g : Option Addr → List Pd → Pd → Prop} {o e : Expr} {es : List Expr} {apos pos : Pos} {ta : TE} {t : TA}
theorem pe_methO [Tb] {pl : Sem Bool} (he : PE X o ta) (c : Cls X.K C) (O : OkM X.prog X.w X.K X.mg X.base C k m ps g) (hr : Room k X.A) (ha : PA X (e :: es) t)
    (hst : starEach (e :: es) X.env = (false, eval e X.env) :: starEach es X.env := by rfl) (hpl : (backTo pos (starEach es X.env)).any (·.1) = false := by rfl)
    (ht : eval (.Call (.Attribute o m apos) (e :: es) [] pos) X.env = (do
      let ov ← eval o X.env
      standAt apos.atName
      let (f, first) ← holding [ov] (getMethod ov m pl)
      callWith pos f first (backTo pos (starEach (e :: es) X.env)) (backToKw pos (keywordEach [] X.env))) := by rfl) :
    PE X (.Call (.Attribute o m apos) (e :: es) [] pos) (tMeth C m (SpF g) [] E0 ta t) := by
  obtain ⟨f, fd, F, hm, hb⟩ := O
  exact pe_meth he c hm F hr hb .nil pass0 ha hst hpl ht
theorem pe_methO0 [Tb] {pl : Sem Bool} (he : PE X o ta) (c : Cls X.K C) (O : OkM X.prog X.w X.K X.mg X.base C k m ps g) (hr : Room k X.A)
    (ht : eval (.Call (.Attribute o m apos) [] [] pos) X.env = (do
      let ov ← eval o X.env
      standAt apos.atName
      let (f, first) ← holding [ov] (getMethod ov m pl)
      callWith pos f first (backTo pos (starEach [] X.env)) (backToKw pos (keywordEach [] X.env))) := by rfl) :
    PE X (.Call (.Attribute o m apos) [] [] pos) (tMeth C m (SpF g) [] E0 ta tNil) := by
  obtain ⟨f, fd, F, hm, hb⟩ := O
  exact pe_meth0 he c hm F hr hb .nil pass0 ht
end
section
variable {M : Option Addr} {K : PySem.W.Frag} {C : Addr} {Γ : List Slt} {t ta : TE} {tr : TA} {d : Pd} {ds : List (Str × Pd)} {f m : Str}
theorem el_fld [Tb] (h : Ev M t Γ (recP C ds)) (c : Cls K C) (n : NoAttr K C f) (e : ds.lookup f = some d) : Ev M (tFld K t f) Γ d := fun B O0 O σ H E Q q => h B O0 O σ H E _ fun v O1 H1 s hv => by
  obtain ⟨a, dx, fs, h1, h2, h3⟩ := hv
  obtain ⟨u, h4, h5⟩ := h3.get e
  exact ⟨a, C, dx, fs, u, h1, wo_sub _ _ h2, c, n, h4, q u O1 H1 s h5⟩
theorem ev_meth [Tb] {g : Option Addr → List Pd → Pd → Prop} {M' : Option Addr} {E' : XK} {es : List Pd} (ho : Ev M ta Γ (recP C ds)) (hn : ds.lookup m = none) (ha : EvA M tr Γ es) (hg : g M' (recP C ds :: es) d) (hM : M' = none ∨ M' = M) : Ev M (tMeth C m (SpF g) [] E' ta tr) Γ d := fun B O0 O σ H E Q q => by
  refine ho B O0 O σ H E _ fun x O1 H1 s hx => ?_
  obtain ⟨a, dx, fs, rfl, h2, h3⟩ := hx
  refine ⟨a, dx, fs, rfl, wo_sub _ _ h2, h3.none hn, ?_⟩
  have E1 := E.step s
  refine ha B O0 O1 σ H1 E1 _ fun vs O2 H2 s2 hvs => ?_
  rw [List.append_nil]
  have E2 := E1.step s2
  refine ⟨M', O2, recP C ds :: es, d, hg, .cons ?_ hvs, s2.live, fun x e => ?_, fun v H' r hv => ?_⟩
  · exact ⟨a, dx, fs, rfl, s2.same _ _ h2, h3.same s2.same⟩
  · rcases hM with rfl | rfl
    · exact ⟨(E2.src x e.up).1.non, (E2.srcO x e.up).1⟩
    · exact ⟨(E2.src x e).1, (E2.srcO x e).1⟩
  · have r' : Rl M H2 H' := by
      rcases hM with rfl | rfl
      · exact .up (fun s e => (E2.src s e).1) r
      · exact r
    exact q v O2 H' ((s.trans s2).trans (.of_rl E2 r')) hv
end
/-- a game as a record tells it: counts, lists, sequence, the kinds taken -/
structure Gm where
  c : List Nat
  r1 : List Nat
  r2 : List Nat
  bs : List (List Bool × Nat)
  ks : List Nat
abbrev Gm.w (G : Gm) : List Bool := flat G.bs
structure Gm.Ok (G : Gm) : Prop where
  h1 : RkOk G.c.length G.r1
  h2 : RkOk G.c.length G.r2
  hb : BlOk G.bs
  few : G.bs.length ≤ 90
  len : G.ks.length = G.w.length
  sum : G.w.length = G.c.sum
  z : G.ks.length ≤ 100
  kx : ∀ x ∈ G.ks, x < G.c.length
  kn : ∀ x, G.ks.count x ≤ G.c.getD x 0
/-- its attributes -/
def Gm.fl (K : PySem.W.Frag) (G : Gm) : List (Str × Pd) :=
  [("counts", dP K (.tuple (LN G.c))), ("lists", lsP K G.r1 G.r2), ("sequence", plP K (BD G.bs)), ("picks", plP K (LN G.ks)), ("owners", dP K (.list (G.w.map pD)))]
end TPE
end
section
set_option maxHeartbeats 400000
namespace TPE
open PySem PySem.Spec PyProof.Rows L2 TPI TPZ RT
local macro_rules | `(tactic| walk_at "go") => `(tactic| (try dsimp only [cxK, cxKB, cxK2]); (try dsimp [Gam]); (try simp only [List.map_cons, List.map_nil, List.cons_append, List.nil_append]))
local macro_rules | `(tactic| walk_at "ev") => `(tactic| first
  | ((with_reducible apply ev_var); exact rfl)
  | with_reducible exact ev_int
  | with_reducible exact ev_str
  | with_reducible exact ev_bl
  | with_reducible exact ev_non
  | with_reducible exact ev_c
  | ((with_reducible apply el_i) <;> walk_at "ev")
  | ((with_reducible apply el_b) <;> walk_at "ev")
  | ((with_reducible apply el_eqI); (walk_at "ev"); (walk_at "ev"))
  | ((with_reducible apply el_neI); (walk_at "ev"); (walk_at "ev"))
  | ((with_reducible apply el_eqS); (walk_at "ev"); (walk_at "ev"))
  | ((with_reducible apply el_neS); (walk_at "ev"); (walk_at "ev"))
  | ((with_reducible apply ev_notV) <;> walk_at "ev")
  | ((with_reducible apply el_isi); (walk_at "ev"); exact rfl)
  | ((with_reducible apply el_len) <;> walk_at "ej")
  | (((with_reducible apply ev_aT); (walk_at "ev")))
  | (((with_reducible apply ev_aL); (walk_at "ev")))
  | (((with_reducible apply ev_aP); (walk_at "ev")))
  | (((with_reducible apply ev_pl); (walk_at "ev"))))
local macro_rules | `(tactic| walk_at "ej") => `(tactic| first
  | ((with_reducible apply ev_own); exact rfl)
  | ((with_reducible apply EvJ.q_s); walk_at "ev")
  | ((with_reducible apply EvJ.q_l); walk_at "ev")
  | ((with_reducible apply EvJ.q_t); walk_at "ev")
  | ((with_reducible apply evj); walk_at "ev"))
local macro_rules | `(tactic| walk_at "ea") => `(tactic| first
  | with_reducible exact eva_nil
  | ((with_reducible apply eva_cons); (walk_at "ev"); (walk_at "ea")))
local macro_rules | `(tactic| walk_at "et") => `(tactic| first
  | ((with_reducible apply evt_or); (walk_at "et"); (intro _; walk_at "et"))
  | ((with_reducible apply evt_and); (walk_at "et"); (intro _; walk_at "et"))
  | ((with_reducible apply evt_not); (walk_at "et"))
  | ((with_reducible apply evt_test); (walk_at "ev"))
  | ((with_reducible apply evt_tB); (walk_at "ev")))
local macro_rules | `(tactic| walk_at "le") => `(tactic| ((try simp only [List.set_cons_zero, List.set_cons_succ]); repeat' (first | exact Le.nil | (with_reducible apply Le.un) | (apply Le.eq rfl) | apply Le.eq)))
section
variable {P : Program} {w : World} {K : PySem.W.Frag} {mg : Str → Option Value} {base : Heap} {pA oA C : Addr}
theorem zip_getD {G : Gm} (h : G.Ok) {i : Nat} (hi : i < G.ks.length) : (G.w.zip G.ks).take (i + 1) = (G.w.zip G.ks).take i ++ [(G.w[i]'(by rw [← h.len]; exact hi), G.ks[i])] := by
  have hl : i < (G.w.zip G.ks).length := by rw [List.length_zip, ← h.len, Nat.min_self]; exact hi
  rw [List.take_add_one, List.getElem?_eq_getElem hl]
  simp
/-- the left counts after n picks -/
def Gm.left (G : Gm) (n : Nat) : List Nat := vN G.c.length fun x => G.c.getD x 0 - (G.ks.take n).count x
inductive gLA (K : PySem.W.Frag) (C : Addr) : Option Addr → List Pd → Pd → Prop
  | mk (G : Gm) (h : G.Ok) (n : Nat) (hn : n ≤ G.ks.length) : gLA K C none [recP C (G.fl K), dP K (nI n)] (plP K (LN (G.left n)))
theorem sc_lafter : FnScope ["self", "picks", "gone", "kind", "count"] ["self", "picks"] (defScope (inClass (top 85) 2)) := ⟨rfl, rfl, rfl, by decide +kernel, rfl, by decide +kernel, by decide +kernel⟩
-- slots: 0 self, 1 picks, 2 gone*, 3 kind, 4 count
theorem w_lafter [Tb] (B : Bi K mg pA oA) (D : FunM K C "left_after" "Record.left_after" (inClass (top 85) 2)) (R : RecC K mg C) : OkM P w K mg base C 1 "left_after" ["self", "picks"] (gLA K C) := by
  obtain ⟨f, fd, F, m⟩ := D
  refine ⟨f, fd, F.ok sc_lafter (fun vs H Q E h => SpF.len (fun M ds d hg => by cases hg; rfl) h) (fun cdv A outer s H vs Q E hr h => ⟨_, PSs.nox ((pss_cons (ps_set (i := 2) sc_lafter.nd rfl (by first | exact Or.inl rfl | exact Or.inr rfl) (pe_slice sl_tupX (pe_fld (pv 0) rfl) po_none (po_some (pv 1))))
    (pss_one (ps_ret (pe_callTy call_tupX rfl B.tuple (by decide +kernel) (pa_cons (pe_lc (own := [("kind", 3), ("count", 4)]) (g := (gTup K 2 (gCons (gName 3) (gCons (gName 4) gNil)))) (te := (tOp _ _ (tBT K (rTCnt K) _ (tCons _ tNil)))) rfl sc_lafter.nd (pi_enumS rfl B.enumerate (pa_cons (pe_fld (pv 0) rfl) pa_nil)) (blkOk_by (own := [("kind", 3), ("count", 4)]) (N := ["self", "picks", "gone", "kind", "count"]) (sc := defScope (inClass (top 85) 2)) (by decide +kernel)) (fun _ _ _ _ _ => (pg_tup rfl (pgs_cons (pg_name (i := 3) sc_lafter.nd rfl (by first | exact Or.inl rfl | exact Or.inr rfl)) (pgs_cons (pg_name (i := 4) sc_lafter.nd rfl (by first | exact Or.inl rfl | exact Or.inr rfl)) pgs_nil)))) (fun _ _ _ _ _ => pts_nil) (fun _ _ _ _ _ => (pe_op op_sub (pv 4) (pe_bt PySem.F.slot_tuple_count PySem.F.type_tuple_count (mt_tcnt (hu_of hr)) (pv 2) (pa_cons (pv 3) pa_nil))))) pa_nil)))))), body_of (fun M ds d hg => ?_) h⟩), m, F.bindsN (fun _ _ _ _ _ _ us hl => match us, hl with | [_, _], _ => rfl)⟩
  cases hg with
  | mk G h n hn =>
  refine ⟨by simp, ?_⟩
  walk_at "go"
  have h60 := h.h1.few
  refine dq_setV (d := plP K (LN (G.ks.take n))) (by
    have := el_slP (K := K) (M := none) (ds := LN G.ks) (Γ := [.val (recP C (G.fl K)), .val (dP K (nI n)), .un, .un, .un]) (el_fld (f := "picks") (C := C) (t := tVar 0) (ev_var rfl) R.cls R.picks rfl) evo_none (evo_N (K := K) (n := n) (te := tVar 1) (ev_var rfl))
    rw [LN_cut, cut_take] at this
    exact this) ?_
  simp only [List.set_cons_zero, List.set_cons_succ]
  refine ds_retR (el_tup (EvJ.q_l (ev_frz (evc_eqL (evc_mapF (K := K) (evi_enum (ds := LN G.c) (el_fld (f := "counts") (ev_var rfl) R.cls R.counts rfl) itd_t) (fun i => nI (G.c.getD i 0 - (G.ks.take n).count i)) (by rw [LN_length]; omega) fun i hi => ?_) ?_))))
  · rw [LN_length] at hi
    rw [LN_getD hi]
    have h1 := h.kn i
    have h2 : (G.ks.take n).count i ≤ G.ks.count i := (List.take_sublist n G.ks).count_le i
    exact ⟨_, gt2, el_subN (by walk_at "ev") (ev_eq (ev_tcnt (ns := ZN (G.ks.take n)) (k := (i : Nat)) (by walk_at "ev") (ev_eq (by walk_at "ev") (by simp))) (by rw [ZN_count])) (by omega)⟩
  · rw [LN_length]
    simp only [Gm.left, vN, LN, List.map_map]
    rfl
/-- the bundles after n picks -/
def Gm.bun (G : Gm) (n : Nat) (p : Bool) : List Nat := bndl G.c.length ((G.w.zip G.ks).take n) p
abbrev Gm.buns (G : Gm) (n : Nat) : List PyData := [.tuple (LN (G.bun n true)), .tuple (LN (G.bun n false))]
inductive gBA (K : PySem.W.Frag) (C : Addr) : Option Addr → List Pd → Pd → Prop
  | mk (G : Gm) (h : G.Ok) (n : Nat) (hn : n ≤ G.ks.length) : gBA K C none [recP C (G.fl K), dP K (nI n)] (plP K (G.buns n))
theorem sc_bafter : FnScope ["self", "picks", "found", "player", "kind"] ["self", "picks"] (defScope (inClass (top 85) 1)) := ⟨rfl, rfl, rfl, by decide +kernel, rfl, by decide +kernel, by decide +kernel⟩
-- slots: 0 self*, 1 picks, 2 found*, 3 player, 4 kind
theorem w_bafter [Tb] (B : Bi K mg pA oA) (D : FunM K C "bundles_after" "Record.bundles_after" (inClass (top 85) 1)) (R : RecC K mg C) : OkM P w K mg base C 1 "bundles_after" ["self", "picks"] (gBA K C) := by
  obtain ⟨f, fd, F, m⟩ := D
  refine ⟨f, fd, F.ok sc_bafter (fun vs H Q E h => SpF.len (fun M ds d hg => by cases hg; rfl) h) (fun cdv A outer s H vs Q E hr h => ⟨_, PSs.nox ((pss_cons (ps_set (i := 2) sc_bafter.nd rfl (by first | exact Or.inl rfl | exact Or.inr rfl) (pe_dc (own := [("player", 3)]) (tv := (tOp _ _ (tCB (fun xs H Q => ∃ x n, xs = [x] ∧ LenV K x H n ∧ Q (.int n) H) (tCons (tFld K _ "counts") tNil)))) rfl sc_bafter.nd (pi_src (pe_globR rfl B.mPLAYERS)) (blkOk_by (own := [("player", 3)]) (N := ["self", "picks", "found", "player", "kind"]) (sc := defScope (inClass (top 85) 1)) (by decide +kernel)) (fun _ _ _ _ _ => (pg_name (i := 3) sc_bafter.nd rfl (by first | exact Or.inl rfl | exact Or.inr rfl))) (fun _ _ _ _ _ => pts_nil) (fun _ _ _ _ _ => (pv 3)) (fun _ _ _ _ _ => (pe_op op_rep (pe_lst (pa_cons pe_int pa_nil)) (pe_callB call_len rfl B.len (by decide +kernel) (pa_cons (pe_fld (pv 0) rfl) pa_nil))))))
    (pss_cons (ps_for PassesOwn.never rfl (pi_zipZ (pz_zip rfl B.zip (pa_cons (pe_fld (pv 0) rfl) (pa_cons (pe_slice sl_tupX (pe_fld (pv 0) rfl) po_none (po_some (pv 1))) pa_nil)))) (pg_tup rfl (pgs_cons (pg_name (i := 3) sc_bafter.nd rfl (by first | exact Or.inl rfl | exact Or.inr rfl)) (pgs_cons (pg_name (i := 4) sc_bafter.nd rfl (by first | exact Or.inl rfl | exact Or.inr rfl)) pgs_nil)))
    (pss_one (ps_augS (pe_dget (hu_of hr) (pv 2) (pv 3) (fun _ _ => rfl)) (pv 4) pget_list pe_int ip_add set_list)))
    (pss_one (ps_ret (pe_callTy call_tupX rfl B.tuple (by decide +kernel) (pa_cons (pe_lc (own := [("player", 3)]) (te := (tCB (rTupX K) (tCons (tDGet _ _) tNil))) rfl sc_bafter.nd (pi_src (pe_globR rfl B.mPLAYERS)) (blkOk_by (own := [("player", 3)]) (N := ["self", "picks", "found", "player", "kind"]) (sc := defScope (inClass (top 85) 1)) (by decide +kernel)) (fun _ _ _ _ _ => (pg_name (i := 3) sc_bafter.nd rfl (by first | exact Or.inl rfl | exact Or.inr rfl))) (fun _ _ _ _ _ => pts_nil) (fun _ _ _ _ _ => (pe_callTy call_tupX rfl B.tuple (by decide +kernel) (pa_cons (pe_dget (hu_of hr) (pv 2) (pv 3) (fun _ _ => rfl)) pa_nil)))) pa_nil))))))), body_of (fun M ds d hg => ?_) h⟩), m, F.bindsN (fun _ _ _ _ _ _ us hl => match us, hl with | [_, _], _ => rfl)⟩
  cases hg with
  | mk G h n hn =>
  refine ⟨by simp, ?_⟩
  walk_at "go"
  have h60 := h.h1.few
  refine dq_set (c := .own (ownD K (LN (vN G.c.length fun _ => 0)) (LN (vN G.c.length fun _ => 0)))) (evc_dc (K := K) (ds := LN (vN G.c.length fun _ => 0)) (evi_src (ds := [pD true, pD false]) B.ev itd_t) fun i hi => ?_) ?_
  · refine ⟨_, gt1, ?_, ?_⟩
    · match i, hi with
      | 0, _ => exact ev_var rfl
      | 1, _ => exact ev_var rfl
    · rw [← rep_vN]
      exact evc_eqL (el_repL (ds := [nI 0]) (n := G.c.length) (evc_lst (ds := [nI 0]) (eva_cons (ev_eq ev_int rfl) eva_nil) (by show 1 ≤ sizeLine; decide)) (el_lenN (sk := .t) (EvJ.q_t (el_fld (f := "counts") (ev_var rfl) R.cls R.counts rfl))) (by simp; omega) (by omega)) (LN_rep _ _)
  simp only [List.set_cons_zero, List.set_cons_succ]
  have hcut : cutD (LN G.ks) none (some (n : Int)) = LN (G.ks.take n) := by rw [LN_cut, cut_take]
  have hsl := el_slP (K := K) (M := none) (ds := LN G.ks) (Γ := [.val (recP C (G.fl K)), .val (dP K (nI n)), .own (ownD K (LN (vN G.c.length fun _ => 0)) (LN (vN G.c.length fun _ => 0))), .un, .un]) (el_fld (f := "picks") (C := C) (t := tVar 0) (ev_var rfl) R.cls R.picks rfl) evo_none (evo_N (K := K) (n := n) (te := tVar 1) (ev_var rfl))
  rw [hcut] at hsl
  refine dq_forL (evi_zip (K := K) (ds1 := G.w.map pD) (ds2 := LN (G.ks.take n)) (d1 := dP K (.list (G.w.map pD))) (d2 := plP K (LN (G.ks.take n))) (eva_cons (el_fld (f := "owners") (ev_var rfl) R.cls R.owners rfl) (eva_cons hsl eva_nil)) itd_l itd_p (fun e => by cases e)) (fun i => True) (fun i => [.val (recP C (G.fl K)), .val (dP K (nI n)), .own (ownD K (LN (bndl G.c.length ((G.w.zip G.ks).take i) true)) (LN (bndl G.c.length ((G.w.zip G.ks).take i) false))), .un, .un]) ⟨trivial, ?_⟩ (fun i hi _ => ?_) (fun _ => ?_)
  · simp only [List.take_zero, bndl, List.count_nil]
    walk_at "le"
  · have hi1 : i < G.ks.length := by simp [LN_length] at hi; omega
    have hin : i < n := by simp [LN_length] at hi; omega
    have hi2 : i < G.w.length := by rw [← h.len]; exact hi1
    have e1 : (G.w.map pD).getD i .none = pD G.w[i] := by rw [List.getD_eq_getElem?_getD]; simp [hi2]
    have e2 : (LN (G.ks.take n)).getD i .none = nI G.ks[i] := by
      rw [LN_getD (by simp; omega), getD_of (by simp; omega)]
      simp
    rw [e1, e2, zip_getD h hi1]
    have hxk : G.ks[i] < G.c.length := h.kx _ (List.getElem_mem hi1)
    generalize (G.w.zip G.ks).take i = Y at *
    generalize G.w[i] = p at *
    generalize G.ks[i] = x at *
    refine ⟨_, _, gt2, ?_⟩
    simp only [List.set_cons_zero, List.set_cons_succ]
    have hget : (if p then LN (bndl G.c.length Y true) else LN (bndl G.c.length Y false)) = LN (vN G.c.length (fun x => Y.count (p, x))) := by cases p <;> rfl
    refine (ds_augD (K := K) (a := LN (bndl G.c.length Y true)) (b := LN (bndl G.c.length Y false)) (p := p) (k := x) (x := (Y.count (p, x) : Nat)) (y := (1 : Nat)) rfl (by walk_at "ev") (by walk_at "ev") (by rw [hget, LN_length, vN_length]; exact hxk) (by rw [hget, LN_get (by rw [vN_length]; exact hxk), vN_get hxk]) (ev_eq ev_int rfl) ?_)
    simp only [List.set_cons_zero, List.set_cons_succ]
    have e5 : PyData.int (((Y.count (p, x) : Nat) : Int) + (1 : Nat)) = nI (Y.count (p, x) + 1) := by simp
    have g1 : ∀ q, (if p = q then (LN (bndl G.c.length Y q)).set x (.int (((Y.count (p, x) : Nat) : Int) + (1 : Nat))) else LN (bndl G.c.length Y q)) = LN (bndl G.c.length (Y ++ [(p, x)]) q) := by
      intro q
      rw [e5]
      by_cases e : p = q
      · subst e
        rw [if_pos rfl]
        unfold bndl
        rw [LN_vset]
        congr 1
        refine vN_eq fun y _ => ?_
        rw [List.count_append]
        by_cases e2 : y = x
        · subst e2; simp
        · simp [e2, List.count_cons, Ne.symm e2]
      · rw [if_neg e]
        unfold bndl
        congr 1
        refine vN_eq fun y _ => ?_
        rw [List.count_append]
        simp [List.count_cons, e]
    have g2 : (if p then (LN (bndl G.c.length Y true)).set x (.int (((Y.count (p, x) : Nat) : Int) + (1 : Nat))) else LN (bndl G.c.length Y true)) = LN (bndl G.c.length (Y ++ [(p, x)]) true) := g1 true
    have g3 : (if p then LN (bndl G.c.length Y false) else (LN (bndl G.c.length Y false)).set x (.int (((Y.count (p, x) : Nat) : Int) + (1 : Nat)))) = LN (bndl G.c.length (Y ++ [(p, x)]) false) := by
      rw [← g1 false]; cases p <;> rfl
    rw [g2, g3]
    exact ⟨trivial, by walk_at "le"⟩
  · have e6 : min (G.w.map pD).length (LN (G.ks.take n)).length = n := by simp [LN_length, ← h.len]; omega
    rw [e6]
    refine ds_retR (el_tup (EvJ.q_l (ev_frz (evc_eqL (evc_mapF (K := K) (evi_src (ds := [pD true, pD false]) B.ev itd_t) (fun i => .tuple (LN (G.bun n (i == 0)))) (by show 2 ≤ 1000; omega) fun i hi => ?_) rfl))))
    match i, hi with
    | 0, _ => exact ⟨_, gt1, ev_pl (el_tup (ds := LN (G.bun n true)) (ev_dget (K := K) (p := true) (a := LN (G.bun n true)) (b := LN (G.bun n false)) rfl (ev_var rfl)))⟩
    | 1, _ => exact ⟨_, gt1, ev_pl (el_tup (ds := LN (G.bun n false)) (ev_dget (K := K) (p := false) (a := LN (G.bun n true)) (b := LN (G.bun n false)) rfl (ev_var rfl)))⟩
end
end TPE
end
section
set_option maxHeartbeats 400000
namespace TPE
open PySem PySem.Spec PyProof.Rows L2 TPI TPZ RT
local macro_rules | `(tactic| walk_at "go") => `(tactic| (try dsimp only [cxK, cxKB, cxK2]); (try dsimp [Gam]); (try simp only [List.map_cons, List.map_nil, List.cons_append, List.nil_append]))
local macro_rules | `(tactic| walk_at "ev") => `(tactic| first
  | ((with_reducible apply ev_var); exact rfl)
  | with_reducible exact ev_int
  | with_reducible exact ev_str
  | with_reducible exact ev_bl
  | with_reducible exact ev_non
  | with_reducible exact ev_c
  | ((with_reducible apply el_i) <;> walk_at "ev")
  | ((with_reducible apply el_b) <;> walk_at "ev")
  | ((with_reducible apply el_eqI); (walk_at "ev"); (walk_at "ev"))
  | ((with_reducible apply el_neI); (walk_at "ev"); (walk_at "ev"))
  | ((with_reducible apply el_eqS); (walk_at "ev"); (walk_at "ev"))
  | ((with_reducible apply el_neS); (walk_at "ev"); (walk_at "ev"))
  | ((with_reducible apply ev_notV) <;> walk_at "ev")
  | ((with_reducible apply el_isi); (walk_at "ev"); exact rfl)
  | ((with_reducible apply el_len) <;> walk_at "ej")
  | (((with_reducible apply ev_aT); (walk_at "ev")))
  | (((with_reducible apply ev_aL); (walk_at "ev")))
  | (((with_reducible apply ev_aP); (walk_at "ev")))
  | (((with_reducible apply ev_pl); (walk_at "ev"))))
local macro_rules | `(tactic| walk_at "ej") => `(tactic| first
  | ((with_reducible apply ev_own); exact rfl)
  | ((with_reducible apply EvJ.q_s); walk_at "ev")
  | ((with_reducible apply EvJ.q_l); walk_at "ev")
  | ((with_reducible apply EvJ.q_t); walk_at "ev")
  | ((with_reducible apply evj); walk_at "ev"))
local macro_rules | `(tactic| walk_at "ea") => `(tactic| first
  | with_reducible exact eva_nil
  | ((with_reducible apply eva_cons); (walk_at "ev"); (walk_at "ea")))
local macro_rules | `(tactic| walk_at "et") => `(tactic| first
  | ((with_reducible apply evt_or); (walk_at "et"); (intro _; walk_at "et"))
  | ((with_reducible apply evt_and); (walk_at "et"); (intro _; walk_at "et"))
  | ((with_reducible apply evt_not); (walk_at "et"))
  | ((with_reducible apply evt_test); (walk_at "ev"))
  | ((with_reducible apply evt_tB); (walk_at "ev")))
local macro_rules | `(tactic| walk_at "le") => `(tactic| ((try simp only [List.set_cons_zero, List.set_cons_succ]); repeat' (first | exact Le.nil | (with_reducible apply Le.un) | (apply Le.eq rfl) | apply Le.eq)))
/-- a slot's «some x» is opened -/
theorem ds_ex [Tb] {M : Option Addr} {Γ : List Slt} {ts : TS} {P : Po} {α : Type} {p : α → Pd} (i : Nat) (h : Γ[i]? = some (.val (exP p))) (k : ∀ x, Ds M ts (Γ.set i (.val (p x))) P) : Ds M ts Γ P := fun B O0 O σ H E D q => by
  obtain ⟨v, h1, x, h2⟩ := E.val i _ h
  have E2 := E.put (i := i) h2
  have e : σ.set i (some v) = σ := by
    apply List.ext_getElem?
    intro j
    by_cases hj : i = j
    · subst hj
      have hi : i < σ.length := by
        rcases Nat.lt_or_ge i σ.length with z | z
        · exact z
        · rw [List.getElem?_eq_none z] at h1; cases h1
      rw [List.getElem?_set_self hi, h1]
    · rw [List.getElem?_set_ne hj]
  rw [e] at E2
  exact k x B O0 O σ H E2 D q
theorem ds_par3 [Tb] {M : Option Addr} {Γ : List Slt} {P : Po} {ta : TA} {i j l : Nat} {a b c : Pd} (h : EvA M ta Γ [a, b, c]) (hn : P.nx (((Γ.set i (.val a)).set j (.val b)).set l (.val c))) : Ds M (tPar3 i j l ta) Γ P := fun B O0 O σ H E D p => by
  refine h B O0 O σ H E _ fun vs O1 H1 s hvs => ?_
  cases hvs with
  | cons h1 t =>
  cases t with
  | cons h2 t =>
  cases t with
  | cons h3 t =>
  cases t
  have E1 := E.step s
  exact ⟨_, _, _, rfl, p.nx _ _ _ O1 hn (((E1.put h1).put h2).put h3)⟩
theorem Gm.left_length {G : Gm} {n : Nat} : (G.left n).length = G.c.length := by simp [Gm.left, vN_length]
theorem Gm.left_zero {G : Gm} : G.left 0 = G.c := by
  have : (fun x => G.c.getD x 0 - (G.ks.take 0).count x) = fun x => G.c.getD x 0 := by funext x; simp
  rw [Gm.left, this, vN_of]
theorem Gm.left_get {G : Gm} {n x : Nat} (h : x < G.c.length) : (G.left n).getD x 0 = G.c.getD x 0 - (G.ks.take n).count x := vN_get h
theorem Gm.left_succ {G : Gm} {n : Nat} (hn : n < G.ks.length) : G.left (n + 1) = (G.left n).set G.ks[n] (G.c.getD G.ks[n] 0 - ((G.ks.take n).count G.ks[n] + 1)) := by
  have htk : G.ks.take (n + 1) = G.ks.take n ++ [G.ks[n]] := by rw [List.take_add_one, List.getElem?_eq_getElem hn]; rfl
  unfold Gm.left
  rw [vN_set, htk]
  refine vN_eq fun y _ => ?_
  rw [List.count_append]
  by_cases e : y = G.ks[n]
  · subst e; simp
  · simp [e, List.count_cons, Ne.symm e]
theorem Gm.left_sum {G : Gm} (h : G.Ok) : ∀ n, n ≤ G.ks.length → (G.left n).sum + n = G.c.sum := by
  intro n
  induction n with
  | zero => intro _; rw [Gm.left_zero]; rfl
  | succ n ih =>
    intro hn
    have hn' : n < G.ks.length := hn
    have hx := h.kx _ (List.getElem_mem hn')
    have h1 := set_sum (G.left n) G.ks[n] (G.c.getD G.ks[n] 0 - ((G.ks.take n).count G.ks[n] + 1)) (by rw [Gm.left_length]; exact hx)
    rw [← Gm.left_succ hn', Gm.left_get hx] at h1
    have h2 := ih (by omega)
    have htk : G.ks.take (n + 1) = G.ks.take n ++ [G.ks[n]] := by rw [List.take_add_one, List.getElem?_eq_getElem hn']; rfl
    have h3 := (List.take_sublist (n + 1) G.ks).count_le G.ks[n]
    rw [htk, List.count_append, List.count_singleton_self] at h3
    have h4 := h.kn G.ks[n]
    omega
section
variable {P : Program} {w : World} {K : PySem.W.Frag} {mg : Str → Option Value} {base : Heap} {pA oA C : Addr}
inductive gBun (K : PySem.W.Frag) (C : Addr) : Option Addr → List Pd → Pd → Prop
  | mk (G : Gm) (h : G.Ok) : gBun K C none [recP C (G.fl K)] (plP K (G.buns G.ks.length))
theorem sc_bundles : FnScope ["self"] ["self"] (defScope (inClass (top 85) 3)) := ⟨rfl, rfl, rfl, by decide +kernel, rfl, by decide +kernel, by decide +kernel⟩
-- slots: 0 self
theorem w_bundles [Tb] (B : Bi K mg pA oA) (D : FunM K C "bundles" "Record.bundles" (inClass (top 85) 3)) (R : RecC K mg C) (OM_bundles_after : OkM P w K mg base C 1 "bundles_after" ["self", "picks"] (gBA K C)) : OkM P w K mg base C 2 "bundles" ["self"] (gBun K C) := by
  obtain ⟨f, fd, F, m⟩ := D
  refine ⟨f, fd, F.ok sc_bundles (fun vs H Q E h => SpF.len (fun M ds d hg => by cases hg; rfl) h) (fun cdv A outer s H vs Q E hr h => ⟨_, PSs.nox ((pss_one (ps_ret (pe_methO (pv 0) R.cls OM_bundles_after (hr.mono (by decide)) (pa_cons (pe_callB call_len rfl B.len (by decide +kernel) (pa_cons (pe_fld (pv 0) rfl) pa_nil)) pa_nil))))), body_of (fun M ds d hg => ?_) h⟩), m, F.bindsN (fun _ _ _ _ _ _ us hl => match us, hl with | [_], _ => rfl)⟩
  cases hg with
  | mk G h =>
  refine ⟨by simp, ?_⟩
  walk_at "go"
  refine ds_retR (ev_meth (ev_var rfl) rfl (eva_cons (el_lenN (sk := .t) (EvJ.q_t (ev_pl (el_fld (f := "picks") (ev_var rfl) R.cls R.picks rfl)))) eva_nil) (gBA.mk G h G.ks.length (Nat.le_refl _)) (.inl rfl))
/-- what is to come after n picks -/
def Gm.come (G : Gm) (o : Str) (p : Bool) (n : Nat) : List Nat :=
  if o = "hostile" then caps (G.w.drop n) p (G.left n) (rk G.r1 G.r2 p)
  else if o = "plain" then psums (bestB (G.w.drop n) p (G.left n) G.r1 G.r2) (rk G.r1 G.r2 p)
  else psums (endB G.r1 G.r2 (G.left n) (G.w.drop n) p) (rk G.r1 G.r2 p)
inductive gCome (K : PySem.W.Frag) (C : Addr) : Option Addr → List Pd → Pd → Prop
  | mk (G : Gm) (h : G.Ok) (p : Bool) (o : Str) (ho : opps.contains o = true) (n : Nat) (hn : n ≤ G.ks.length) : gCome K C none [recP C (G.fl K), dP K (pD p), dP K (.str o), dP K (nI n)] (dP K (.list (LN (G.come o p n))))
theorem sc_tocome : FnScope ["self", "player", "opponent", "picks", "left", "rest", "ranking"] ["self", "player", "opponent", "picks"] (defScope (inClass (top 85) 5)) := ⟨rfl, rfl, rfl, by decide +kernel, rfl, by decide +kernel, by decide +kernel⟩
-- slots: 0 self, 1 player, 2 opponent, 3 picks, 4 left, 5 rest, 6 ranking
theorem w_tocome [Tb] (B : Bi K mg pA oA) (D : FunM K C "to_come" "Record.to_come" (inClass (top 85) 5)) (R : RecC K mg C) (O_prefix_sums : Okd P w K mg base 1 "prefix_sums" ["counts", "ranking"] (gPS K)) (O_rest_of : Okd P w K mg base 5 "rest_of" ["sequence", "picks"] (gRest K)) (O_own_list : Okd P w K mg base 1 "own_list" ["lists", "player"] (gOwn K)) (O_sure_counts : Okd P w K mg base 6 "sure_counts" ["counts", "ranking", "sequence", "player"] (gSure K)) (O_best_bundle : Okd P w K mg base 5 "best_bundle" ["counts", "lists", "sequence", "player"] (gBest K)) (O_end_of : Okd P w K mg base 7 "end_of" ["counts", "lists", "sequence"] (gEndOf K)) (OM_left_after : OkM P w K mg base C 1 "left_after" ["self", "picks"] (gLA K C)) : OkM P w K mg base C 8 "to_come" ["self", "player", "opponent", "picks"] (gCome K C) := by
  obtain ⟨f, fd, F, m⟩ := D
  refine ⟨f, fd, F.ok sc_tocome (fun vs H Q E h => SpF.len (fun M ds d hg => by cases hg; rfl) h) (fun cdv A outer s H vs Q E hr h => ⟨_, PSs.nox ((pss_cons (ps_par3 (i := 4) (j := 5) (l := 6) rfl sc_tocome.nd rfl rfl rfl (by decide) (by decide) (by decide) rfl rfl rfl (pa_cons (pe_methO (pv 0) R.cls OM_left_after (hr.mono (by decide)) (pa_cons (pv 3) pa_nil)) (pa_cons (pe_callO O_rest_of (hr.mono (by decide)) rfl (pa_cons (pe_fld (pv 0) rfl) (pa_cons (pv 3) pa_nil))) (pa_cons (pe_callO O_own_list (hr.mono (by decide)) rfl (pa_cons (pe_fld (pv 0) rfl) (pa_cons (pv 1) pa_nil))) pa_nil))) rfl)
    (pss_cons (ps_if (pt_cmpR op_eq (pv 2) pe_str (nomark _))
    (pss_one (ps_ret (pe_callO O_sure_counts (hr.mono (by decide)) rfl (pa_cons (pv 4) (pa_cons (pv 6) (pa_cons (pv 5) (pa_cons (pv 1) pa_nil)))))))
    pss_nil)
    (pss_cons (ps_if (pt_cmpR op_eq (pv 2) pe_str (nomark _))
    (pss_one (ps_ret (pe_callO O_prefix_sums (hr.mono (by decide)) rfl (pa_cons (pe_callO O_best_bundle (hr.mono (by decide)) rfl (pa_cons (pv 4) (pa_cons (pe_fld (pv 0) rfl) (pa_cons (pv 5) (pa_cons (pv 1) pa_nil))))) (pa_cons (pv 6) pa_nil)))))
    pss_nil)
    (pss_one (ps_ret (pe_callO O_prefix_sums (hr.mono (by decide)) rfl (pa_cons (pe_ix ix_seq (pe_callO O_end_of (hr.mono (by decide)) rfl (pa_cons (pv 4) (pa_cons (pe_fld (pv 0) rfl) (pa_cons (pv 5) pa_nil)))) (pe_bm PySem.F.plainAttrs_tuple PySem.F.slot_tuple_index PySem.F.type_tuple_index mt_tup_index (pe_globR rfl B.mPLAYERS) (pa_cons (pv 1) pa_nil)) (fun _ _ => rfl)) (pa_cons (pv 6) pa_nil))))))))), body_of (fun M ds d hg => ?_) h⟩), m, F.bindsN (fun _ _ _ _ _ _ us hl => match us, hl with | [_, _, _, _], _ => rfl)⟩
  cases hg with
  | mk G h p o ho n hn =>
  refine ⟨by simp, ?_⟩
  walk_at "go"
  have hsum := Gm.left_sum h n hn
  have hlen := h.len
  have hall := h.sum
  have hf := h.few
  have hr : RkOk (G.left n).length (rk G.r1 G.r2 p) := by
    rw [Gm.left_length]
    cases p
    · exact h.h2
    · exact h.h1
  have h1 : RkOk (G.left n).length G.r1 := by rw [Gm.left_length]; exact h.h1
  have h2 : RkOk (G.left n).length G.r2 := by rw [Gm.left_length]; exact h.h2
  have h60 := h.h1.few
  have hz := h.z
  have hrx : ∀ x ∈ rk G.r1 G.r2 p, x < (G.left n).length := fun x hx => hr.lt hx
  have hr60 : (rk G.r1 G.r2 p).length ≤ 60 := by rw [hr.length, Gm.left_length]; exact h60
  refine ds_seq (ds_par3 (a := plP K (LN (G.left n))) (b := exP fun rest : { rest : List (List Bool × Nat) // RestOk (G.w.drop n) (G.bs.length + 1) rest } => dP K (.list (BD rest.1))) (c := plP K (LN (rk G.r1 G.r2 p))) (eva_cons ?_ (eva_cons ?_ (eva_cons ?_ eva_nil))) ?_)
  · exact ev_meth (ev_var rfl) rfl (by walk_at "ea") (gLA.mk G h n hn) (.inl rfl)
  · exact ev_call (eva_cons (ev_aP (el_fld (f := "sequence") (ev_var rfl) R.cls R.sequence rfl)) (eva_cons (by walk_at "ev") eva_nil)) (gRest.mk G.bs h.hb n (by rw [← hlen]; exact hn)) (.inl rfl)
  · rw [← rk_pl]
    exact ev_call (eva_cons (el_fld (f := "lists") (ev_var rfl) R.cls R.lists rfl) (eva_cons (by walk_at "ev") eva_nil)) (gOwn.mk _ _ p) (.inl rfl)
  simp only [List.set_cons_zero, List.set_cons_succ]
  refine ds_ex 5 rfl fun rest => ?_
  simp only [List.set_cons_zero, List.set_cons_succ]
  obtain ⟨rest, rok⟩ := rest
  simp only
  have hbl : BlOk rest := ⟨by have := rok.few; omega, rok.ok⟩
  have hword := rok.word
  have hfl : (flat rest).length = (G.left n).sum := by rw [hword, List.length_drop]; omega
  have hbest : (bestB (flat rest) p (G.left n) G.r1 G.r2).length = (G.left n).length := by
    unfold bestB fill fillS
    rw [(fillS_len _ _ _ _).1, List.length_replicate]
  refine dq_if (b := decide (o = "hostile")) (evt_test (K := K) (by walk_at "ev")) (fun hb => ?_) (fun hb => ds_next ?_)
  · have e : o = "hostile" := of_decide_eq_true hb
    have e2 : G.come o p n = caps (G.w.drop n) p (G.left n) (rk G.r1 G.r2 p) := by unfold Gm.come; rw [if_pos e]
    rw [e2, ← hword]
    exact ds_retR (ev_call (by walk_at "ea") (gSure.mk (G.left n) (rk G.r1 G.r2 p) rest p hr hbl (by omega)) (.inl rfl))
  have ne1 : o ≠ "hostile" := of_decide_eq_false hb
  refine dq_if (b := decide (o = "plain")) (evt_test (K := K) (by walk_at "ev")) (fun hb => ?_) (fun hb => ds_next ?_)
  · have e : o = "plain" := of_decide_eq_true hb
    have e2 : G.come o p n = psums (bestB (G.w.drop n) p (G.left n) G.r1 G.r2) (rk G.r1 G.r2 p) := by unfold Gm.come; rw [if_neg ne1, if_pos e]
    rw [e2, ← hword]
    exact ds_retR (ev_call (eva_cons (ev_aP (ev_call (eva_cons (by walk_at "ev") (eva_cons (el_fld (f := "lists") (ev_var rfl) R.cls R.lists rfl) (eva_cons (by walk_at "ev") (eva_cons (by walk_at "ev") eva_nil)))) (gBest.mk (G.left n) G.r1 G.r2 rest p h1 h2 hbl (by omega)) (.inl rfl))) (eva_cons (by walk_at "ev") eva_nil)) (gPS.mk _ (rk G.r1 G.r2 p) (by rw [hbest]; exact hrx) hr60) (.inl rfl))
  have ne2 : o ≠ "plain" := of_decide_eq_false hb
  have e2 : G.come o p n = psums (endB G.r1 G.r2 (G.left n) (G.w.drop n) p) (rk G.r1 G.r2 p) := by unfold Gm.come; rw [if_neg ne1, if_neg ne2]
  rw [e2, ← hword]
  refine ds_retR (ev_call (eva_cons (ev_aP (el_ixP (d := plP K (LN (endB G.r1 G.r2 (G.left n) (flat rest) p))) (i := ((if p then 0 else 1 : Nat) : Int)) (ev_call (eva_cons (by walk_at "ev") (eva_cons (ev_sub (el_fld (f := "lists") (ev_var rfl) R.cls R.lists rfl) fun F v => lsP_d (K := K) (r1 := G.r1) (r2 := G.r2)) (eva_cons (by walk_at "ev") eva_nil))) (gEndOf.mk (G.left n) G.r1 G.r2 rest h1 h2 hbl (by omega) (by omega)) (.inl rfl)) (B.idx (by walk_at "ev")) ?_)) (eva_cons (by walk_at "ev") eva_nil)) (gPS.mk (endB G.r1 G.r2 (G.left n) (flat rest) p) (rk G.r1 G.r2 p) (by rw [endB_length]; exact hrx) hr60) (.inl rfl))
  cases p <;> rfl
end
end TPE
end
section
set_option maxHeartbeats 400000
namespace TPE
open PySem PySem.Spec PyProof.Rows L2 TPI TPZ RT
local macro_rules | `(tactic| walk_at "go") => `(tactic| (try dsimp only [cxK, cxKB, cxK2]); (try dsimp [Gam]); (try simp only [List.map_cons, List.map_nil, List.cons_append, List.nil_append]))
local macro_rules | `(tactic| walk_at "ev") => `(tactic| first
  | ((with_reducible apply ev_var); exact rfl)
  | with_reducible exact ev_int
  | with_reducible exact ev_str
  | with_reducible exact ev_bl
  | with_reducible exact ev_non
  | with_reducible exact ev_c
  | ((with_reducible apply el_i) <;> walk_at "ev")
  | ((with_reducible apply el_b) <;> walk_at "ev")
  | ((with_reducible apply el_eqI); (walk_at "ev"); (walk_at "ev"))
  | ((with_reducible apply el_neI); (walk_at "ev"); (walk_at "ev"))
  | ((with_reducible apply el_eqS); (walk_at "ev"); (walk_at "ev"))
  | ((with_reducible apply el_neS); (walk_at "ev"); (walk_at "ev"))
  | ((with_reducible apply ev_notV) <;> walk_at "ev")
  | ((with_reducible apply el_isi); (walk_at "ev"); exact rfl)
  | ((with_reducible apply el_len) <;> walk_at "ej")
  | (((with_reducible apply ev_aT); (walk_at "ev")))
  | (((with_reducible apply ev_aL); (walk_at "ev")))
  | (((with_reducible apply ev_aP); (walk_at "ev")))
  | (((with_reducible apply ev_pl); (walk_at "ev"))))
local macro_rules | `(tactic| walk_at "ej") => `(tactic| first
  | ((with_reducible apply ev_own); exact rfl)
  | ((with_reducible apply EvJ.q_s); walk_at "ev")
  | ((with_reducible apply EvJ.q_l); walk_at "ev")
  | ((with_reducible apply EvJ.q_t); walk_at "ev")
  | ((with_reducible apply evj); walk_at "ev"))
local macro_rules | `(tactic| walk_at "ea") => `(tactic| first
  | with_reducible exact eva_nil
  | ((with_reducible apply eva_cons); (walk_at "ev"); (walk_at "ea")))
local macro_rules | `(tactic| walk_at "et") => `(tactic| first
  | ((with_reducible apply evt_or); (walk_at "et"); (intro _; walk_at "et"))
  | ((with_reducible apply evt_and); (walk_at "et"); (intro _; walk_at "et"))
  | ((with_reducible apply evt_not); (walk_at "et"))
  | ((with_reducible apply evt_test); (walk_at "ev"))
  | ((with_reducible apply evt_tB); (walk_at "ev")))
local macro_rules | `(tactic| walk_at "le") => `(tactic| ((try simp only [List.set_cons_zero, List.set_cons_succ]); repeat' (first | exact Le.nil | (with_reducible apply Le.un) | (apply Le.eq rfl) | apply Le.eq)))
section
variable {P : Program} {w : World} {K : PySem.W.Frag} {mg : Str → Option Value} {base : Heap} {pA oA C : Addr}
theorem bestB_length {w : List Bool} {p : Bool} {c r1 r2 : List Nat} : (bestB w p c r1 r2).length = c.length := by
  unfold bestB fill fillS
  rw [(fillS_len _ _ _ _).1, List.length_replicate]
theorem Gm.rkLen {G : Gm} (h : G.Ok) (p : Bool) : (rk G.r1 G.r2 p).length = G.c.length := by
  cases p
  · exact h.h2.length
  · exact h.h1.length
theorem Gm.come_length {G : Gm} (h : G.Ok) (o : Str) (p : Bool) (n : Nat) : (G.come o p n).length = G.c.length := by
  unfold Gm.come
  split
  · rw [caps_length, Gm.rkLen h]
  split
  · rw [psums_length, Gm.rkLen h]
  · rw [psums_length, Gm.rkLen h]
/-- the standing after n picks -/
def Gm.stand (G : Gm) (o : Str) (p : Bool) (n : Nat) : List Nat := vN G.c.length fun i => (psums (G.bun n p) (rk G.r1 G.r2 p)).getD i 0 + (G.come o p n).getD i 0
inductive gStand (K : PySem.W.Frag) (C : Addr) : Option Addr → List Pd → Pd → Prop
  | mk (G : Gm) (h : G.Ok) (p : Bool) (o : Str) (ho : opps.contains o = true) (n : Nat) (hn : n ≤ G.ks.length) : gStand K C none [recP C (G.fl K), dP K (pD p), dP K (.str o), dP K (nI n)] (plP K (LN (G.stand o p n)))
theorem sc_stand : FnScope ["self", "player", "opponent", "picks", "bundle", "later", "own", "had", "more"] ["self", "player", "opponent", "picks"] (defScope (inClass (top 85) 6)) := ⟨rfl, rfl, rfl, by decide +kernel, rfl, by decide +kernel, by decide +kernel⟩
-- slots: 0 self, 1 player, 2 opponent, 3 picks, 4 bundle, 5 later, 6 own, 7 had, 8 more
theorem w_stand [Tb] (B : Bi K mg pA oA) (D : FunM K C "standing" "Record.standing" (inClass (top 85) 6)) (R : RecC K mg C) (O_prefix_sums : Okd P w K mg base 1 "prefix_sums" ["counts", "ranking"] (gPS K)) (O_own_list : Okd P w K mg base 1 "own_list" ["lists", "player"] (gOwn K)) (OM_to_come : OkM P w K mg base C 8 "to_come" ["self", "player", "opponent", "picks"] (gCome K C)) (OM_bundles_after : OkM P w K mg base C 1 "bundles_after" ["self", "picks"] (gBA K C)) : OkM P w K mg base C 9 "standing" ["self", "player", "opponent", "picks"] (gStand K C) := by
  obtain ⟨f, fd, F, m⟩ := D
  refine ⟨f, fd, F.ok sc_stand (fun vs H Q E h => SpF.len (fun M ds d hg => by cases hg; rfl) h) (fun cdv A outer s H vs Q E hr h => ⟨_, PSs.nox ((pss_cons (ps_set (i := 4) sc_stand.nd rfl (by first | exact Or.inl rfl | exact Or.inr rfl) (pe_ix ix_seq (pe_methO (pv 0) R.cls OM_bundles_after (hr.mono (by decide)) (pa_cons (pv 3) pa_nil)) (pe_bm PySem.F.plainAttrs_tuple PySem.F.slot_tuple_index PySem.F.type_tuple_index mt_tup_index (pe_globR rfl B.mPLAYERS) (pa_cons (pv 1) pa_nil)) (fun _ _ => rfl)))
    (pss_cons (ps_set (i := 5) sc_stand.nd rfl (by first | exact Or.inl rfl | exact Or.inr rfl) (pe_methO (pv 0) R.cls OM_to_come (hr.mono (by decide)) (pa_cons (pv 1) (pa_cons (pv 2) (pa_cons (pv 3) pa_nil)))))
    (pss_cons (ps_set (i := 6) sc_stand.nd rfl (by first | exact Or.inl rfl | exact Or.inr rfl) (pe_callO O_prefix_sums (hr.mono (by decide)) rfl (pa_cons (pv 4) (pa_cons (pe_callO O_own_list (hr.mono (by decide)) rfl (pa_cons (pe_fld (pv 0) rfl) (pa_cons (pv 1) pa_nil))) pa_nil))))
    (pss_one (ps_ret (pe_callTy call_tupX rfl B.tuple (by decide +kernel) (pa_cons (pe_lc (own := [("had", 7), ("more", 8)]) (g := (gTup K 2 (gCons (gName 7) (gCons (gName 8) gNil)))) rfl sc_stand.nd (pi_zipZ (pz_zipS rfl B.zip (pa_cons (pv 6) (pa_cons (pv 5) pa_nil)))) (blkOk_by (own := [("had", 7), ("more", 8)]) (N := ["self", "player", "opponent", "picks", "bundle", "later", "own", "had", "more"]) (sc := defScope (inClass (top 85) 6)) (by decide +kernel)) (fun _ _ _ _ _ => (pg_tup rfl (pgs_cons (pg_name (i := 7) sc_stand.nd rfl (by first | exact Or.inl rfl | exact Or.inr rfl)) (pgs_cons (pg_name (i := 8) sc_stand.nd rfl (by first | exact Or.inl rfl | exact Or.inr rfl)) pgs_nil)))) (fun _ _ _ _ _ => pts_nil) (fun _ _ _ _ _ => (pe_op op_add (pv 7) (pv 8)))) pa_nil)))))))), body_of (fun M ds d hg => ?_) h⟩), m, F.bindsN (fun _ _ _ _ _ _ us hl => match us, hl with | [_, _, _, _], _ => rfl)⟩
  cases hg with
  | mk G h p o ho n hn =>
  refine ⟨by simp, ?_⟩
  walk_at "go"
  have h60 := h.h1.few
  have hr : RkOk G.c.length (rk G.r1 G.r2 p) := by
    cases p
    · exact h.h2
    · exact h.h1
  have hbl : (G.bun n p).length = G.c.length := vN_length
  refine dq_setV (d := dP K (.tuple (LN (G.bun n p)))) (el_ix (ds := G.buns n) (i := ((if p then 0 else 1 : Nat) : Int)) (EvJ.q_t (ev_pl (ev_meth (ev_var rfl) rfl (by walk_at "ea") (gBA.mk G h n hn) (.inl rfl)))) (B.idx (by walk_at "ev")) (by cases p <;> rfl)) ?_
  simp only [List.set_cons_zero, List.set_cons_succ]
  refine dq_setV (d := dP K (.list (LN (G.come o p n)))) (ev_meth (ev_var rfl) rfl (by walk_at "ea") (gCome.mk G h p o ho n hn) (.inl rfl)) ?_
  simp only [List.set_cons_zero, List.set_cons_succ]
  refine dq_setV (d := dP K (.list (LN (psums (G.bun n p) (rk G.r1 G.r2 p))))) (ev_call (eva_cons (by walk_at "ev") (eva_cons (ev_aP (ds := LN (rk G.r1 G.r2 p)) (by rw [← rk_pl]; exact ev_call (eva_cons (el_fld (f := "lists") (ev_var rfl) R.cls R.lists rfl) (eva_cons (by walk_at "ev") eva_nil)) (gOwn.mk _ _ p) (.inl rfl))) eva_nil)) (gPS.mk (G.bun n p) (rk G.r1 G.r2 p) (fun x hx => by rw [hbl]; exact hr.lt hx) (by rw [hr.length]; exact h60)) (.inl rfl)) ?_
  simp only [List.set_cons_zero, List.set_cons_succ]
  refine ds_retR (el_tup (EvJ.q_l (ev_frz (evc_eqL (evc_mapF (K := K) (evi_zip (K := K) (ds1 := LN (psums (G.bun n p) (rk G.r1 G.r2 p))) (ds2 := LN (G.come o p n)) (d1 := dP K (.list (LN (psums (G.bun n p) (rk G.r1 G.r2 p))))) (d2 := dP K (.list (LN (G.come o p n)))) (by walk_at "ea") itd_l itd_l (fun _ => by rw [LN_length, LN_length, psums_length, Gm.come_length h, hr.length])) (fun i => nI ((psums (G.bun n p) (rk G.r1 G.r2 p)).getD i 0 + (G.come o p n).getD i 0)) (by rw [LN_length, LN_length, psums_length, hr.length]; omega) fun i hi => ?_) ?_))))
  · rw [LN_length, LN_length] at hi
    rw [LN_getD (by omega), LN_getD (by omega)]
    exact ⟨_, gt2, el_addN (by walk_at "ev") (by walk_at "ev")⟩
  · rw [LN_length, LN_length, psums_length, hr.length, Gm.come_length h, Nat.min_self]
    simp only [Gm.stand, vN, LN, List.map_map]
    rfl
inductive gStands (K : PySem.W.Frag) (C : Addr) : Option Addr → List Pd → Pd → Prop
  | mk (G : Gm) (h : G.Ok) (p : Bool) (o : Str) (ho : opps.contains o = true) : gStands K C none [recP C (G.fl K), dP K (pD p), dP K (.str o)] (dP K (.list ((List.range (G.ks.length + 1)).map fun n => .tuple (LN (G.stand o p n)))))
theorem sc_stands : FnScope ["self", "player", "opponent", "picks"] ["self", "player", "opponent"] (defScope (inClass (top 85) 7)) := ⟨rfl, rfl, rfl, by decide +kernel, rfl, by decide +kernel, by decide +kernel⟩
-- slots: 0 self*, 1 player*, 2 opponent*, 3 picks
theorem w_stands [Tb] (B : Bi K mg pA oA) (D : FunM K C "standings" "Record.standings" (inClass (top 85) 7)) (R : RecC K mg C) (O_require_player : Okd P w K mg base 1 "require_player" ["player"] (gRPlayer K)) (O_require_opponent : Okd P w K mg base 1 "require_opponent" ["opponent"] (gROpp K)) (O_require_whole_records : Okd P w K mg base 2 "require_whole_records" ["counts", "sequence", "opponent"] (gWholeR K)) (OM_standing : OkM P w K mg base C 9 "standing" ["self", "player", "opponent", "picks"] (gStand K C)) : OkM P w K mg base C 10 "standings" ["self", "player", "opponent"] (gStands K C) := by
  obtain ⟨f, fd, F, m⟩ := D
  refine ⟨f, fd, F.ok sc_stands (fun vs H Q E h => SpF.len (fun M ds d hg => by cases hg; rfl) h) (fun cdv A outer s H vs Q E hr h => ⟨_, PSs.nox ((pss_cons (ps_expr (pe_callO O_require_player (hr.mono (by decide)) rfl (pa_cons (pv 1) pa_nil)))
    (pss_cons (ps_expr (pe_callO O_require_opponent (hr.mono (by decide)) rfl (pa_cons (pv 2) pa_nil)))
    (pss_cons (ps_expr (pe_callO O_require_whole_records (hr.mono (by decide)) rfl (pa_cons (pe_fld (pv 0) rfl) (pa_cons (pe_fld (pv 0) rfl) (pa_cons (pv 2) pa_nil)))))
    (pss_one (ps_ret (pe_lc (own := [("picks", 3)]) rfl sc_stands.nd (pi_range1 rfl B.range (pa_cons (pe_op op_add (pe_callB call_len rfl B.len (by decide +kernel) (pa_cons (pe_fld (pv 0) rfl) pa_nil)) pe_int) pa_nil)) (blkOk_by (own := [("picks", 3)]) (N := ["self", "player", "opponent", "picks"]) (sc := defScope (inClass (top 85) 7)) (by decide +kernel)) (fun _ _ _ _ _ => (pg_name (i := 3) sc_stands.nd rfl (by first | exact Or.inl rfl | exact Or.inr rfl))) (fun _ _ _ _ _ => pts_nil) (fun _ _ _ _ _ => (pe_methO (pv 0) R.cls OM_standing (hr.mono (by decide)) (pa_cons (pv 1) (pa_cons (pv 2) (pa_cons (pv 3) pa_nil)))))))))))), body_of (fun M ds d hg => ?_) h⟩), m, F.bindsN (fun _ _ _ _ _ _ us hl => match us, hl with | [_, _, _], _ => rfl)⟩
  cases hg with
  | mk G h p o ho =>
  refine ⟨by simp, ?_⟩
  walk_at "go"
  have hz := h.z
  refine dq_drop (ev_call (by walk_at "ea") (gRPlayer.mk p) (.inl rfl)) ?_
  refine dq_drop (ev_call (by walk_at "ea") (gROpp.mk o ho) (.inl rfl)) ?_
  refine dq_drop (ev_call (eva_cons (el_fld (f := "counts") (ev_var rfl) R.cls R.counts rfl) (eva_cons (ev_aP (el_fld (f := "sequence") (ev_var rfl) R.cls R.sequence rfl)) (eva_cons (by walk_at "ev") eva_nil))) (gWholeR.mk G.c G.bs o h.hb (Nat.le_of_eq h.sum.symm)) (.inl rfl)) ?_
  refine ds_retR (ev_frz (evc_eqL (evc_mapF (K := K) (evi_range1 (K := K) (k := ((G.ks.length + 1 : Nat) : Int)) (el_addN (a := G.ks.length) (b := 1) (el_lenN (sk := .t) (EvJ.q_t (ev_pl (el_fld (f := "picks") (ev_var rfl) R.cls R.picks rfl)))) (ev_eq ev_int rfl)) (by omega) (by omega)) (fun n => .tuple (LN (G.stand o p n))) (by simp; omega) fun i hi => ?_) (by rw [Int.toNat_natCast])))
  rw [Int.toNat_natCast] at hi
  exact ⟨_, gt1, ev_pl (ev_meth (ev_var rfl) rfl (by walk_at "ea") (gStand.mk G h p o ho i (by omega)) (.inl rfl))⟩
/-- no fall of a standing at p's own picks -/
def Gm.NoFall (G : Gm) (o : Str) (p : Bool) : Prop := ∀ n, n < G.ks.length → G.w[n]? = some p → ∀ i, i < G.c.length → (G.stand o p n).getD i 0 ≤ (G.stand o p (n + 1)).getD i 0
inductive gLoss (K : PySem.W.Frag) (C : Addr) : Option Addr → List Pd → Pd → Prop
  | mk (G : Gm) (h : G.Ok) (p : Bool) (o : Str) (ho : opps.contains o = true) (hf : G.NoFall o p) : gLoss K C none [recP C (G.fl K), dP K (pD p), dP K (.str o)] (dP K (.list []))
theorem sc_losses : FnScope ["self", "player", "opponent", "found", "steps", "index", "before", "after", "falls", "one", "other", "fall"] ["self", "player", "opponent"] (defScope (inClass (top 85) 8)) := ⟨rfl, rfl, rfl, by decide +kernel, rfl, by decide +kernel, by decide +kernel⟩
-- slots: 0 self, 1 player, 2 opponent, 3 found, 4 steps, 5 index, 6 before, 7 after, 8 falls, 9 one, 10 other, 11 fall
theorem w_losses [Tb] (B : Bi K mg pA oA) (D : FunM K C "losses" "Record.losses" (inClass (top 85) 8)) (R : RecC K mg C) (OM_standings : OkM P w K mg base C 10 "standings" ["self", "player", "opponent"] (gStands K C)) : OkM P w K mg base C 11 "losses" ["self", "player", "opponent"] (gLoss K C) := by
  obtain ⟨f, fd, F, m⟩ := D
  refine ⟨f, fd, F.ok sc_losses (fun vs H Q E h => SpF.len (fun M ds d hg => by cases hg; rfl) h) (fun cdv A outer s H vs Q E hr h => ⟨_, PSs.nox ((pss_cons (ps_set (i := 3) sc_losses.nd rfl (by first | exact Or.inl rfl | exact Or.inr rfl) (pe_lst pa_nil))
    (pss_cons (ps_set (i := 4) sc_losses.nd rfl (by first | exact Or.inl rfl | exact Or.inr rfl) (pe_methO (pv 0) R.cls OM_standings (hr.mono (by decide)) (pa_cons (pv 1) (pa_cons (pv 2) pa_nil))))
    (pss_cons (ps_for PassesOwn.never rfl (pi_enumZ rfl B.enumerate (pz_zip rfl B.zip (pa_cons (pv 4) (pa_cons (pe_slice sl_list (pv 4) (po_some pe_int) po_none) pa_nil)))) (pg_tup rfl (pgs_cons (pg_name (i := 5) sc_losses.nd rfl (by first | exact Or.inl rfl | exact Or.inr rfl)) (pgs_cons (pg_tup rfl (pgs_cons (pg_name (i := 6) sc_losses.nd rfl (by first | exact Or.inl rfl | exact Or.inr rfl)) (pgs_cons (pg_name (i := 7) sc_losses.nd rfl (by first | exact Or.inl rfl | exact Or.inr rfl)) pgs_nil))) pgs_nil)))
    (pss_cons (ps_set (i := 8) sc_losses.nd rfl (by first | exact Or.inl rfl | exact Or.inr rfl) (pe_callTy call_tupX rfl B.tuple (by decide +kernel) (pa_cons (pe_lc (own := [("one", 9), ("other", 10)]) (g := (gTup K 2 (gCons (gName 9) (gCons (gName 10) gNil)))) rfl sc_losses.nd (pi_zipZ (pz_zipS rfl B.zip (pa_cons (pv 6) (pa_cons (pv 7) pa_nil)))) (blkOk_by (own := [("one", 9), ("other", 10)]) (N := ["self", "player", "opponent", "found", "steps", "index", "before", "after", "falls", "one", "other", "fall"]) (sc := defScope (inClass (top 85) 8)) (by decide +kernel)) (fun _ _ _ _ _ => (pg_tup rfl (pgs_cons (pg_name (i := 9) sc_losses.nd rfl (by first | exact Or.inl rfl | exact Or.inr rfl)) (pgs_cons (pg_name (i := 10) sc_losses.nd rfl (by first | exact Or.inl rfl | exact Or.inr rfl)) pgs_nil)))) (fun _ _ _ _ _ => pts_nil) (fun _ _ _ _ _ => (pe_op op_sub (pv 9) (pv 10)))) pa_nil)))
    (pss_one (ps_if (PW.pt (pw_and (pt_cmpR op_eq (pe_ix ix_seq (pe_fld (pv 0) rfl) (pv 5) (fun _ _ => rfl)) (pv 1) (nomark _)) (pw_and1 (pt_val (pe_callB (cr_any rfl) rfl B.any (by decide +kernel) (pa_cons (pe_lc (own := [("fall", 11)]) rfl sc_losses.nd (pi_src (pv 8)) (blkOk_by (own := [("fall", 11)]) (N := ["self", "player", "opponent", "found", "steps", "index", "before", "after", "falls", "one", "other", "fall"]) (sc := defScope (inClass (top 85) 8)) (by decide +kernel)) (fun _ _ _ _ _ => (pg_name (i := 11) sc_losses.nd rfl (by first | exact Or.inl rfl | exact Or.inr rfl))) (fun _ _ _ _ _ => pts_nil) (fun _ _ _ _ _ => (pe_cmpR op_gt (pv 11) pe_int (nomark _)))) pa_nil))))))
    (pss_one (ps_expr (pe_bm PySem.F.plainAttrs_list PySem.F.slot_list_append PySem.F.type_list_append mt_append (pv 3) (pa_cons (pe_tup (pa_cons (pv 5) (pa_cons (pv 8) pa_nil))) pa_nil))))
    pss_nil))))
    (pss_one (ps_ret (pv 3))))))), body_of (fun M ds d hg => ?_) h⟩), m, F.bindsN (fun _ _ _ _ _ _ us hl => match us, hl with | [_, _, _], _ => rfl)⟩
  cases hg with
  | mk G h p o ho hf =>
  refine ⟨by simp, ?_⟩
  walk_at "go"
  have h60 := h.h1.few
  have hz := h.z
  have hlen := h.len
  generalize hS : (List.range (G.ks.length + 1)).map (fun n => PyData.tuple (LN (G.stand o p n))) = S
  have hSl : S.length = G.ks.length + 1 := by rw [← hS]; simp
  have hSg : ∀ n, n < G.ks.length + 1 → S.getD n .none = .tuple (LN (G.stand o p n)) := fun n hn => by rw [← hS, List.getD_eq_getElem?_getD]; simp [hn]
  have hstl : ∀ n, (G.stand o p n).length = G.c.length := fun n => vN_length
  refine dq_set (c := .own (ownL K [])) (evc_lst (ds := []) eva_nil (Nat.zero_le _)) ?_
  simp only [List.set_cons_zero, List.set_cons_succ]
  refine dq_setV (d := dP K (.list S)) (by rw [← hS]; exact ev_meth (ev_var rfl) rfl (by walk_at "ea") (gStands.mk G h p o ho) (.inl rfl)) ?_
  simp only [List.set_cons_zero, List.set_cons_succ]
  refine dq_forL (evi_enumZ (K := K) (ds1 := S) (ds2 := S.drop 1) (d1 := dP K (.list S)) (d2 := dP K (.list (S.drop 1))) (eva_cons (by walk_at "ev") (eva_cons ?_ eva_nil)) itd_l itd_l (fun e => by cases e)) (fun i => True) (fun i => [.val (recP C (G.fl K)), .val (dP K (pD p)), .val (dP K (.str o)), .own (ownL K []), .val (dP K (.list S)), .un, .un, .un, .un, .un, .un, .un]) ⟨trivial, ?_⟩ (fun i hi _ => ?_) (fun _ => ?_)
  · have := el_slL (K := K) (M := none) (ds := S) (Γ := [.val (recP C (G.fl K)), .val (dP K (pD p)), .val (dP K (.str o)), .own (ownL K []), .val (dP K (.list S)), .un, .un, .un, .un, .un, .un, .un]) (ta := tVar 4) (EvJ.q_l (ev_var rfl)) (evo_N (K := K) (n := 1) (ev_eq ev_int rfl)) evo_none
    rw [cut_drop] at this
    exact ev_frz this
  · walk_at "le"
  · rw [hSl, List.length_drop, hSl] at hi
    have hi' : i < G.ks.length := by omega
    have hi2 : i < G.w.length := by rw [← hlen]; exact hi'
    have e2 : (S.drop 1).getD i .none = .tuple (LN (G.stand o p (i + 1))) := by rw [List.getD_eq_getElem?_getD, List.getElem?_drop, Nat.add_comm, ← List.getD_eq_getElem?_getD, hSg _ (by omega)]
    rw [hSg _ (by omega), e2]
    refine ⟨_, _, gt12, ?_⟩
    simp only [List.set_cons_zero, List.set_cons_succ, Int.zero_add]
    refine dq_setV (d := plP K ((List.range G.c.length).map fun j => .int (((G.stand o p i).getD j 0 : Nat) - ((G.stand o p (i + 1)).getD j 0 : Nat)))) (el_tup (EvJ.q_l (ev_frz (evc_eqL (evc_mapF (K := K) (evi_zip (K := K) (ds1 := LN (G.stand o p i)) (ds2 := LN (G.stand o p (i + 1))) (d1 := dP K (.tuple (LN (G.stand o p i)))) (d2 := dP K (.tuple (LN (G.stand o p (i + 1))))) (by walk_at "ea") itd_t itd_t (fun _ => by rw [LN_length, LN_length, hstl, hstl])) (fun j => .int (((G.stand o p i).getD j 0 : Nat) - ((G.stand o p (i + 1)).getD j 0 : Nat))) (by rw [LN_length, LN_length, hstl, hstl]; omega) fun j hj => ?_) (by rw [LN_length, LN_length, hstl, hstl, Nat.min_self]))))) ?_
    · rw [LN_length, LN_length, hstl, hstl] at hj
      rw [LN_getD (by rw [hstl]; omega), LN_getD (by rw [hstl]; omega)]
      exact ⟨_, gt2, el_i (by walk_at "ev") (by walk_at "ev")⟩
    simp only [List.set_cons_zero, List.set_cons_succ]
    refine dq_guardL (b := decide (SW [G.w[i]] = SW [p]) && false) (evt_and (evt_test (K := K) (el_eqS (el_ix (sk := .l) (ds := G.w.map pD) (i := (i : Nat)) (EvJ.q_l (el_fld (f := "owners") (ev_var rfl) R.cls R.owners rfl)) (by walk_at "ev") (atI_nat (by simp [hi2]))) (by walk_at "ev"))) fun hb => ?_) (by simp) ⟨trivial, by walk_at "le"⟩
    have hp : G.w[i] = p := by
      have := SW_inj (of_decide_eq_true hb)
      simpa using this
    have hfall := hf i hi' (by rw [List.getElem?_eq_getElem hi2, hp])
    refine evt_eq (evt_test (K := K) (el_any (bs := List.replicate G.c.length false) (evc_eqL (evc_mapF (K := K) (evi_src (ds := (List.range G.c.length).map fun j => .int (((G.stand o p i).getD j 0 : Nat) - ((G.stand o p (i + 1)).getD j 0 : Nat))) (ev_var rfl) itd_p) (fun _ => .bool false) (by simp; omega) fun j hj => ?_) ?_))) ?_
    · have hj' : j < G.c.length := by simpa using hj
      have hle := hfall j hj'
      rw [show ((List.range G.c.length).map fun j => PyData.int (((G.stand o p i).getD j 0 : Nat) - ((G.stand o p (i + 1)).getD j 0 : Nat))).getD j .none = .int (((G.stand o p i).getD j 0 : Nat) - ((G.stand o p (i + 1)).getD j 0 : Nat)) by rw [List.getD_eq_getElem?_getD]; simp [hj']]
      exact ⟨_, gt1, ev_eq (el_b (by walk_at "ev") (by walk_at "ev")) (by rw [decide_eq_false]; omega)⟩
    · simp [List.map_const']
    · simp
  · refine ds_frz (K := K) (ds := []) 3 rfl ?_
    exact ds_retR (ev_var rfl)
inductive gFL (K : PySem.W.Frag) (C : Addr) : Option Addr → List Pd → Pd → Prop
  | mk (G : Gm) (h : G.Ok) (p : Bool) (o : Str) (ho : opps.contains o = true) (hf : G.NoFall o p) : gFL K C none [recP C (G.fl K), dP K (pD p), dP K (.str o)] (dP K .none)
theorem sc_firstl : FnScope ["self", "player", "opponent"] ["self", "player", "opponent"] (defScope (inClass (top 85) 9)) := ⟨rfl, rfl, rfl, by decide +kernel, rfl, by decide +kernel, by decide +kernel⟩
-- slots: 0 self, 1 player, 2 opponent
theorem w_firstl [Tb] (B : Bi K mg pA oA) (D : FunM K C "first_loss" "Record.first_loss" (inClass (top 85) 9)) (R : RecC K mg C) (OM_losses : OkM P w K mg base C 11 "losses" ["self", "player", "opponent"] (gLoss K C)) : OkM P w K mg base C 12 "first_loss" ["self", "player", "opponent"] (gFL K C) := by
  obtain ⟨f, fd, F, m⟩ := D
  refine ⟨f, fd, F.ok sc_firstl (fun vs H Q E h => SpF.len (fun M ds d hg => by cases hg; rfl) h) (fun cdv A outer s H vs Q E hr h => ⟨_, PSs.nox ((pss_one (ps_ret (pe_ix ix_seq (pe_op op_catL (pe_methO (pv 0) R.cls OM_losses (hr.mono (by decide)) (pa_cons (pv 1) (pa_cons (pv 2) pa_nil))) (pe_lst (pa_cons pe_non pa_nil))) pe_int (fun _ _ => rfl))))), body_of (fun M ds d hg => ?_) h⟩), m, F.bindsN (fun _ _ _ _ _ _ us hl => match us, hl with | [_, _, _], _ => rfl)⟩
  cases hg with
  | mk G h p o ho hf =>
  refine ⟨by simp, ?_⟩
  walk_at "go"
  refine ds_retR (el_ix (sk := .l) (ds := [.none]) (i := 0) (EvJ.q_l (ev_frz (el_catL (K := K) (ds := []) (es := [.none]) (EvJ.q_l (ev_meth (ev_var rfl) rfl (by walk_at "ea") (gLoss.mk G h p o ho hf) (.inl rfl))) (EvJ.q_l (ev_frz (evc_lst (ds := [.none]) (eva_cons ev_non eva_nil) (by show 1 ≤ sizeLine; decide)))) (by simp)))) (ev_eq ev_int rfl) rfl)
end
end TPE
end
section
set_option maxHeartbeats 400000
namespace TPE
open PySem PySem.Spec PyProof.Rows L2 TPI TPZ RT
local macro_rules | `(tactic| walk_at "go") => `(tactic| (try dsimp only [cxK, cxKB, cxK2]); (try dsimp [Gam]); (try simp only [List.map_cons, List.map_nil, List.cons_append, List.nil_append]))
local macro_rules | `(tactic| walk_at "ev") => `(tactic| first
  | ((with_reducible apply ev_var); exact rfl)
  | with_reducible exact ev_int
  | with_reducible exact ev_str
  | with_reducible exact ev_bl
  | with_reducible exact ev_non
  | with_reducible exact ev_c
  | ((with_reducible apply el_i) <;> walk_at "ev")
  | ((with_reducible apply el_b) <;> walk_at "ev")
  | ((with_reducible apply el_eqI); (walk_at "ev"); (walk_at "ev"))
  | ((with_reducible apply el_neI); (walk_at "ev"); (walk_at "ev"))
  | ((with_reducible apply el_eqS); (walk_at "ev"); (walk_at "ev"))
  | ((with_reducible apply el_neS); (walk_at "ev"); (walk_at "ev"))
  | ((with_reducible apply ev_notV) <;> walk_at "ev")
  | ((with_reducible apply el_isi); (walk_at "ev"); exact rfl)
  | ((with_reducible apply el_len) <;> walk_at "ej")
  | (((with_reducible apply ev_aT); (walk_at "ev")))
  | (((with_reducible apply ev_aL); (walk_at "ev")))
  | (((with_reducible apply ev_aP); (walk_at "ev")))
  | (((with_reducible apply ev_pl); (walk_at "ev"))))
local macro_rules | `(tactic| walk_at "ej") => `(tactic| first
  | ((with_reducible apply ev_own); exact rfl)
  | ((with_reducible apply EvJ.q_s); walk_at "ev")
  | ((with_reducible apply EvJ.q_l); walk_at "ev")
  | ((with_reducible apply EvJ.q_t); walk_at "ev")
  | ((with_reducible apply evj); walk_at "ev"))
local macro_rules | `(tactic| walk_at "ea") => `(tactic| first
  | with_reducible exact eva_nil
  | ((with_reducible apply eva_cons); (walk_at "ev"); (walk_at "ea")))
local macro_rules | `(tactic| walk_at "et") => `(tactic| first
  | ((with_reducible apply evt_or); (walk_at "et"); (intro _; walk_at "et"))
  | ((with_reducible apply evt_and); (walk_at "et"); (intro _; walk_at "et"))
  | ((with_reducible apply evt_not); (walk_at "et"))
  | ((with_reducible apply evt_test); (walk_at "ev"))
  | ((with_reducible apply evt_tB); (walk_at "ev")))
local macro_rules | `(tactic| walk_at "le") => `(tactic| ((try simp only [List.set_cons_zero, List.set_cons_succ]); repeat' (first | exact Le.nil | (with_reducible apply Le.un) | (apply Le.eq rfl) | apply Le.eq)))
section
variable {P : Program} {w : World} {K : PySem.W.Frag} {mg : Str → Option Value} {base : Heap} {pA oA C : Addr}
inductive gLPre (K : PySem.W.Frag) : Option Addr → List Pd → Pd → Prop
  | mk (c r : List Nat) (hr : ∀ x ∈ r, x < c.length) (hz : r.length ≤ 60) : gLPre K none [dP K (.tuple (LN c)), dP K (.tuple (LN r))] (dP K (.list (LN (psums c r))))
theorem sc_lpre : FnScope ["_law_bundle_of", "_law_ranking_of", "_law_found", "_law_total", "_law_one_here"] ["_law_bundle_of", "_law_ranking_of"] (defScope (top 96)) := ⟨rfl, rfl, rfl, by decide +kernel, rfl, by decide +kernel, by decide +kernel⟩
-- slots: 0 _law_bundle_of, 1 _law_ranking_of, 2 _law_found, 3 _law_total, 4 _law_one_here
theorem w_lpre [Tb] (B : Bi K mg pA oA) (D : FunG K mg "_law_prefixes" "_law_prefixes" (top 96)) : Okd P w K mg base 1 "_law_prefixes" ["_law_bundle_of", "_law_ranking_of"] (gLPre K) := by
  obtain ⟨f, fd, F, m⟩ := D
  refine ⟨f, fd, F.ok sc_lpre (fun vs H Q E h => SpF.len (fun M ds d hg => by cases hg; rfl) h) (fun cdv A outer s H vs Q E hr h => ⟨_, PSs.nox ((pss_cons (ps_par (i := 2) (j := 3) rfl sc_lpre.nd rfl rfl (by decide) rfl rfl (pa_cons (pe_lst pa_nil) (pa_cons pe_int pa_nil)) rfl)
    (pss_cons (ps_for PassesOwn.never rfl (pi_src (pv 1)) (pg_name (i := 4) sc_lpre.nd rfl (by first | exact Or.inl rfl | exact Or.inr rfl))
    (pss_cons (ps_set (i := 3) sc_lpre.nd rfl (by first | exact Or.inl rfl | exact Or.inr rfl) (pe_op op_add (pv 3) (pe_ix ix_seq (pv 0) (pv 4) (fun _ _ => rfl))))
    (pss_one (ps_expr (pe_bm PySem.F.plainAttrs_list PySem.F.slot_list_append PySem.F.type_list_append mt_append (pv 2) (pa_cons (pv 3) pa_nil))))))
    (pss_one (ps_ret (pv 2)))))), body_of (fun M ds d hg => ?_) h⟩), m, F.kp, F.bindsN (fun _ _ _ _ _ _ us hl => match us, hl with | [_, _], _ => rfl)⟩
  cases hg with
  | mk c r hr hz =>
  refine ⟨by simp, ?_⟩
  walk_at "go"
  refine dq_par (c := .own (ownL K [])) (c2 := .val (dP K (.int 0))) (evc_lst (ds := []) eva_nil (Nat.zero_le _)) ev_int (by decide) ?_
  refine dq_for (evi_src (ds := LN r) (by walk_at "ev") itd_t) (fun i Γ' => ∃ c1, Γ' = [.val (dP K (.tuple (LN c))), .val (dP K (.tuple (LN r))), .own (ownL K (LN ((psums c r).take i))), .val (dP K (nI (PSm c r i))), c1]) ⟨_, rfl⟩ (fun i Γ' hi hI => ?_) (fun Γ' hI => ?_)
  · obtain ⟨c1, rfl⟩ := hI
    rw [LN_length] at hi
    rw [LN_getD hi]
    have hx : r.getD i 0 < c.length := hr _ (by rw [List.getD_eq_getElem?_getD, List.getElem?_eq_getElem hi]; exact List.getElem_mem _)
    refine ⟨_, _, gt1, ?_⟩
    refine dq_setV (d := dP K (nI (PSm c r i + c.getD (r.getD i 0) 0))) (el_addN (by walk_at "ev") (el_ixN (sk := .t) (EvJ.q_t (by walk_at "ev")) (by walk_at "ev") hx)) ?_
    refine ds_append (K := K) (ds := LN ((psums c r).take i)) (x := nI (PSm c r (i + 1))) rfl (ev_eq (by walk_at "ev") (by rw [PSm_succ hi])) ?_ ?_
    · rw [LN_length, List.length_take]; exact small1000 (by omega)
    · refine ⟨.val (dP K (nI (r.getD i 0))), ?_⟩
      have e1 : LN ((psums c r).take i) ++ [nI (PSm c r (i + 1))] = LN ((psums c r).take (i + 1)) := by rw [psums_take hi, LN_append]; rfl
      have e2 : PSm c r i + c.getD (r.getD i 0) 0 = PSm c r (i + 1) := by rw [PSm_succ hi]
      simp only [List.set_cons_zero, List.set_cons_succ, e1, e2]
  · obtain ⟨c1, rfl⟩ := hI
    rw [LN_length, List.take_of_length_le (by rw [psums_length]; omega)]
    refine ds_frz 2 (K := K) (ds := LN (psums c r)) rfl ?_
    exact ds_retR (by walk_at "ev")
end
end TPE
end
section
set_option maxHeartbeats 400000
namespace TPE
open PySem PySem.Spec PyProof.Rows L2 TPI TPZ RT
local macro_rules | `(tactic| walk_at "go") => `(tactic| (try dsimp only [cxK, cxKB, cxK2]); (try dsimp [Gam]); (try simp only [List.map_cons, List.map_nil, List.cons_append, List.nil_append]))
local macro_rules | `(tactic| walk_at "ev") => `(tactic| first
  | ((with_reducible apply ev_var); exact rfl)
  | with_reducible exact ev_int
  | with_reducible exact ev_str
  | with_reducible exact ev_bl
  | with_reducible exact ev_non
  | with_reducible exact ev_c
  | ((with_reducible apply el_i) <;> walk_at "ev")
  | ((with_reducible apply el_b) <;> walk_at "ev")
  | ((with_reducible apply el_eqI); (walk_at "ev"); (walk_at "ev"))
  | ((with_reducible apply el_neI); (walk_at "ev"); (walk_at "ev"))
  | ((with_reducible apply el_eqS); (walk_at "ev"); (walk_at "ev"))
  | ((with_reducible apply el_neS); (walk_at "ev"); (walk_at "ev"))
  | ((with_reducible apply ev_notV) <;> walk_at "ev")
  | ((with_reducible apply el_isi); (walk_at "ev"); exact rfl)
  | ((with_reducible apply el_len) <;> walk_at "ej")
  | (((with_reducible apply ev_aT); (walk_at "ev")))
  | (((with_reducible apply ev_aL); (walk_at "ev")))
  | (((with_reducible apply ev_aP); (walk_at "ev")))
  | (((with_reducible apply ev_pl); (walk_at "ev"))))
local macro_rules | `(tactic| walk_at "ej") => `(tactic| first
  | ((with_reducible apply ev_own); exact rfl)
  | ((with_reducible apply EvJ.q_s); walk_at "ev")
  | ((with_reducible apply EvJ.q_l); walk_at "ev")
  | ((with_reducible apply EvJ.q_t); walk_at "ev")
  | ((with_reducible apply evj); walk_at "ev"))
local macro_rules | `(tactic| walk_at "ea") => `(tactic| first
  | with_reducible exact eva_nil
  | ((with_reducible apply eva_cons); (walk_at "ev"); (walk_at "ea")))
local macro_rules | `(tactic| walk_at "et") => `(tactic| first
  | ((with_reducible apply evt_or); (walk_at "et"); (intro _; walk_at "et"))
  | ((with_reducible apply evt_and); (walk_at "et"); (intro _; walk_at "et"))
  | ((with_reducible apply evt_not); (walk_at "et"))
  | ((with_reducible apply evt_test); (walk_at "ev"))
  | ((with_reducible apply evt_tB); (walk_at "ev")))
local macro_rules | `(tactic| walk_at "le") => `(tactic| ((try simp only [List.set_cons_zero, List.set_cons_succ]); repeat' (first | exact Le.nil | (with_reducible apply Le.un) | (apply Le.eq rfl) | apply Le.eq)))
section
variable {P : Program} {w : World} {K : PySem.W.Frag} {mg : Str → Option Value} {base : Heap} {pA oA C : Addr}
theorem el_eqL [Tb] {M : Option Addr} {Γ : List Slt} {ta tb : TE} {a b : List Nat} (ha : Ev M ta Γ (dP K (.list (LN a)))) (hb : Ev M tb Γ (dP K (.list (LN b)))) : Ev M (tOp (rEqD K) ta tb) Γ (dP K (.bool (decide (a = b)))) :=
  ev_eq (ev_op (evj ha) (evj hb) (oj_eqD toD_d toD_d (shaped_intsL (ZN a)) (shaped_intsL (ZN b)))) (by rw [LN_eq, LN_eq, eqv_intsL, ZN_eq])
inductive gNoLoss (K : PySem.W.Frag) (C : Addr) : Option Addr → List Pd → Pd → Prop
  | mk (G : Gm) (h : G.Ok) (p : Bool) (o : Str) (ho : opps.contains o = true) (hf : G.NoFall o p) : gNoLoss K C none [recP C (G.fl K), dP K (pD p), dP K (.str o)] (dP K (.bool true))
theorem sc_noloss : FnScope ["_law_game", "_law_me", "_law_foe"] ["_law_game", "_law_me", "_law_foe"] (defScope (top 100)) := ⟨rfl, rfl, rfl, by decide +kernel, rfl, by decide +kernel, by decide +kernel⟩
-- slots: 0 _law_game, 1 _law_me, 2 _law_foe
theorem w_noloss [Tb] (B : Bi K mg pA oA) (D : FunG K mg "_law_no_loss" "_law_no_loss" (top 100)) (R : RecC K mg C) (OM_losses : OkM P w K mg base C 11 "losses" ["self", "player", "opponent"] (gLoss K C)) (OM_first_loss : OkM P w K mg base C 12 "first_loss" ["self", "player", "opponent"] (gFL K C)) : Okd P w K mg base 13 "_law_no_loss" ["_law_game", "_law_me", "_law_foe"] (gNoLoss K C) := by
  obtain ⟨f, fd, F, m⟩ := D
  refine ⟨f, fd, F.ok sc_noloss (fun vs H Q E h => SpF.len (fun M ds d hg => by cases hg; rfl) h) (fun cdv A outer s H vs Q E hr h => ⟨_, PSs.nox ((pss_one (ps_ret (pe_and (pe_cmpR (op_eqD hr.units) (pe_methO (pv 0) R.cls OM_losses (hr.mono (by decide)) (pa_cons (pv 1) (pa_cons (pv 2) pa_nil))) (pe_lst pa_nil) (nomark _)) (pe_one (pe_cmpR op_isN (pe_methO (pv 0) R.cls OM_first_loss (hr.mono (by decide)) (pa_cons (pv 1) (pa_cons (pv 2) pa_nil))) pe_non (nomark _))))))), body_of (fun M ds d hg => ?_) h⟩), m, F.kp, F.bindsN (fun _ _ _ _ _ _ us hl => match us, hl with | [_, _, _], _ => rfl)⟩
  cases hg with
  | mk G h p o ho hf =>
  refine ⟨by simp, ?_⟩
  walk_at "go"
  refine ds_retR (ev_andV (b := true) (b' := true) ?_ fun _ => ?_)
  · exact ev_eq (el_eqL (a := []) (b := []) (ev_meth (ev_var rfl) rfl (by walk_at "ea") (gLoss.mk G h p o ho hf) (.inl rfl)) (ev_frz (evc_lst (ds := []) eva_nil (Nat.zero_le _)))) (by simp)
  · exact ev_eq (el_isN (x := .none) (ev_meth (ev_var rfl) rfl (by walk_at "ea") (gFL.mk G h p o ho hf) (.inl rfl))) rfl
end
end TPE
end
section
set_option maxHeartbeats 400000
namespace TPE
open PySem PySem.Spec PyProof.Rows L2 TPI TPZ RT
/-- an own list of three numbers becomes the source -/
theorem ds_switch [Tb] {K : PySem.W.Frag} {Γ : List Slt} {ts : TS} {P : Po} {x c n : Int} (i : Nat) (h : Γ[i]? = some (.own (ownL K [.int x, .int c, .int n]))) (k : ∀ s, Ds (some s) ts (Γ.set i (.val (cP (.ref s)))) P) : Ds none ts Γ P := fun B O0 O σ H E D pk => by
  obtain ⟨fp, h1, h2⟩ := E.own
  obtain ⟨⟨v, h3, l, vs, h4, h5, h6, h7⟩, h8⟩ := h1 i _ h
  have hm : l ∈ fp i := by rw [h4]; simp
  have hl := h8 l hm
  have hB : B l = none := (E.outs l hl.1).resolve_left hl.2
  have hv : vs = [V.int x, V.int c, V.int n] := dpAll_ints (ns := [x, c, n]) h7
  subst hv
  have hi : i < Γ.length := by
    rcases Nat.lt_or_ge i Γ.length with z | z
    · exact z
    · rw [List.getElem?_eq_none z] at h; cases h
  refine k l B (fun a => O0 a ∨ a = l) O σ H ⟨by simp [E.len], fun a o h q => E.base a o (fun z => h z.up) q, fun s e => ?_, fun a ha => ?_, E.live, fun a ha => (E.outs a ha).imp_left .inl, fun j d q => ?_, fp, fun j S q => ?_, fun j m S S' hjm q q' => ?_⟩ D ?_
  · have hlP : l ≠ Tb.P := fun z => hl.2 (by rw [z]; exact (E.src Tb.P (.inr rfl)).2)
    rcases e with e | e
    · cases e
      exact ⟨⟨fun _ => ⟨x, c, n, h6⟩, fun z => absurd z hlP⟩, .inr rfl⟩
    · have q := E.src s (.inr e)
      exact ⟨⟨fun z => by cases z; exact absurd e hlP, fun z => q.1.tab z⟩, .inl q.2⟩
  · rcases ha with ha | rfl
    · exact E.sub a ha
    · exact hl.1
  · by_cases e : i = j
    · subst e
      rw [List.getElem?_set_self hi] at q
      cases q
      exact ⟨v, h3, h5⟩
    · rw [List.getElem?_set_ne e] at q
      exact E.val j d q
  · by_cases e : i = j
    · subst e
      rw [List.getElem?_set_self hi] at q
      cases q
    · rw [List.getElem?_set_ne e] at q
      obtain ⟨q1, q2⟩ := h1 j S q
      refine ⟨q1, fun a ha => ⟨(q2 a ha).1, fun z => ?_⟩⟩
      rcases z with z | rfl
      · exact (q2 a ha).2 z
      · exact h2 i j _ _ e h q a hm ha
  · by_cases e : i = j
    · subst e
      rw [List.getElem?_set_self hi] at q
      cases q
    by_cases e' : i = m
    · subst e'
      rw [List.getElem?_set_self hi] at q'
      cases q'
    rw [List.getElem?_set_ne e] at q
    rw [List.getElem?_set_ne e'] at q'
    exact h2 j m S S' hjm q q'
  · have back : ∀ Γ' σ' H' O', Sta (some l) B (fun a => O0 a ∨ a = l) O' Γ' σ' H' → Sta none B O0 O' Γ' σ' H' := fun Γ' σ' H' O' E' => by
      refine ⟨E'.len, fun a o h q => E'.base a o (fun e => e.elim (fun e => by cases e; rw [hB] at q; cases q) fun e => h (.inr e)) q, fun s e => ⟨(E'.src s e.up).1.non, (E.src s e).2⟩, fun a ha => E'.sub a (.inl ha), E'.live, fun a ha => ?_, E'.val, ?_⟩
      · rcases E'.outs a ha with (z | rfl) | z
        · exact .inl z
        · exact .inr hB
        · exact .inr z
      · obtain ⟨fp', g1, g2⟩ := E'.own
        exact ⟨fp', fun j S q => ⟨(g1 j S q).1, fun a ha => ⟨((g1 j S q).2 a ha).1, fun z => ((g1 j S q).2 a ha).2 (.inl z)⟩⟩, g2⟩
    exact ⟨fun Γ' σ' H' O' hP hS => pk.nx Γ' σ' H' O' hP (back _ _ _ _ hS), fun d v H' hd hb hs hh => pk.rt d v H' hd (fun a o h q => hb a o (fun e => e.elim (fun e => by cases e; rw [hB] at q; cases q) fun e => h (.inr e)) q) (fun s e => (hs s e.up).non) (d.mono (wo_same fun a o z1 z2 => ⟨fun z => z1 (.inl z), z2⟩) hh),
      fun Γ' σ' H' O' hP hS => pk.bk Γ' σ' H' O' hP (back _ _ _ _ hS), fun Γ' σ' H' O' hP hS => pk.ct Γ' σ' H' O' hP (back _ _ _ _ hS)⟩
end TPE
end
section
set_option maxHeartbeats 400000
namespace TPE
open PySem PySem.Spec PyProof.Rows L2 TPI TPZ RT
section
variable {K : PySem.W.Frag} {Γ : List Slt} {s : Addr} {i : Nat}
abbrev intP (K : PySem.W.Frag) : Pd := exP fun n : Int => dP K (.int n)
/-- a number of the source is read -/
theorem ev_src [Tb] (h : Γ[i]? = some (.val (cP (.ref s)))) (k : Nat) (hk : k < 3) : Ev (some s) (tOp (rIx K) (tVar i) (tC (.int k))) Γ (intP K) := fun B O0 O σ H E Q q => by
  obtain ⟨v, h1, h2⟩ := E.val i _ h
  have h2 : v = .ref s := h2
  subst h2
  obtain ⟨x, c, n, hs⟩ := (E.src s (.inl rfl)).1.src rfl
  have : ∃ m : Int, atI [V.int x, V.int c, V.int n] (k : Int) = some (.int m) := by
    match k, hk with
    | 0, _ => exact ⟨x, rfl⟩
    | 1, _ => exact ⟨c, rfl⟩
    | 2, _ => exact ⟨n, rfl⟩
  obtain ⟨m, hm⟩ := this
  exact ⟨_, h1, .inl ⟨s, _, (k : Int), _, rfl, rfl, SqL.of hs, hm, q _ O H E.refl ⟨m, .int m⟩⟩⟩
/-- a number of the source is written -/
theorem ds_srcst [Tb] {te : TE} {P : Po} (he : Ev (some s) te Γ (intP K)) (h : Γ[i]? = some (.val (cP (.ref s)))) (k : Nat) (hk : k < 3) (hn : P.nx Γ) : Ds (some s) (tAsg te (gSub (tVar i) (tC (.int k)) rSetL)) Γ P := fun B O0 O σ H E D p => by
  refine he B O0 O σ H E _ fun v O1 H1 s1 hv => ?_
  obtain ⟨m, hm⟩ := hv
  have hm : Dp K (wo H1 O1) v (.int m) := hm
  cases hm
  have E1 := E.step s1
  obtain ⟨v0, h1, h2⟩ := E1.val i _ h
  have h2 : v0 = .ref s := h2
  subst h2
  obtain ⟨x, c, n, hs⟩ := (E1.src s (.inl rfl)).1.src rfl
  have r : Rl (some s) H1 (upd H1 s (.lst ([V.int x, V.int c, V.int n].set k (.int m)))) := by
    refine ⟨fun a o ha q => ?_, fun s' e h' => ⟨fun e2 => ?_, fun e2 => ?_⟩⟩
    · rw [upd_ne (fun e => ha (by rw [e]; exact .inl rfl))]; exact q
    · cases e2
      match k, hk with
      | 0, _ => exact ⟨m, c, n, upd_same⟩
      | 1, _ => exact ⟨x, m, n, upd_same⟩
      | 2, _ => exact ⟨x, c, m, upd_same⟩
    · exact (h'.tab e2).upd hs (fun _ => (nomatch ·)) (fun _ => (nomatch ·))
  have hx : ixN [V.int x, V.int c, V.int n].length (k : Int) = some k := by
    match k, hk with
    | 0, _ => rfl
    | 1, _ => rfl
    | 2, _ => rfl
  exact ⟨_, h1, s, _, (k : Int), k, rfl, rfl, hs, hx, p.nx _ _ _ O1 hn (E1.step (.of_rl E1 r))⟩
end
end TPE
end
section
set_option maxHeartbeats 400000
namespace TPE
open PySem PySem.Spec PyProof.Rows L2 TPI TPZ RT
local macro_rules | `(tactic| walk_at "go") => `(tactic| (try dsimp only [cxK, cxKB, cxK2]); (try dsimp [Gam]); (try simp only [List.map_cons, List.map_nil, List.cons_append, List.nil_append]))
local macro_rules | `(tactic| walk_at "ev") => `(tactic| first
  | ((with_reducible apply ev_var); exact rfl)
  | with_reducible exact ev_int
  | with_reducible exact ev_str
  | with_reducible exact ev_bl
  | with_reducible exact ev_non
  | with_reducible exact ev_c
  | ((with_reducible apply el_i) <;> walk_at "ev")
  | ((with_reducible apply el_b) <;> walk_at "ev")
  | ((with_reducible apply el_eqI); (walk_at "ev"); (walk_at "ev"))
  | ((with_reducible apply el_neI); (walk_at "ev"); (walk_at "ev"))
  | ((with_reducible apply el_eqS); (walk_at "ev"); (walk_at "ev"))
  | ((with_reducible apply el_neS); (walk_at "ev"); (walk_at "ev"))
  | ((with_reducible apply ev_notV) <;> walk_at "ev")
  | ((with_reducible apply el_isi); (walk_at "ev"); exact rfl)
  | ((with_reducible apply el_len) <;> walk_at "ej")
  | (((with_reducible apply ev_aT); (walk_at "ev")))
  | (((with_reducible apply ev_aL); (walk_at "ev")))
  | (((with_reducible apply ev_aP); (walk_at "ev")))
  | (((with_reducible apply ev_pl); (walk_at "ev"))))
local macro_rules | `(tactic| walk_at "ej") => `(tactic| first
  | ((with_reducible apply ev_own); exact rfl)
  | ((with_reducible apply EvJ.q_s); walk_at "ev")
  | ((with_reducible apply EvJ.q_l); walk_at "ev")
  | ((with_reducible apply EvJ.q_t); walk_at "ev")
  | ((with_reducible apply evj); walk_at "ev"))
local macro_rules | `(tactic| walk_at "ea") => `(tactic| first
  | with_reducible exact eva_nil
  | ((with_reducible apply eva_cons); (walk_at "ev"); (walk_at "ea")))
local macro_rules | `(tactic| walk_at "et") => `(tactic| first
  | ((with_reducible apply evt_or); (walk_at "et"); (intro _; walk_at "et"))
  | ((with_reducible apply evt_and); (walk_at "et"); (intro _; walk_at "et"))
  | ((with_reducible apply evt_not); (walk_at "et"))
  | ((with_reducible apply evt_test); (walk_at "ev"))
  | ((with_reducible apply evt_tB); (walk_at "ev")))
local macro_rules | `(tactic| walk_at "le") => `(tactic| ((try simp only [List.set_cons_zero, List.set_cons_succ]); repeat' (first | exact Le.nil | (with_reducible apply Le.un) | (apply Le.eq rfl) | apply Le.eq)))
section
variable {P : Program} {w : World} {K : PySem.W.Frag} {mg : Str → Option Value} {base : Heap} {pA oA C : Addr}
section
variable {M : Option Addr} {Γ : List Slt} {ta tb t : TE} {i k : Int}
theorem el_mulI [Tb] (ha : Ev M ta Γ (dP K (.int i))) (hb : Ev M tb Γ (dP K (.int k))) (h : CMul i k) : Ev M (tOp (rI CMul fun i j => .int (i * j)) ta tb) Γ (dP K (.int (i * k))) := ev_op (evj ha) (evj hb) (oj_iC h)
theorem el_modI [Tb] (ha : Ev M ta Γ (dP K (.int i))) (hb : Ev M tb Γ (dP K (.int k))) (h : 0 < k) : Ev M (tOp (rI (fun _ j => 0 < j) fun i j => .int (i % j)) ta tb) Γ (dP K (.int (i % k))) := ev_op (evj ha) (evj hb) (oj_iC h)
theorem el_divW [Tb] (ha : Ev M ta Γ (dP K (.int i))) (hb : Ev M tb Γ (dP K (.int k))) (h : CDivW i k) : Ev M (tOp (rI CDivW fun i j => .int (i / j)) ta tb) Γ (dP K (.int (i / k))) := ev_op (evj ha) (evj hb) (oj_iC h)
end
def mixed (a k : Int) : Int :=
  let f := (a % 2147483646 + 1) * (k * 7919 + 104729) % 2147483647
  let g := (f + a / 2147483646 % 1000003 * (k + 31)) * 48271 % 2147483629
  let h := g * (g / 1013 + 69621 + k) % 2147483587
  h * (h / 2003 + 40692) % 2147483563
inductive gMixed (K : PySem.W.Frag) : Option Addr → List Pd → Pd → Prop
  | mk : gMixed K none [intP K, intP K] (intP K)
theorem sc_lmixed : FnScope ["_law_cell", "_law_k", "_law_figure"] ["_law_cell", "_law_k"] (defScope (top 87)) := ⟨rfl, rfl, rfl, by decide +kernel, rfl, by decide +kernel, by decide +kernel⟩
-- slots: 0 _law_cell, 1 _law_k, 2 _law_figure
theorem w_lmixed [Tb] (B : Bi K mg pA oA) (D : FunG K mg "_law_mixed" "_law_mixed" (top 87)) : Okd P w K mg base 1 "_law_mixed" ["_law_cell", "_law_k"] (gMixed K) := by
  obtain ⟨f, fd, F, m⟩ := D
  refine ⟨f, fd, F.ok sc_lmixed (fun vs H Q E h => SpF.len (fun M ds d hg => by cases hg; rfl) h) (fun cdv A outer s H vs Q E hr h => ⟨_, PSs.nox ((pss_cons (ps_set (i := 2) sc_lmixed.nd rfl (by first | exact Or.inl rfl | exact Or.inr rfl) (pe_op op_mod (pe_op op_mul (pe_op op_add (pe_op op_mod (pv 0) pe_int) pe_int) (pe_op op_add (pe_op op_mul (pv 1) pe_int) pe_int)) pe_int))
    (pss_cons (ps_set (i := 2) sc_lmixed.nd rfl (by first | exact Or.inl rfl | exact Or.inr rfl) (pe_op op_mod (pe_op op_mul (pe_op op_add (pv 2) (pe_op op_mul (pe_op op_mod (pe_op op_fdivW (pv 0) pe_int) pe_int) (pe_op op_add (pv 1) pe_int))) pe_int) pe_int))
    (pss_cons (ps_set (i := 2) sc_lmixed.nd rfl (by first | exact Or.inl rfl | exact Or.inr rfl) (pe_op op_mod (pe_op op_mul (pv 2) (pe_op op_add (pe_op op_add (pe_op op_fdivW (pv 2) pe_int) pe_int) (pv 1))) pe_int))
    (pss_one (ps_ret (pe_op op_mod (pe_op op_mul (pv 2) (pe_op op_add (pe_op op_fdivW (pv 2) pe_int) pe_int)) pe_int))))))), body_of (fun M ds d hg => ?_) h⟩), m, F.kp, F.bindsN (fun _ _ _ _ _ _ us hl => match us, hl with | [_, _], _ => rfl)⟩
  cases hg with
  | mk =>
  refine ⟨by simp, ?_⟩
  walk_at "go"
  refine ds_ex 0 rfl fun a => ?_
  refine ds_ex 1 rfl fun k => ?_
  simp only [List.set_cons_zero, List.set_cons_succ]
  refine dq_setV (d := dP K (.int ((a % 2147483646 + 1) * (k * 7919 + 104729) % 2147483647))) (el_modI (el_mulI (el_i (el_modI (by walk_at "ev") ev_int (by decide)) ev_int) (el_i (el_mulI (by walk_at "ev") ev_int (.inr (by decide))) ev_int) (.inl (by omega))) ev_int (by decide)) ?_
  simp only [List.set_cons_zero, List.set_cons_succ]
  generalize hf : (a % 2147483646 + 1) * (k * 7919 + 104729) % 2147483647 = f
  refine dq_setV (d := dP K (.int ((f + a / 2147483646 % 1000003 * (k + 31)) * 48271 % 2147483629))) (el_modI (el_mulI (el_i (by walk_at "ev") (el_mulI (el_modI (el_divW (by walk_at "ev") ev_int ⟨by decide, by decide +kernel⟩) ev_int (by decide)) (el_i (by walk_at "ev") ev_int) (.inl (by omega)))) ev_int (.inr (by decide))) ev_int (by decide)) ?_
  simp only [List.set_cons_zero, List.set_cons_succ]
  generalize hg : (f + a / 2147483646 % 1000003 * (k + 31)) * 48271 % 2147483629 = g
  have g0 : 0 ≤ g ∧ g < 2147483629 := by omega
  refine dq_setV (d := dP K (.int (g * (g / 1013 + 69621 + k) % 2147483587))) (el_modI (el_mulI (by walk_at "ev") (el_i (el_i (el_divW (by walk_at "ev") ev_int ⟨by decide, by decide +kernel⟩) ev_int) (by walk_at "ev")) (.inl (by omega))) ev_int (by decide)) ?_
  simp only [List.set_cons_zero, List.set_cons_succ]
  generalize hh : g * (g / 1013 + 69621 + k) % 2147483587 = h
  have h0 : 0 ≤ h ∧ h < 2147483587 := by omega
  have e : mixed a k = h * (h / 2003 + 40692) % 2147483563 := by
    unfold mixed
    simp only [hf, hg, hh]
  refine ds_retS (d := intP K) (d' := dP K (.int (mixed a k))) ?_ (fun F v hv => ⟨mixed a k, hv⟩)
  rw [e]
  exact (el_modI (el_mulI (by walk_at "ev") (el_i (el_divW (by walk_at "ev") ev_int ⟨by decide, by decide +kernel⟩) ev_int) (.inl (by omega))) ev_int (by decide))
end
end TPE
end
section
set_option maxHeartbeats 400000
namespace TPE
open PySem PySem.Spec PyProof.Rows L2 TPI TPZ RT
local macro_rules | `(tactic| walk_at "go") => `(tactic| (try dsimp only [cxK, cxKB, cxK2]); (try dsimp [Gam]); (try simp only [List.map_cons, List.map_nil, List.cons_append, List.nil_append]))
local macro_rules | `(tactic| walk_at "ev") => `(tactic| first
  | ((with_reducible apply ev_var); exact rfl)
  | with_reducible exact ev_int
  | with_reducible exact ev_str
  | with_reducible exact ev_bl
  | with_reducible exact ev_non
  | with_reducible exact ev_c
  | ((with_reducible apply el_i) <;> walk_at "ev")
  | ((with_reducible apply el_b) <;> walk_at "ev")
  | ((with_reducible apply el_eqI); (walk_at "ev"); (walk_at "ev"))
  | ((with_reducible apply el_neI); (walk_at "ev"); (walk_at "ev"))
  | ((with_reducible apply el_eqS); (walk_at "ev"); (walk_at "ev"))
  | ((with_reducible apply el_neS); (walk_at "ev"); (walk_at "ev"))
  | ((with_reducible apply ev_notV) <;> walk_at "ev")
  | ((with_reducible apply el_isi); (walk_at "ev"); exact rfl)
  | ((with_reducible apply el_len) <;> walk_at "ej")
  | (((with_reducible apply ev_aT); (walk_at "ev")))
  | (((with_reducible apply ev_aL); (walk_at "ev")))
  | (((with_reducible apply ev_aP); (walk_at "ev")))
  | (((with_reducible apply ev_pl); (walk_at "ev"))))
local macro_rules | `(tactic| walk_at "ej") => `(tactic| first
  | ((with_reducible apply ev_own); exact rfl)
  | ((with_reducible apply EvJ.q_s); walk_at "ev")
  | ((with_reducible apply EvJ.q_l); walk_at "ev")
  | ((with_reducible apply EvJ.q_t); walk_at "ev")
  | ((with_reducible apply evj); walk_at "ev"))
local macro_rules | `(tactic| walk_at "ea") => `(tactic| first
  | with_reducible exact eva_nil
  | ((with_reducible apply eva_cons); (walk_at "ev"); (walk_at "ea")))
local macro_rules | `(tactic| walk_at "et") => `(tactic| first
  | ((with_reducible apply evt_or); (walk_at "et"); (intro _; walk_at "et"))
  | ((with_reducible apply evt_and); (walk_at "et"); (intro _; walk_at "et"))
  | ((with_reducible apply evt_not); (walk_at "et"))
  | ((with_reducible apply evt_test); (walk_at "ev"))
  | ((with_reducible apply evt_tB); (walk_at "ev")))
local macro_rules | `(tactic| walk_at "le") => `(tactic| ((try simp only [List.set_cons_zero, List.set_cons_succ]); repeat' (first | exact Le.nil | (with_reducible apply Le.un) | (apply Le.eq rfl) | apply Le.eq)))
section
variable {P : Program} {w : World} {K : PySem.W.Frag} {mg : Str → Option Value} {base : Heap} {pA oA C : Addr}
section
variable {M : Option Addr} {Γ : List Slt} {ta tb t : TE} {r : R2} {d : Pd}
theorem ex_op [Tb] (ha : Ev M ta Γ (intP K)) (hb : Ev M tb Γ (intP K)) (h : ∀ x y : Int, OpJ M r (jD K (.int x)) (jD K (.int y)) (.val d)) : Ev M (tOp r ta tb) Γ d := fun B O0 O σ H E Q q =>
  ha B O0 O σ H E _ fun v O1 H1 s1 hv => hb B O0 O1 σ H1 (E.step s1) _ fun u O2 H2 s2 hu => by
    obtain ⟨x, hx⟩ := hv
    obtain ⟨y, hy⟩ := hu
    exact h x y B O0 O2 Γ σ H2 v u ((E.step s1).step s2) ((dP K (.int x)).mono s2.same hx) hy Q fun z O3 H3 s3 hz => q z O3 H3 ((s1.trans s2).trans s3) hz
theorem ex_op1 [Tb] {y : Int} (ha : Ev M ta Γ (intP K)) (hb : Ev M tb Γ (dP K (.int y))) (h : ∀ x : Int, OpJ M r (jD K (.int x)) (jD K (.int y)) (.val d)) : Ev M (tOp r ta tb) Γ d := fun B O0 O σ H E Q q =>
  ha B O0 O σ H E _ fun v O1 H1 s1 hv => hb B O0 O1 σ H1 (E.step s1) _ fun u O2 H2 s2 hu => by
    obtain ⟨x, hx⟩ := hv
    exact h x B O0 O2 Γ σ H2 v u ((E.step s1).step s2) ((dP K (.int x)).mono s2.same hx) hu Q fun z O3 H3 s3 hz => q z O3 H3 ((s1.trans s2).trans s3) hz
theorem oj_sub [Tb] {j1 j2 : VJ M} {d' : Pd} (h : OpJ M r j1 j2 (.val d)) (k : ∀ F v, d.hold F v → d'.hold F v) : OpJ M r j1 j2 (.val d') := fun B O0 O Γ σ H v w E hx hy Q q => h B O0 O Γ σ H v w E hx hy Q fun z O1 H1 s hz => q z O1 H1 s (k _ _ hz)
theorem evt_any [Tb] {b : Int → Bool} (h : Ev M t Γ (exP fun n : Int => dP K (.bool (b n)))) : EvT M (tTest t) Γ (fun _ => True) := fun B O0 O σ H E Q q => h B O0 O σ H E _ fun v O1 H1 s ⟨n, hv⟩ => by
  have hv : Dp K (wo H1 O1) v (.bool (b n)) := hv
  cases hv
  exact ⟨_, rfl, q _ O1 H1 s trivial⟩
theorem ev_ex [Tb] {n : Int} (h : Ev M t Γ (dP K (.int n))) : Ev M t Γ (intP K) := h.mono fun F v hv => ⟨n, hv⟩
end
inductive gTake (K : PySem.W.Frag) : Option Addr → List Pd → Pd → Prop
  | mk (s : Addr) (m : Nat) (h0 : 0 < m) (hz : m < 1000) : gTake K (some s) [cP (.ref s), dP K (nI m)] (exP fun r : Fin m => dP K (nI r.1))
theorem sc_ltake : FnScope ["_law_source_here", "_law_many", "_law_found"] ["_law_source_here", "_law_many"] (defScope (top 89)) := ⟨rfl, rfl, rfl, by decide +kernel, rfl, by decide +kernel, by decide +kernel⟩
-- slots: 0 _law_source_here, 1 _law_many, 2 _law_found
theorem w_ltake [Tb] (B : Bi K mg pA oA) (D : FunG K mg "_law_take" "_law_take" (top 89)) (O__law_mixed : Okd P w K mg base 1 "_law_mixed" ["_law_cell", "_law_k"] (gMixed K)) : Okd P w K mg base 2 "_law_take" ["_law_source_here", "_law_many"] (gTake K) := by
  obtain ⟨f, fd, F, m⟩ := D
  refine ⟨f, fd, F.ok sc_ltake (fun vs H Q E h => SpF.len (fun M ds d hg => by cases hg; rfl) h) (fun cdv A outer s H vs Q E hr h => ⟨_, PSs.nox ((pss_cons (ps_if (pt_cmpR op_ge (pe_ix ix_seq (pv 0) pe_int (fun _ _ => rfl)) (pe_op op_pow pe_int pe_int) (nomark _))
    (pss_cons (ps_set (i := 2) sc_ltake.nd rfl (by first | exact Or.inl rfl | exact Or.inr rfl) (pe_op op_mod (pe_ix ix_seq (pv 0) pe_int (fun _ _ => rfl)) (pv 1)))
    (pss_cons (ps_asg (pe_op op_fdivW (pe_ix ix_seq (pv 0) pe_int (fun _ _ => rfl)) (pv 1)) (pg_sub (pv 0) pe_int set_list))
    (pss_one (ps_ret (pv 2)))))
    pss_nil)
    (pss_cons (ps_asg (pe_op op_add (pe_ix ix_seq (pv 0) pe_int (fun _ _ => rfl)) pe_int) (pg_sub (pv 0) pe_int set_list))
    (pss_one (ps_ret (pe_op op_mod (pe_callO O__law_mixed (hr.mono (by decide)) rfl (pa_cons (pe_ix ix_seq (pv 0) pe_int (fun _ _ => rfl)) (pa_cons (pe_ix ix_seq (pv 0) pe_int (fun _ _ => rfl)) pa_nil))) (pv 1))))))), body_of (fun M ds d hg => ?_) h⟩), m, F.kp, F.bindsN (fun _ _ _ _ _ _ us hl => match us, hl with | [_, _], _ => rfl)⟩
  cases hg with
  | mk s m h0 hz =>
  refine ⟨by simp, ?_⟩
  walk_at "go"
  have md : ∀ x : Int, ∃ r : Fin m, x % (m : Nat) = (r.1 : Nat) := fun x => by
    have h1 := Int.emod_nonneg x (show ((m : Nat) : Int) ≠ 0 by omega)
    have h2 := Int.emod_lt_of_pos x (show (0 : Int) < (m : Nat) by omega)
    exact ⟨⟨(x % (m : Nat)).toNat, by omega⟩, by simp only; omega⟩
  have sb : ∀ (x : Int) F v, (dP K (.int (x % (m : Nat)))).hold F v → (exP fun r : Fin m => dP K (nI r.1)).hold F v := fun x F v hv => by
    obtain ⟨r, hr⟩ := md x
    rw [hr] at hv
    exact ⟨r, hv⟩
  refine ds_seq (ds_if (p := fun _ => True) (evt_any (K := K) (b := fun n => decide ((10 : Int) ^ 18 ≤ n)) (ex_op1 (K := K) (y := (10 : Int) ^ 18) (ev_src rfl 0 (by decide)) (ev_op (evj ev_int) (evj ev_int) (oj_iC (C := CPow) ⟨by decide, by decide, by decide⟩)) fun x => oj_sub oj_b fun F v hv => ⟨x, hv⟩)) (fun _ => ?_) (fun _ => ds_next ?_))
  · refine dq_setV (d := exP fun r : Fin m => dP K (nI r.1)) (ex_op1 (K := K) (y := (m : Nat)) (ev_src rfl 0 (by decide)) (by walk_at "ev") fun x => oj_sub (oj_iC (by omega)) (sb x)) ?_
    simp only [List.set_cons_zero, List.set_cons_succ]
    refine ds_seq (ds_srcst (K := K) (ex_op1 (K := K) (y := (m : Nat)) (ev_src rfl 0 (by decide)) (by walk_at "ev") fun x => oj_sub (oj_iC (C := CDivW) ⟨by omega, ?_⟩) fun F v hv => ⟨_, hv⟩) rfl 0 (by decide) ?_)
    · have h1 : ((m : Nat) : Int).natAbs < 2 ^ 10 := by omega
      have h2 := (Nat.log2_lt (n := ((m : Nat) : Int).natAbs) (k := 10) (by omega)).mpr h1
      omega
    exact ds_retR (ev_var rfl)
  · refine ds_seq (ds_srcst (K := K) (ex_op1 (K := K) (y := 1) (ev_src rfl 2 (by decide)) ev_int fun x => oj_sub oj_i fun F v hv => ⟨_, hv⟩) rfl 2 (by decide) ?_)
    exact ds_retR (ex_op1 (K := K) (y := (m : Nat)) (ev_call (eva_cons (ev_src rfl 1 (by decide)) (eva_cons (ev_src rfl 2 (by decide)) eva_nil)) gMixed.mk (.inl rfl)) (by walk_at "ev") fun x => oj_sub (oj_iC (by omega)) (sb x))
end
end TPE
end
section
set_option maxHeartbeats 400000
namespace TPE
open PySem PySem.Spec PyProof.Rows L2 TPI TPZ RT
local macro_rules | `(tactic| walk_at "go") => `(tactic| (try dsimp only [cxK, cxKB, cxK2]); (try dsimp [Gam]); (try simp only [List.map_cons, List.map_nil, List.cons_append, List.nil_append]))
local macro_rules | `(tactic| walk_at "ev") => `(tactic| first
  | ((with_reducible apply ev_var); exact rfl)
  | with_reducible exact ev_int
  | with_reducible exact ev_str
  | with_reducible exact ev_bl
  | with_reducible exact ev_non
  | with_reducible exact ev_c
  | ((with_reducible apply el_i) <;> walk_at "ev")
  | ((with_reducible apply el_b) <;> walk_at "ev")
  | ((with_reducible apply el_eqI); (walk_at "ev"); (walk_at "ev"))
  | ((with_reducible apply el_neI); (walk_at "ev"); (walk_at "ev"))
  | ((with_reducible apply el_eqS); (walk_at "ev"); (walk_at "ev"))
  | ((with_reducible apply el_neS); (walk_at "ev"); (walk_at "ev"))
  | ((with_reducible apply ev_notV) <;> walk_at "ev")
  | ((with_reducible apply el_isi); (walk_at "ev"); exact rfl)
  | ((with_reducible apply el_len) <;> walk_at "ej")
  | (((with_reducible apply ev_aT); (walk_at "ev")))
  | (((with_reducible apply ev_aL); (walk_at "ev")))
  | (((with_reducible apply ev_aP); (walk_at "ev")))
  | (((with_reducible apply ev_pl); (walk_at "ev"))))
local macro_rules | `(tactic| walk_at "ej") => `(tactic| first
  | ((with_reducible apply ev_own); exact rfl)
  | ((with_reducible apply EvJ.q_s); walk_at "ev")
  | ((with_reducible apply EvJ.q_l); walk_at "ev")
  | ((with_reducible apply EvJ.q_t); walk_at "ev")
  | ((with_reducible apply evj); walk_at "ev"))
local macro_rules | `(tactic| walk_at "ea") => `(tactic| first
  | with_reducible exact eva_nil
  | ((with_reducible apply eva_cons); (walk_at "ev"); (walk_at "ea")))
local macro_rules | `(tactic| walk_at "et") => `(tactic| first
  | ((with_reducible apply evt_or); (walk_at "et"); (intro _; walk_at "et"))
  | ((with_reducible apply evt_and); (walk_at "et"); (intro _; walk_at "et"))
  | ((with_reducible apply evt_not); (walk_at "et"))
  | ((with_reducible apply evt_test); (walk_at "ev"))
  | ((with_reducible apply evt_tB); (walk_at "ev")))
local macro_rules | `(tactic| walk_at "le") => `(tactic| ((try simp only [List.set_cons_zero, List.set_cons_succ]); repeat' (first | exact Le.nil | (with_reducible apply Le.un) | (apply Le.eq rfl) | apply Le.eq)))
section
variable {P : Program} {w : World} {K : PySem.W.Frag} {mg : Str → Option Value} {base : Heap} {pA oA C : Addr}
theorem el_ixF [Tb] {M : Option Addr} {Γ : List Slt} {ta tb : TE} {sk : Sk} {ds : List PyData} (ha : EvJ M ta Γ (jq K sk ds)) (hb : Ev M tb Γ (exP fun r : Fin ds.length => dP K (nI r.1))) : Ev M (tOp (rIx K) ta tb) Γ (exP fun r : Fin ds.length => dP K ds[r.1]) :=
  ev_op ha (evj hb) (fun B O0 O Γ σ H v w E hx hy Q q => by
    obtain ⟨r, hr⟩ := hy
    exact oj_sub (d' := exP fun r : Fin ds.length => dP K ds[r.1]) (oj_ix (i := (r.1 : Nat)) (atI_nat (List.getElem?_eq_getElem r.2))) (fun F v hv => ⟨r, hv⟩) B O0 O Γ σ H v w E hx hr Q q)
inductive gLOne (K : PySem.W.Frag) : Option Addr → List Pd → Pd → Prop
  | mk (s : Addr) (ds : List PyData) (h0 : 0 < ds.length) (hz : ds.length < 1000) : gLOne K (some s) [cP (.ref s), dP K (.list ds)] (exP fun r : Fin ds.length => dP K ds[r.1])
theorem sc_lone : FnScope ["_law_source_here", "_law_some"] ["_law_source_here", "_law_some"] (defScope (top 90)) := ⟨rfl, rfl, rfl, by decide +kernel, rfl, by decide +kernel, by decide +kernel⟩
-- slots: 0 _law_source_here, 1 _law_some
theorem w_lone [Tb] (B : Bi K mg pA oA) (D : FunG K mg "_law_one" "_law_one" (top 90)) (O__law_take : Okd P w K mg base 2 "_law_take" ["_law_source_here", "_law_many"] (gTake K)) : Okd P w K mg base 3 "_law_one" ["_law_source_here", "_law_some"] (gLOne K) := by
  obtain ⟨f, fd, F, m⟩ := D
  refine ⟨f, fd, F.ok sc_lone (fun vs H Q E h => SpF.len (fun M ds d hg => by cases hg; rfl) h) (fun cdv A outer s H vs Q E hr h => ⟨_, PSs.nox ((pss_one (ps_ret (pe_ix ix_seq (pv 1) (pe_callO O__law_take (hr.mono (by decide)) rfl (pa_cons (pv 0) (pa_cons (pe_callB call_len rfl B.len (by decide +kernel) (pa_cons (pv 1) pa_nil)) pa_nil))) (fun _ _ => rfl))))), body_of (fun M ds d hg => ?_) h⟩), m, F.kp, F.bindsN (fun _ _ _ _ _ _ us hl => match us, hl with | [_, _], _ => rfl)⟩
  cases hg with
  | mk s ds h0 hz =>
  refine ⟨by simp, ?_⟩
  walk_at "go"
  exact ds_retR (el_ixF (EvJ.q_l (ev_var rfl)) (ev_call (eva_cons (ev_var rfl) (eva_cons (el_len (sk := .l) (EvJ.q_l (ev_var rfl))) eva_nil)) (gTake.mk s ds.length h0 hz) (.inr rfl)))
end
end TPE
end
section
set_option maxHeartbeats 400000
namespace TPE
open PySem PySem.Spec PyProof.Rows L2 TPI TPZ RT
section
variable {M : Option Addr} {K : PySem.W.Frag} {Γ : List Slt} {te : TE} {P : Po} {i j : Nat} {rest found : List PyData}
theorem dpErase {F : Hp} : ∀ {vs : List V} {ds : List PyData} (k : Nat), DpAll K F vs ds → DpAll K F (vs.eraseIdx k) (ds.eraseIdx k)
  | [], _, k, h => by cases h; exact .nil
  | v :: vs, _, 0, h => by cases h with | cons h1 h2 => exact h2
  | v :: vs, _, k + 1, h => by cases h with | cons h1 h2 => exact .cons h1 (dpErase k h2)
/-- found.append(rest.pop(e)) -/
theorem ds_appop [Tb] (h : Γ[i]? = some (.own (ownL K found))) (h' : Γ[j]? = some (.own (ownL K rest))) (hij : j ≠ i) (he : Ev M te Γ (exP fun r : Fin rest.length => dP K (nI r.1))) (hz : found.length < sizeLine) (hz' : rest.length < 2 ^ 60)
    (k : ∀ r : Fin rest.length, P.nx ((Γ.set j (.own (ownL K (rest.eraseIdx r.1)))).set i (.own (ownL K (found ++ [rest[r.1]]))))) : Ds M (tDrop (tBM K "list" rAppend (tVar i) (tCons (tBM K "list" rPopAt (tVar j) (tCons te tNil)) tNil))) Γ P := fun B O0 O σ H E D p => by
  obtain ⟨l0, xs0, h1, h2, h3, _⟩ := E.mut h
  refine ⟨_, h1, .inl ⟨rfl, xs0, SqL.of h2⟩, ?_⟩
  obtain ⟨m0, ys0, g1, g2, g3, _⟩ := E.mut h'
  refine ⟨_, g1, .inl ⟨rfl, ys0, SqL.of g2⟩, he B O0 O σ H E _ fun v O1 H1 s hv => ?_⟩
  obtain ⟨r, hr⟩ := hv
  have hr : Dp K (wo H1 O1) v (nI r.1) := hr
  cases hr
  have E1 := E.step s
  obtain ⟨m, ys, q1, q2, q3, q4⟩ := E1.mut h'
  rw [g1] at q1
  cases q1
  have hlt : r.1 < ys.length := by rw [q3.length]; exact r.2
  obtain ⟨y, hy, hyd⟩ := atI_dp q3 (atI_nat (List.getElem?_eq_getElem r.2))
  have hix : ixN ys.length (r.1 : Int) = some r.1 := by unfold ixN; rw [if_pos (by omega), if_pos (by omega)]; rfl
  have hyg : ys[r.1]? = some y := by unfold atI at hy; rw [hix] at hy; exact hy
  have hlen := r.2
  refine ⟨m0, ys, (r.1 : Int), r.1, y, rfl, rfl, q2, by omega, by omega, (ixN_seq hix).1, hyg, ?_⟩
  have E2 := q4 (ys.eraseIdx r.1) (rest.eraseIdx r.1) (dpErase r.1 q3)
  have h'' : (Γ.set j (.own (ownL K (rest.eraseIdx r.1))))[i]? = some (.own (ownL K found)) := by rw [List.getElem?_set_ne hij]; exact h
  obtain ⟨l, xs, h4, h5, h6, h7⟩ := E2.mut h''
  rw [h1] at h4
  cases h4
  refine ⟨l0, xs, y, rfl, rfl, h5, by rw [h6.length]; exact hz, ?_⟩
  refine p.nx _ _ _ O1 (k r) (h7 _ _ (h6.append (.cons ?_ .nil)))
  have hO : O1 m0 := by
    obtain ⟨fp, a1, a2⟩ := E1.own
    obtain ⟨⟨v, b1, l, vs, b4, b5, b6, b7⟩, b8⟩ := a1 j _ h'
    rw [g1] at b1
    cases b1
    cases b5
    exact (b8 _ (by rw [b4]; simp)).1
  exact dp_same (wo_same fun a o z1 z2 => ⟨z1, by have ne : a ≠ m0 := (fun e => z1 (by rw [e]; exact hO)); rw [upd_ne ne]; exact z2⟩) _ _ hyd
end
end TPE
end
section
set_option maxHeartbeats 400000
namespace TPE
open PySem PySem.Spec PyProof.Rows L2 TPI TPZ RT
local macro_rules | `(tactic| walk_at "go") => `(tactic| (try dsimp only [cxK, cxKB, cxK2]); (try dsimp [Gam]); (try simp only [List.map_cons, List.map_nil, List.cons_append, List.nil_append]))
local macro_rules | `(tactic| walk_at "ev") => `(tactic| first
  | ((with_reducible apply ev_var); exact rfl)
  | with_reducible exact ev_int
  | with_reducible exact ev_str
  | with_reducible exact ev_bl
  | with_reducible exact ev_non
  | with_reducible exact ev_c
  | ((with_reducible apply el_i) <;> walk_at "ev")
  | ((with_reducible apply el_b) <;> walk_at "ev")
  | ((with_reducible apply el_eqI); (walk_at "ev"); (walk_at "ev"))
  | ((with_reducible apply el_neI); (walk_at "ev"); (walk_at "ev"))
  | ((with_reducible apply el_eqS); (walk_at "ev"); (walk_at "ev"))
  | ((with_reducible apply el_neS); (walk_at "ev"); (walk_at "ev"))
  | ((with_reducible apply ev_notV) <;> walk_at "ev")
  | ((with_reducible apply el_isi); (walk_at "ev"); exact rfl)
  | ((with_reducible apply el_len) <;> walk_at "ej")
  | (((with_reducible apply ev_aT); (walk_at "ev")))
  | (((with_reducible apply ev_aL); (walk_at "ev")))
  | (((with_reducible apply ev_aP); (walk_at "ev")))
  | (((with_reducible apply ev_pl); (walk_at "ev"))))
local macro_rules | `(tactic| walk_at "ej") => `(tactic| first
  | ((with_reducible apply ev_own); exact rfl)
  | ((with_reducible apply EvJ.q_s); walk_at "ev")
  | ((with_reducible apply EvJ.q_l); walk_at "ev")
  | ((with_reducible apply EvJ.q_t); walk_at "ev")
  | ((with_reducible apply evj); walk_at "ev"))
local macro_rules | `(tactic| walk_at "ea") => `(tactic| first
  | with_reducible exact eva_nil
  | ((with_reducible apply eva_cons); (walk_at "ev"); (walk_at "ea")))
local macro_rules | `(tactic| walk_at "et") => `(tactic| first
  | ((with_reducible apply evt_or); (walk_at "et"); (intro _; walk_at "et"))
  | ((with_reducible apply evt_and); (walk_at "et"); (intro _; walk_at "et"))
  | ((with_reducible apply evt_not); (walk_at "et"))
  | ((with_reducible apply evt_test); (walk_at "ev"))
  | ((with_reducible apply evt_tB); (walk_at "ev")))
local macro_rules | `(tactic| walk_at "le") => `(tactic| ((try simp only [List.set_cons_zero, List.set_cons_succ]); repeat' (first | exact Le.nil | (with_reducible apply Le.un) | (apply Le.eq rfl) | apply Le.eq)))
section
variable {P : Program} {w : World} {K : PySem.W.Frag} {mg : Str → Option Value} {base : Heap} {pA oA C : Addr}
theorem el_neL [Tb] {M : Option Addr} {Γ : List Slt} {ta tb : TE} {a b : List Nat} (ha : EvJ M ta Γ (jq K .l (LN a))) (hb : EvJ M tb Γ (jq K .l (LN b))) : Ev M (tOp (rNeD K) ta tb) Γ (dP K (.bool (!decide (a = b)))) :=
  ev_eq (ev_op ha hb (oj_neD toD_l toD_l (shaped_intsL (ZN a)) (shaped_intsL (ZN b)))) (by rw [LN_eq, LN_eq, eqv_intsL, ZN_eq])
theorem LN_erase (ns : List Nat) (k : Nat) : (LN ns).eraseIdx k = LN (ns.eraseIdx k) := by
  induction ns generalizing k with
  | nil => rfl
  | cons a ns ih => cases k with
    | zero => rfl
    | succ k => simp only [LN, List.map_cons, List.eraseIdx_cons_succ] at *; rw [ih]
theorem perm_erase : ∀ {l : List Nat} {k : Nat} (h : k < l.length), l.Perm (l[k] :: l.eraseIdx k)
  | a :: l, 0, _ => .refl _
  | a :: l, k + 1, h => by
    have := perm_erase (l := l) (k := k) (by simpa using h)
    exact (this.cons a).trans (.swap _ _ _)
inductive gMixUp (K : PySem.W.Frag) : Option Addr → List Pd → Pd → Prop
  | mk (s : Addr) (ns : List Nat) (hz : ns.length < 100) : gMixUp K (some s) [cP (.ref s), dP K (.list (LN ns))] (exP fun r : { l : List Nat // l.Perm ns } => dP K (.list (LN r.1)))
theorem sc_lmixup : FnScope ["_law_source_here", "_law_items", "_law_rest", "_law_found"] ["_law_source_here", "_law_items"] (defScope (top 91)) := ⟨rfl, rfl, rfl, by decide +kernel, rfl, by decide +kernel, by decide +kernel⟩
-- slots: 0 _law_source_here, 1 _law_items, 2 _law_rest, 3 _law_found
theorem w_lmixup [Tb] (B : Bi K mg pA oA) (D : FunG K mg "_law_mixed_up" "_law_mixed_up" (top 91)) (O__law_take : Okd P w K mg base 2 "_law_take" ["_law_source_here", "_law_many"] (gTake K)) : Okd P w K mg base 3 "_law_mixed_up" ["_law_source_here", "_law_items"] (gMixUp K) := by
  obtain ⟨f, fd, F, m⟩ := D
  refine ⟨f, fd, F.ok sc_lmixup (fun vs H Q E h => SpF.len (fun M ds d hg => by cases hg; rfl) h) (fun cdv A outer s H vs Q E hr h => ⟨_, PSs.nox ((pss_cons (ps_set (i := 2) sc_lmixup.nd rfl (by first | exact Or.inl rfl | exact Or.inr rfl) (pe_callTy call_list_of rfl B.list (by decide +kernel) (pa_cons (pv 1) pa_nil)))
    (pss_cons (ps_set (i := 3) sc_lmixup.nd rfl (by first | exact Or.inl rfl | exact Or.inr rfl) (pe_lst pa_nil))
    (pss_cons (ps_while PassesOwn.never (pt_cmpR (op_neD hr.units) (pv 2) (pe_lst pa_nil) (nomark _))
    (pss_one (ps_expr (pe_bm PySem.F.plainAttrs_list PySem.F.slot_list_append PySem.F.type_list_append mt_append (pv 3) (pa_cons (pe_bm PySem.F.plainAttrs_list PySem.F.slot_list_pop PySem.F.type_list_pop mt_popAt (pv 2) (pa_cons (pe_callO O__law_take (hr.mono (by decide)) rfl (pa_cons (pv 0) (pa_cons (pe_callB call_len rfl B.len (by decide +kernel) (pa_cons (pv 2) pa_nil)) pa_nil))) pa_nil)) pa_nil)))))
    (pss_one (ps_ret (pv 3))))))), body_of (fun M ds d hg => ?_) h⟩), m, F.kp, F.bindsN (fun _ _ _ _ _ _ us hl => match us, hl with | [_, _], _ => rfl)⟩
  cases hg with
  | mk s ns hz =>
  refine ⟨by simp, ?_⟩
  walk_at "go"
  refine dq_set (c := .own (ownL K (LN ns))) (el_list (sk := .l) (EvJ.q_l (ev_var rfl))) ?_
  simp only [List.set_cons_zero, List.set_cons_succ]
  refine dq_set (c := .own (ownL K (LN []))) (evc_lst (ds := []) eva_nil (Nat.zero_le _)) ?_
  simp only [List.set_cons_zero, List.set_cons_succ]
  refine dq_whileL (S := List Nat × List Nat) (fun q => (q.1 ++ q.2).Perm ns) (fun q => [.val (cP (.ref s)), .val (dP K (.list (LN ns))), .own (ownL K (LN q.1)), .own (ownL K (LN q.2))]) (fun q => q.1.length) (ns, []) ⟨by simp, by walk_at "le"⟩ fun q hq => ?_
  refine ⟨(· = !decide (q.1 = [])), evt_test (K := K) (el_neL (b := []) (ev_own rfl) (EvJ.q_l (ev_frz (evc_lst (ds := []) eva_nil (Nat.zero_le _))))), fun hp => ?_, fun hp => ?_⟩
  · have e : q.1 = [] := by simpa using hp
    refine ds_frz (K := K) (ds := LN q.2) 3 rfl ?_
    refine ds_retS (d := exP fun r : { l : List Nat // l.Perm ns } => dP K (.list (LN r.1))) (ev_var rfl) fun F v hv => ⟨⟨q.2, ?_⟩, hv⟩
    rw [e, List.nil_append] at hq
    exact hq
  · have hne : q.1 ≠ [] := by simpa using hp
    have hl := hq.length_eq
    rw [List.length_append] at hl
    have h0 : 0 < q.1.length := List.length_pos_iff.mpr hne
    have hL : (LN q.1).length = q.1.length := LN_length _
    refine ds_appop (K := K) (rest := LN q.1) (found := LN q.2) rfl rfl (by decide) (ev_call (eva_cons (ev_var rfl) (eva_cons (el_len (sk := .l) (ev_own rfl)) eva_nil)) (gTake.mk s (LN q.1).length (by rw [hL]; exact h0) (by rw [hL]; omega)) (.inr rfl)) (by rw [LN_length]; exact small1000 (by omega)) (by rw [hL]; omega) fun r => ?_
    have hr : r.1 < q.1.length := by rw [← hL]; exact r.2
    refine ⟨(q.1.eraseIdx r.1, q.2 ++ [q.1[r.1]]), ?_, ?_, ?_⟩
    · simp only [List.length_eraseIdx, if_pos hr]; omega
    · refine List.Perm.trans ?_ hq
      have e1 : q.1.Perm (q.1[r.1] :: q.1.eraseIdx r.1) := perm_erase hr
      refine List.Perm.trans ?_ (e1.symm.append_right q.2)
      simp only
      rw [← List.append_assoc]
      exact List.perm_append_comm
    · have e2 : (LN q.1)[r.1] = nI q.1[r.1] := by simp [LN]
      simp only [List.set_cons_zero, List.set_cons_succ, LN_erase, e2]
      rw [LN_append]
      walk_at "le"
end
end TPE
end
section
set_option maxHeartbeats 400000
namespace TPE
open PySem PySem.Spec PyProof.Rows L2 TPI TPZ RT
section
variable {M : Option Addr} {K : PySem.W.Frag} {Γ : List Slt} {te : TE} {ts : TS} {g : TG} {P : Po} {α : Type}
/-- a for over range(e), e some number -/
theorem ds_forE [Tb] {p : α → Int} (he : Ev M te Γ (exP fun r : α => dP K (.int (p r)))) (k : ∀ r, Ds M (tFor (iRng1 (tCons (tC (.int (p r))) tNil)) g ts) Γ P) : Ds M (tFor (iRng1 (tCons te tNil)) g ts) Γ P := fun B O0 O σ H E D pk =>
  he B O0 O σ H E _ fun v O1 H1 s hv => by
    obtain ⟨r, hr⟩ := hv
    have hr : Dp K (wo H1 O1) v (.int (p r)) := hr
    cases hr
    exact k r B O0 O1 σ H1 (E.step s) D pk
/-- an own slot of «some x» is opened -/
theorem ds_exO [Tb] {p : α → OP} (i : Nat) (h : Γ[i]? = some (.own (ownX p))) (k : ∀ x, Ds M ts (Γ.set i (.own (p x))) P) : Ds M ts Γ P := fun B O0 O σ H E D q => by
  obtain ⟨fp, h1, h2⟩ := E.own
  obtain ⟨⟨v, h3, x, h4⟩, h5⟩ := h1 i _ h
  have hi : i < Γ.length := by
    rcases Nat.lt_or_ge i Γ.length with z | z
    · exact z
    · rw [List.getElem?_eq_none z] at h; cases h
  have hh : ∀ {j : Nat} {S : OP}, (Γ.set i (.own (p x)))[j]? = some (.own S) → ∃ S0, Γ[j]? = some (.own S0) := fun {j S} z => by
    by_cases e : i = j
    · subst e; exact ⟨_, h⟩
    · rw [List.getElem?_set_ne e] at z; exact ⟨S, z⟩
  refine k x B O0 O σ H ⟨by simp [E.len], E.base, E.src, E.sub, E.live, E.outs, fun j d z => ?_, fp, fun j S z => ?_, fun j m S S' hjm z z' => ?_⟩ D q
  · by_cases e : i = j
    · subst e; rw [List.getElem?_set_self hi] at z; cases z
    · rw [List.getElem?_set_ne e] at z; exact E.val j d z
  · by_cases e : i = j
    · subst e; rw [List.getElem?_set_self hi] at z; cases z; exact ⟨⟨v, h3, h4⟩, h5⟩
    · rw [List.getElem?_set_ne e] at z; exact h1 j S z
  · obtain ⟨S0, z0⟩ := hh z
    obtain ⟨S1, z1⟩ := hh z'
    exact h2 j m S0 S1 hjm z0 z1
end
end TPE
end
section
set_option maxHeartbeats 400000
namespace TPE
open PySem PySem.Spec PyProof.Rows L2 TPI TPZ RT
local macro_rules | `(tactic| walk_at "go") => `(tactic| (try dsimp only [cxK, cxKB, cxK2]); (try dsimp [Gam]); (try simp only [List.map_cons, List.map_nil, List.cons_append, List.nil_append]))
local macro_rules | `(tactic| walk_at "ev") => `(tactic| first
  | ((with_reducible apply ev_var); exact rfl)
  | with_reducible exact ev_int
  | with_reducible exact ev_str
  | with_reducible exact ev_bl
  | with_reducible exact ev_non
  | with_reducible exact ev_c
  | ((with_reducible apply el_i) <;> walk_at "ev")
  | ((with_reducible apply el_b) <;> walk_at "ev")
  | ((with_reducible apply el_eqI); (walk_at "ev"); (walk_at "ev"))
  | ((with_reducible apply el_neI); (walk_at "ev"); (walk_at "ev"))
  | ((with_reducible apply el_eqS); (walk_at "ev"); (walk_at "ev"))
  | ((with_reducible apply el_neS); (walk_at "ev"); (walk_at "ev"))
  | ((with_reducible apply ev_notV) <;> walk_at "ev")
  | ((with_reducible apply el_isi); (walk_at "ev"); exact rfl)
  | ((with_reducible apply el_len) <;> walk_at "ej")
  | (((with_reducible apply ev_aT); (walk_at "ev")))
  | (((with_reducible apply ev_aL); (walk_at "ev")))
  | (((with_reducible apply ev_aP); (walk_at "ev")))
  | (((with_reducible apply ev_pl); (walk_at "ev"))))
local macro_rules | `(tactic| walk_at "ej") => `(tactic| first
  | ((with_reducible apply ev_own); exact rfl)
  | ((with_reducible apply EvJ.q_s); walk_at "ev")
  | ((with_reducible apply EvJ.q_l); walk_at "ev")
  | ((with_reducible apply EvJ.q_t); walk_at "ev")
  | ((with_reducible apply evj); walk_at "ev"))
local macro_rules | `(tactic| walk_at "ea") => `(tactic| first
  | with_reducible exact eva_nil
  | ((with_reducible apply eva_cons); (walk_at "ev"); (walk_at "ea")))
local macro_rules | `(tactic| walk_at "et") => `(tactic| first
  | ((with_reducible apply evt_or); (walk_at "et"); (intro _; walk_at "et"))
  | ((with_reducible apply evt_and); (walk_at "et"); (intro _; walk_at "et"))
  | ((with_reducible apply evt_not); (walk_at "et"))
  | ((with_reducible apply evt_test); (walk_at "ev"))
  | ((with_reducible apply evt_tB); (walk_at "ev")))
local macro_rules | `(tactic| walk_at "le") => `(tactic| ((try simp only [List.set_cons_zero, List.set_cons_succ]); repeat' (first | exact Le.nil | (with_reducible apply Le.un) | (apply Le.eq rfl) | apply Le.eq)))
section
variable {P : Program} {w : World} {K : PySem.W.Frag} {mg : Str → Option Value} {base : Heap} {pA oA C : Addr}
section
variable {M : Option Addr} {Γ : List Slt} {ta tb t : TE} {r : R2} {d : Pd} {α : Type} {p : α → Pd}
theorem ex_opR [Tb] {x : Pd} {c : Slt} (ha : Ev M ta Γ x) (hb : Ev M tb Γ (exP p)) (h : ∀ y : α, OpJ M r (jd x) (jd (p y)) c) : EvC M (tOp r ta tb) Γ c := evc_op (evj ha) (evj hb) fun B O0 O Γ σ H v w E hx hy Q q => by
  obtain ⟨y, hy⟩ := hy
  exact h y B O0 O Γ σ H v w E hx hy Q q
end
inductive gKinds (K : PySem.W.Frag) : Option Addr → List Pd → Pd → Prop
  | mk (s : Addr) : gKinds K (some s) [cP (.ref s), dP K (nI 6), dP K (nI 10)] (exP fun r : { c : List Nat // 1 ≤ c.length ∧ c.length ≤ 6 ∧ c.sum ≤ 10 } => plP K (LN r.1))
theorem sc_lkinds : FnScope ["_law_source_here", "_law_most", "_law_items_most", "_law_found", "_law_turn", "_law_at"] ["_law_source_here", "_law_most", "_law_items_most"] (defScope (top 92)) := ⟨rfl, rfl, rfl, by decide +kernel, rfl, by decide +kernel, by decide +kernel⟩
-- slots: 0 _law_source_here, 1 _law_most, 2 _law_items_most, 3 _law_found, 4 _law_turn, 5 _law_at
theorem w_lkinds [Tb] (B : Bi K mg pA oA) (D : FunG K mg "_law_kinds" "_law_kinds" (top 92)) (O__law_take : Okd P w K mg base 2 "_law_take" ["_law_source_here", "_law_many"] (gTake K)) : Okd P w K mg base 3 "_law_kinds" ["_law_source_here", "_law_most", "_law_items_most"] (gKinds K) := by
  obtain ⟨f, fd, F, m⟩ := D
  refine ⟨f, fd, F.ok sc_lkinds (fun vs H Q E h => SpF.len (fun M ds d hg => by cases hg; rfl) h) (fun cdv A outer s H vs Q E hr h => ⟨_, PSs.nox ((pss_cons (ps_set (i := 3) sc_lkinds.nd rfl (by first | exact Or.inl rfl | exact Or.inr rfl) (pe_op op_rep (pe_lst (pa_cons pe_int pa_nil)) (pe_op op_add pe_int (pe_callO O__law_take (hr.mono (by decide)) rfl (pa_cons (pv 0) (pa_cons (pv 1) pa_nil))))))
    (pss_cons (ps_for PassesOwn.never rfl (pi_range1 rfl B.range (pa_cons (pe_callO O__law_take (hr.mono (by decide)) rfl (pa_cons (pv 0) (pa_cons (pe_op op_add (pv 2) pe_int) pa_nil))) pa_nil)) (pg_name (i := 4) sc_lkinds.nd rfl (by first | exact Or.inl rfl | exact Or.inr rfl))
    (pss_cons (ps_set (i := 5) sc_lkinds.nd rfl (by first | exact Or.inl rfl | exact Or.inr rfl) (pe_callO O__law_take (hr.mono (by decide)) rfl (pa_cons (pv 0) (pa_cons (pe_callB call_len rfl B.len (by decide +kernel) (pa_cons (pv 3) pa_nil)) pa_nil))))
    (pss_one (ps_asg (pe_op op_add (pe_ix ix_seq (pv 3) (pv 5) (fun _ _ => rfl)) pe_int) (pg_sub (pv 3) (pv 5) set_list)))))
    (pss_one (ps_ret (pe_callTy call_tupX rfl B.tuple (by decide +kernel) (pa_cons (pv 3) pa_nil))))))), body_of (fun M ds d hg => ?_) h⟩), m, F.kp, F.bindsN (fun _ _ _ _ _ _ us hl => match us, hl with | [_, _, _], _ => rfl)⟩
  cases hg with
  | mk s =>
  refine ⟨by simp, ?_⟩
  walk_at "go"
  have take : ∀ (Γ : List Slt) (te : TE) (m : Nat), 0 < m → m < 1000 → Γ[0]? = some (.val (cP (.ref s))) → Ev (some s) te Γ (dP K (nI m)) → ∀ E', Ev (some s) (tCall (SpF (gTake K)) [] E' (tCons (tVar 0) (tCons te tNil))) Γ (exP fun r : Fin m => dP K (nI r.1)) := fun Γ te m h0 hz h he E' => ev_call (eva_cons (ev_var h) (eva_cons he eva_nil)) (gTake.mk s m h0 hz) (.inr rfl)
  refine dq_set (c := .own (ownX fun n : Fin 6 => ownL K (LN (List.replicate (n.1 + 1) 0)))) (evc_op (evj_o (evc_lst (K := K) (ds := [nI 0]) (eva_cons (ev_eq ev_int rfl) eva_nil) (by show 1 ≤ sizeLine; decide))) (evj (ex_opR (c := .val (exP fun n : Fin 6 => dP K (nI (n.1 + 1)))) (ev_int (K := K)) (take _ _ 6 (by decide) (by decide) rfl (ev_var rfl) _) fun y => ?_)) ?_) ?_
  · exact oj_sub oj_i fun F v hv => ⟨y, by
      have e : (1 : Int) + ((y.1 : Nat) : Int) = ((y.1 + 1 : Nat) : Int) := by omega
      rw [e] at hv
      exact hv⟩
  · intro B O0 O Γ σ H v w E hx hy Q q
    obtain ⟨n, hy⟩ := hy
    have hn := n.2
    refine oj_rep (k := ((n.1 + 1 : Nat) : Int)) (by omega) (by omega) (by show 1 * _ ≤ sizeLine; exact Nat.le_of_lt (small1000 (by omega))) B O0 O Γ σ H v w E hx hy Q fun z O1 H1 st hz => q z O1 H1 st ?_
    obtain ⟨fp, h1, h2⟩ := hz
    refine ⟨fp, ⟨n, ?_⟩, h2⟩
    have e : (List.replicate ((n.1 + 1 : Nat) : Int).toNat [nI 0]).flatten = LN (List.replicate (n.1 + 1) 0) := by rw [Int.toNat_natCast, LN_rep]
    rw [e] at h1
    exact h1
  simp only [List.set_cons_zero, List.set_cons_succ]
  refine ds_exO 3 rfl fun n => ?_
  simp only [List.set_cons_zero, List.set_cons_succ]
  have hn := n.2
  refine ds_seq (ds_forE (α := Fin 11) (p := fun r => ((r.1 : Nat) : Int)) (take _ _ 11 (by decide) (by decide) rfl (ev_eq (el_addN (a := 10) (b := 1) (by walk_at "ev") (ev_eq ev_int rfl)) rfl) _) fun m => ?_)
  have hm := m.2
  refine ds_for (evi_range1 (K := K) (k := ((m.1 : Nat) : Int)) ev_int (by omega) (by omega)) (fun i Γ' => ∃ c : List Nat, c.length = n.1 + 1 ∧ c.sum = i ∧ Le Γ' [.val (cP (.ref s)), .val (dP K (nI 6)), .val (dP K (nI 10)), .own (ownL K (LN c)), .un, .un]) ⟨List.replicate (n.1 + 1) 0, by simp, by simp, by walk_at "le"⟩ (fun i Γ' hi hI => ?_) (fun Γ' hI => ?_)
  · obtain ⟨c, hc1, hc2, hle⟩ := hI
    refine ⟨_, _, fun B O0 O σ H x E hx Q q => gt1 B O0 O σ H x (E.le hle) hx Q q, ?_⟩
    simp only [List.set_cons_zero, List.set_cons_succ]
    have hL : (LN c).length = c.length := LN_length _
    refine dq_setV (d := exP fun r : Fin (LN c).length => dP K (nI r.1)) (take _ _ (LN c).length (by omega) (by omega) rfl (el_len (sk := .l) (ev_own rfl)) _) ?_
    simp only [List.set_cons_zero, List.set_cons_succ]
    refine ds_ex 5 rfl fun r => ?_
    simp only [List.set_cons_zero, List.set_cons_succ]
    have hr : r.1 < c.length := by rw [← hL]; exact r.2
    refine ds_store (K := K) (ds := LN c) (ix := ((r.1 : Nat) : Int)) (k := r.1) (x := nI (c.getD r.1 0 + 1)) (el_addN (b := 1) (el_ixN (sk := .l) (by walk_at "ej") (by walk_at "ev") hr) (ev_eq ev_int rfl)) rfl (by walk_at "ev") (ixN_nat r.2) ⟨c.set r.1 (c.getD r.1 0 + 1), by simp [hc1], ?_, ?_⟩
    · have := set_sum c r.1 (c.getD r.1 0 + 1) hr
      omega
    · rw [LN_set]
      walk_at "le"
  · obtain ⟨c, hc1, hc2, hle⟩ := hI
    refine ds_le hle ?_
    rw [Int.toNat_natCast] at hc2
    exact ds_retS (d' := plP K (LN c)) (d := exP fun r : { c : List Nat // 1 ≤ c.length ∧ c.length ≤ 6 ∧ c.sum ≤ 10 } => plP K (LN r.1)) (el_tup (by walk_at "ej")) fun F v hv => ⟨⟨c, by omega, by omega, by omega⟩, hv⟩
end
end TPE
end
section
set_option maxHeartbeats 400000
namespace TPE
open PySem PySem.Spec PyProof.Rows L2 TPI TPZ RT
/-! ### words from parts -/
theorem join_SW : ∀ w : List Bool, Txt.join ("" : Str) (w.map fun p => SW [p]) = SW w := by
  intro w
  show Builtin.Str.glued ("" : Str) _ = _
  rw [StrLaws.glued_eq_join]
  induction w with
  | nil => rfl
  | cons p w ih =>
    cases w with
    | nil => rfl
    | cons q w =>
      show SW [p] ++ ("" : Str) ++ Str.join ("" : Str) ((q :: w).map fun p => SW [p]) = _
      rw [ih]
      have e : SW [p] ++ ("" : Str) = SW [p] := by
        show SW [p] ++ SW [] = _
        rw [SW_app]; rfl
      rw [e, SW_app]
      rfl
theorem sum_SW (w : List Bool) : (w.map ((fun x : Str => x.length) ∘ fun p => SW [p])).sum = w.length := by
  induction w with
  | nil => rfl
  | cons p w ih =>
    rw [List.map_cons, List.sum_cons, ih]
    show (SW [p]).length + w.length = w.length + 1
    rw [SW_length]
    exact Nat.add_comm _ _
theorem starts_SW {a b : List Bool} (h : Txt.startswith (SW a) (SW b) = true) : b.length ≤ a.length ∧ a.take b.length = b := by
  unfold Txt.startswith at h
  rw [Bool.and_eq_true, decide_eq_true_eq, SW_length, SW_length] at h
  obtain ⟨h1, h2⟩ := h
  refine ⟨by omega, ?_⟩
  rw [StrLaws.subAt_eq, SW_toList, SW_toList, List.drop_zero, SW_length] at h2
  have h3 := eq_of_beq h2
  rw [← List.map_take] at h3
  exact List.map_inj_right (fun x y => cd_inj) |>.mp h3
section
variable [Tb] {M : Option Addr} {K : PySem.W.Frag} {Γ Γ' : List Slt} {t ta tb te : TE} {tr : TA} {d : Pd} {ds : List Pd} {α : Type} {P : Po} {g : TG} {vs : List Nat}
/-- a list display, its items known by some x -/
theorem ev_lstX {p : α → List PyData} (h : EvA M tr Γ ds) (hz : ds.length ≤ sizeLine) (k : ∀ F vs, Hs F ds vs → ∃ x, DpAll K F vs (p x)) : Ev M (tLst tr) Γ (exP fun x => dP K (.list (p x))) := fun B O0 O σ H E Q q => h B O0 O σ H E _ fun vs O1 H1 s hvs => by
  obtain ⟨x, hd⟩ := k _ _ hvs
  refine ⟨by rw [← Paired.length hvs]; exact hz, fun a ha => ?_⟩
  obtain ⟨s2, sm, hw⟩ := pd_new E s (ob := .lst vs) ha
  exact q _ O1 _ s2 ⟨x, .lst (SqL.of hw) (dpAll_same sm _ _ hd)⟩
/-- a call: what its arguments are, and what it gives, known by the form -/
theorem ev_callX {gg : Option Addr → List Pd → Pd → Prop} {M' : Option Addr} {E' : XK} (ha : EvA M tr Γ ds) (hg : ∀ F vs, Hs F ds vs → ∃ ds' d', Hs F ds' vs ∧ gg M' ds' d' ∧ Sub d' d) (hM : M' = none ∨ M' = M) : Ev M (tCall (SpF gg) [] E' tr) Γ d := fun B O0 O σ H E Q q => by
  refine ha B O0 O σ H E _ fun vs O1 H1 s hvs => ?_
  obtain ⟨ds', d', h1, h2, h3⟩ := hg _ _ hvs
  rw [List.append_nil]
  have E1 := E.step s
  refine ⟨M', O1, ds', d', h2, h1, s.live, fun x e => ?_, fun v H' r hv => ?_⟩
  · rcases hM with rfl | rfl
    · exact ⟨(E1.src x e.up).1.non, (E1.srcO x e.up).1⟩
    · exact ⟨(E1.src x e).1, (E1.srcO x e).1⟩
  · have r' : Rl M H1 H' := by
      rcases hM with rfl | rfl
      · exact .up (fun s e => (E1.src s e).1) r
      · exact r
    exact q v O1 H' (s.trans (.of_rl E1 r')) (h3 _ _ hv)
/-- targets of what is known by some x -/
theorem ds_asgX {p : α → Pd} {ts : TS} (he : Ev M te Γ (exP p)) (k : ∀ x, ∃ vs Γ', Gt M g vs Γ (p x) Γ' ∧ Ds M ts Γ' P) : Ds M (tSeq (tAsg te g) ts) Γ P := fun B O0 O σ H E D pk =>
  he B O0 O σ H E _ fun v O1 H1 s hv => by
    obtain ⟨x, hv⟩ := hv
    obtain ⟨vs, Γ', h1, h2⟩ := k x
    exact h1 B O0 O1 σ H1 v (E.step s) hv _ fun σ' E' _ => h2 B O0 O1 σ' H1 E' D pk
/-- "".join(l), l a list of turns -/
theorem el_join {w : List Bool} (hw : w.length ≤ 1000) (h : EvJ M te Γ (jq K .l (w.map pD))) (ho : Ev M ta Γ (dP K (.str ""))) : Ev M (tM1 (fun x xs H Q => ∃ a p, ∃ ys : List Str, x = .str a ∧ xs = [.ref p] ∧ (SqL K H p (ys.map V.str) ∨ SqT K H p (ys.map V.str)) ∧
      (ys.map (·.length)).sum + ys.length * a.length ≤ 16777216 ∧ Q (.str (Txt.join a ys)) H) ta te) Γ (dP K (.str (SW w))) := fun B O0 O σ H E Q q => ho B O0 O σ H E _ fun v O1 H1 s hv => by
  have hv : Dp K (wo H1 O1) v (.str "") := hv
  cases hv
  refine ⟨⟨_, rfl⟩, h B O0 O1 σ H1 (E.step s) _ fun u O2 H2 s2 hu => ?_⟩
  obtain ⟨a, xs, rfl, h1, h2⟩ := hu
  have e : w.map pD = (w.map fun p => SW [p]).map PyData.str := by rw [List.map_map]; rfl
  rw [e] at h2
  have e2 := dpAll_strs h2
  subst e2
  refine ⟨"", a, w.map fun p => SW [p], rfl, rfl, .inl (Same.seq ws_sub h1), ?_, ?_⟩
  · have z : ("" : Str).length = 0 := rfl
    rw [z, Nat.mul_zero, Nat.add_zero, List.map_map]
    have := sum_SW w
    omega
  · rw [join_SW]
    exact q _ O2 H2 (s.trans s2) (.str _)
/-- .. of a list of which only the form is known -/
theorem el_joinX {p : α → List Bool} (hz : ∀ x, (p x).length ≤ 1000) (h : EvC M te Γ (.own (ownX fun x : α => ownL K ((p x).map pD)))) (ho : Ev M ta Γ (dP K (.str ""))) : Ev M (tM1 (fun x xs H Q => ∃ a p, ∃ ys : List Str, x = .str a ∧ xs = [.ref p] ∧ (SqL K H p (ys.map V.str) ∨ SqT K H p (ys.map V.str)) ∧
      (ys.map (·.length)).sum + ys.length * a.length ≤ 16777216 ∧ Q (.str (Txt.join a ys)) H) ta te) Γ (exP fun x : α => dP K (.str (SW (p x)))) := fun B O0 O σ H E Q q => ho B O0 O σ H E _ fun v O1 H1 s hv => by
  have hv : Dp K (wo H1 O1) v (.str "") := hv
  cases hv
  refine ⟨⟨_, rfl⟩, h B O0 O1 σ H1 (E.step s) _ fun u O2 H2 s2 hu => ?_⟩
  obtain ⟨fp, ⟨x, a, xs, rfl, rfl, h1, h2⟩, _⟩ := hu
  have e : (p x).map pD = ((p x).map fun p => SW [p]).map PyData.str := by rw [List.map_map]; rfl
  rw [e] at h2
  have e2 := dpAll_strs h2
  subst e2
  refine ⟨"", a, (p x).map fun p => SW [p], rfl, rfl, .inl (SqL.of h1), ?_, ?_⟩
  · have z : ("" : Str).length = 0 := rfl
    rw [z, Nat.mul_zero, Nat.add_zero, List.map_map]
    have := sum_SW (p x)
    have := hz x
    omega
  · rw [join_SW]
    exact q _ O2 H2 (s.trans s2) ⟨x, .str _⟩
end
end TPE
end
section
set_option maxHeartbeats 400000
namespace TPE
open PySem PySem.Spec PyProof.Rows L2 TPI TPZ RT
local macro_rules | `(tactic| walk_at "go") => `(tactic| (try dsimp only [cxK, cxKB, cxK2]); (try dsimp [Gam]); (try simp only [List.map_cons, List.map_nil, List.cons_append, List.nil_append]))
local macro_rules | `(tactic| walk_at "ev") => `(tactic| first
  | ((with_reducible apply ev_var); exact rfl)
  | with_reducible exact ev_int
  | with_reducible exact ev_str
  | with_reducible exact ev_bl
  | with_reducible exact ev_non
  | with_reducible exact ev_c
  | ((with_reducible apply el_i) <;> walk_at "ev")
  | ((with_reducible apply el_b) <;> walk_at "ev")
  | ((with_reducible apply el_eqI); (walk_at "ev"); (walk_at "ev"))
  | ((with_reducible apply el_neI); (walk_at "ev"); (walk_at "ev"))
  | ((with_reducible apply el_eqS); (walk_at "ev"); (walk_at "ev"))
  | ((with_reducible apply el_neS); (walk_at "ev"); (walk_at "ev"))
  | ((with_reducible apply ev_notV) <;> walk_at "ev")
  | ((with_reducible apply el_isi); (walk_at "ev"); exact rfl)
  | ((with_reducible apply el_len) <;> walk_at "ej")
  | (((with_reducible apply ev_aT); (walk_at "ev")))
  | (((with_reducible apply ev_aL); (walk_at "ev")))
  | (((with_reducible apply ev_aP); (walk_at "ev")))
  | (((with_reducible apply ev_pl); (walk_at "ev"))))
local macro_rules | `(tactic| walk_at "ej") => `(tactic| first
  | ((with_reducible apply ev_own); exact rfl)
  | ((with_reducible apply EvJ.q_s); walk_at "ev")
  | ((with_reducible apply EvJ.q_l); walk_at "ev")
  | ((with_reducible apply EvJ.q_t); walk_at "ev")
  | ((with_reducible apply evj); walk_at "ev"))
local macro_rules | `(tactic| walk_at "ea") => `(tactic| first
  | with_reducible exact eva_nil
  | ((with_reducible apply eva_cons); (walk_at "ev"); (walk_at "ea")))
local macro_rules | `(tactic| walk_at "et") => `(tactic| first
  | ((with_reducible apply evt_or); (walk_at "et"); (intro _; walk_at "et"))
  | ((with_reducible apply evt_and); (walk_at "et"); (intro _; walk_at "et"))
  | ((with_reducible apply evt_not); (walk_at "et"))
  | ((with_reducible apply evt_test); (walk_at "ev"))
  | ((with_reducible apply evt_tB); (walk_at "ev")))
local macro_rules | `(tactic| walk_at "le") => `(tactic| ((try simp only [List.set_cons_zero, List.set_cons_succ]); repeat' (first | exact Le.nil | (with_reducible apply Le.un) | (apply Le.eq rfl) | apply Le.eq)))
section
variable {P : Program} {w : World} {K : PySem.W.Frag} {mg : Str → Option Value} {base : Heap} {pA oA C : Addr}
theorem ev_take [Tb] (s : Addr) (Γ : List Slt) (te ts : TE) (m : Nat) (h0 : 0 < m) (hz : m < 1000) (h : Ev (some s) ts Γ (cP (.ref s))) (he : Ev (some s) te Γ (dP K (nI m))) (E' : XK) : Ev (some s) (tCall (SpF (gTake K)) [] E' (tCons ts (tCons te tNil))) Γ (exP fun r : Fin m => dP K (nI r.1)) := ev_call (eva_cons h (eva_cons he eva_nil)) (gTake.mk s m h0 hz) (.inr rfl)
inductive gRanks (K : PySem.W.Frag) : Option Addr → List Pd → Pd → Prop
  | mk (s : Addr) (m : Nat) (hz : m ≤ 60) : gRanks K (some s) [cP (.ref s), dP K (nI m)] (exP fun r : { r : List Nat × List Nat // RkOk m r.1 ∧ RkOk m r.2 } => lsP K r.1.1 r.1.2)
theorem rk_of {m : Nat} {r : List Nat} (h : r.Perm (List.range m)) (hz : m ≤ 60) : RkOk m r := ⟨h, hz⟩
abbrev PermP (K : PySem.W.Frag) (m : Nat) : Pd := exP fun r : { l : List Nat // l.Perm (List.range m) } => dP K (.list (LN r.1))
theorem ev_mix [Tb] (s : Addr) (Γ : List Slt) (te ts : TE) (m : Nat) (hz : m ≤ 60) (h : Ev (some s) ts Γ (cP (.ref s))) (he : Ev (some s) te Γ (dP K (nI m))) (E' : XK) : Ev (some s) (tCall (SpF (gMixUp K)) [] E' (tCons ts (tCons (tLstRg (tRg1 te)) tNil))) Γ (PermP K m) := ev_call (eva_cons h (eva_cons (ev_frz (el_rng he (by omega))) eva_nil)) (gMixUp.mk s (List.range m) (by simp; omega)) (.inr rfl)
theorem sc_lranks : FnScope ["_law_source_here", "_law_many", "_law_mine", "_law_yours"] ["_law_source_here", "_law_many"] (defScope (top 93)) := ⟨rfl, rfl, rfl, by decide +kernel, rfl, by decide +kernel, by decide +kernel⟩
-- slots: 0 _law_source_here, 1 _law_many, 2 _law_mine, 3 _law_yours
theorem w_lranks [Tb] (B : Bi K mg pA oA) (D : FunG K mg "_law_rankings" "_law_rankings" (top 93)) (O__law_mixed_up : Okd P w K mg base 3 "_law_mixed_up" ["_law_source_here", "_law_items"] (gMixUp K)) (O__law_one : Okd P w K mg base 3 "_law_one" ["_law_source_here", "_law_some"] (gLOne K)) : Okd P w K mg base 4 "_law_rankings" ["_law_source_here", "_law_many"] (gRanks K) := by
  obtain ⟨f, fd, F, m⟩ := D
  refine ⟨f, fd, F.ok sc_lranks (fun vs H Q E h => SpF.len (fun M ds d hg => by cases hg; rfl) h) (fun cdv A outer s H vs Q E hr h => ⟨_, PSs.nox ((pss_cons (ps_set (i := 2) sc_lranks.nd rfl (by first | exact Or.inl rfl | exact Or.inr rfl) (pe_callO O__law_mixed_up (hr.mono (by decide)) rfl (pa_cons (pv 0) (pa_cons (pe_listRg rfl rfl B.list (prg_1 rfl B.range (pv 1))) pa_nil))))
    (pss_cons (ps_set (i := 3) sc_lranks.nd rfl (by first | exact Or.inl rfl | exact Or.inr rfl) (pe_callO O__law_one (hr.mono (by decide)) rfl (pa_cons (pv 0) (pa_cons (pe_lst (pa_cons (pe_callO O__law_mixed_up (hr.mono (by decide)) rfl (pa_cons (pv 0) (pa_cons (pe_listRg rfl rfl B.list (prg_1 rfl B.range (pv 1))) pa_nil))) (pa_cons (pv 2) (pa_cons (pe_revL (pv 2)) pa_nil)))) pa_nil))))
    (pss_one (ps_ret (pe_tup (pa_cons (pe_callTy call_tupX rfl B.tuple (by decide +kernel) (pa_cons (pv 2) pa_nil)) (pa_cons (pe_callTy call_tupX rfl B.tuple (by decide +kernel) (pa_cons (pv 3) pa_nil)) pa_nil)))))))), body_of (fun M ds d hg => ?_) h⟩), m, F.kp, F.bindsN (fun _ _ _ _ _ _ us hl => match us, hl with | [_, _], _ => rfl)⟩
  cases hg with
  | mk s m hz =>
  refine ⟨by simp, ?_⟩
  walk_at "go"
  refine dq_setV (d := PermP K m) (ev_mix s _ _ _ m hz (ev_var rfl) (ev_var rfl) _) ?_
  simp only [List.set_cons_zero, List.set_cons_succ]
  refine ds_ex 2 rfl fun a => ?_
  obtain ⟨a, ha⟩ := a
  simp only [List.set_cons_zero, List.set_cons_succ]
  refine dq_setV (d := PermP K m) (ev_callX (ds := [cP (.ref s), exP fun b : { l : List Nat // l.Perm (List.range m) } => dP K (.list [.list (LN b.1), .list (LN a), .list (LN a.reverse)])]) (eva_cons (ev_var rfl) (eva_cons (ev_lstX (K := K) (ds := [PermP K m, dP K (.list (LN a)), dP K (.list (LN a.reverse))]) (eva_cons (ev_mix s _ _ _ m hz (ev_var rfl) (ev_var rfl) _) (eva_cons (ev_var rfl) (eva_cons (ev_frz (evc_eqL (evc_revL (K := K) (EvJ.q_l (ev_var rfl))) (LN_rev _))) eva_nil))) (by show 3 ≤ sizeLine; decide) fun F vs hs => ?_) eva_nil)) (fun F vs hs => ?_) (.inr rfl)) ?_
  · cases hs with
    | cons h1 t =>
      obtain ⟨b, h1⟩ := h1
      cases t with
      | cons h2 t =>
        cases t with
        | cons h3 t =>
          cases t
          exact ⟨b, .cons h1 (.cons h2 (.cons h3 .nil))⟩
  · cases hs with
    | cons h1 t =>
      cases t with
      | cons h2 t =>
        cases t
        obtain ⟨b, h2⟩ := h2
        refine ⟨[cP (.ref s), dP K (.list [.list (LN b.1), .list (LN a), .list (LN a.reverse)])], _, .cons h1 (.cons h2 .nil), gLOne.mk s [.list (LN b.1), .list (LN a), .list (LN a.reverse)] (by simp) (by simp), fun F v hv => ?_⟩
        obtain ⟨r, hv⟩ := hv
        match r, hv with
        | ⟨0, _⟩, hv => exact ⟨b, hv⟩
        | ⟨1, _⟩, hv => exact ⟨⟨a, ha⟩, hv⟩
        | ⟨2, _⟩, hv => exact ⟨⟨a.reverse, (List.reverse_perm a).trans ha⟩, hv⟩
  simp only [List.set_cons_zero, List.set_cons_succ]
  refine ds_ex 3 rfl fun b => ?_
  obtain ⟨b, hb⟩ := b
  simp only [List.set_cons_zero, List.set_cons_succ]
  exact ds_retS (d' := lsP K a b) (d := exP fun r : { r : List Nat × List Nat // RkOk m r.1 ∧ RkOk m r.2 } => lsP K r.1.1 r.1.2) (ev_tup (ps := [plP K (LN a), plP K (LN b)]) (eva_cons (el_tup (EvJ.q_l (ev_var rfl))) (eva_cons (el_tup (EvJ.q_l (ev_var rfl))) eva_nil)) (by show 2 ≤ sizeLine; decide)) fun F v hv => ⟨⟨(a, b), rk_of ha hz, rk_of hb hz⟩, hv⟩
abbrev wordP (K : PySem.W.Frag) (m : Nat) : Pd := exP fun w : { w : List Bool // w.length = m } => dP K (.str (SW w.1))
inductive gWord (K : PySem.W.Frag) : Option Addr → List Pd → Pd → Prop
  | mk (s : Addr) (m : Nat) (hz : m ≤ 100) : gWord K (some s) [cP (.ref s), dP K (nI m)] (wordP K m)
theorem SW_rep2 (p q : Bool) (a b : Nat) : repS (SW [p]) a ++ repS (SW [q]) b = SW (List.replicate a p ++ List.replicate b q) := by rw [SW_rep, SW_rep, SW_app]
theorem sc_lword : FnScope ["_law_source_here", "_law_many", "_law_kind", "_law_cut", "_law_at"] ["_law_source_here", "_law_many"] (defScope (top 94)) := ⟨rfl, rfl, rfl, by decide +kernel, rfl, by decide +kernel, by decide +kernel⟩
-- slots: 0 _law_source_here*, 1 _law_many, 2 _law_kind, 3 _law_cut, 4 _law_at
theorem w_lword [Tb] (B : Bi K mg pA oA) (D : FunG K mg "_law_word" "_law_word" (top 94)) (O__law_take : Okd P w K mg base 2 "_law_take" ["_law_source_here", "_law_many"] (gTake K)) (O__law_one : Okd P w K mg base 3 "_law_one" ["_law_source_here", "_law_some"] (gLOne K)) : Okd P w K mg base 4 "_law_word" ["_law_source_here", "_law_many"] (gWord K) := by
  obtain ⟨f, fd, F, m⟩ := D
  refine ⟨f, fd, F.ok sc_lword (fun vs H Q E h => SpF.len (fun M ds d hg => by cases hg; rfl) h) (fun cdv A outer s H vs Q E hr h => ⟨_, PSs.nox ((pss_cons (ps_set (i := 2) sc_lword.nd rfl (by first | exact Or.inl rfl | exact Or.inr rfl) (pe_callO O__law_take (hr.mono (by decide)) rfl (pa_cons (pv 0) (pa_cons pe_int pa_nil))))
    (pss_cons (ps_if (pt_cmpR op_eq (pv 2) pe_int (nomark _))
    (pss_one (ps_ret (pe_join pe_str (pe_lc (own := [("_law_at", 4)]) (te := (tOp (rIx K) _ _)) rfl sc_lword.nd (pi_range1 rfl B.range (pa_cons (pv 1) pa_nil)) (blkOk_by (own := [("_law_at", 4)]) (N := ["_law_source_here", "_law_many", "_law_kind", "_law_cut", "_law_at"]) (sc := defScope (top 94)) (by decide +kernel)) (fun _ _ _ _ _ => (pg_name (i := 4) sc_lword.nd rfl (by first | exact Or.inl rfl | exact Or.inr rfl))) (fun _ _ _ _ _ => pts_nil) (fun _ _ _ _ _ => (pe_ix ix_seq (pe_lst (pa_cons pe_str (pa_cons pe_str pa_nil))) (pe_op op_mod (pv 4) pe_int) (fun _ _ => rfl)))))))
    pss_nil)
    (pss_cons (ps_if (pt_cmpR op_eq (pv 2) pe_int (nomark _))
    (pss_cons (ps_set (i := 3) sc_lword.nd rfl (by first | exact Or.inl rfl | exact Or.inr rfl) (pe_callO O__law_take (hr.mono (by decide)) rfl (pa_cons (pv 0) (pa_cons (pe_op op_add (pv 1) pe_int) pa_nil))))
    (pss_one (ps_ret (pe_callO O__law_one (hr.mono (by decide)) rfl (pa_cons (pv 0) (pa_cons (pe_lst (pa_cons (pe_op op_add_str (pe_op op_mulS pe_str (pv 3)) (pe_op op_mulS pe_str (pe_op op_sub (pv 1) (pv 3)))) (pa_cons (pe_op op_add_str (pe_op op_mulS pe_str (pv 3)) (pe_op op_mulS pe_str (pe_op op_sub (pv 1) (pv 3)))) pa_nil))) pa_nil))))))
    pss_nil)
    (pss_one (ps_ret (pe_join pe_str (pe_lc (own := [("_law_at", 4)]) rfl sc_lword.nd (pi_range1 rfl B.range (pa_cons (pv 1) pa_nil)) (blkOk_by (own := [("_law_at", 4)]) (N := ["_law_source_here", "_law_many", "_law_kind", "_law_cut", "_law_at"]) (sc := defScope (top 94)) (by decide +kernel)) (fun _ _ _ _ _ => (pg_name (i := 4) sc_lword.nd rfl (by first | exact Or.inl rfl | exact Or.inr rfl))) (fun _ _ _ _ _ => pts_nil) (fun _ _ _ _ _ => (pe_callO O__law_one (hr.mono (by decide)) rfl (pa_cons (pv 0) (pa_cons (pe_lst (pa_cons pe_str (pa_cons pe_str pa_nil))) pa_nil)))))))))))), body_of (fun M ds d hg => ?_) h⟩), m, F.kp, F.bindsN (fun _ _ _ _ _ _ us hl => match us, hl with | [_, _], _ => rfl)⟩
  cases hg with
  | mk s m hz =>
  refine ⟨by simp, ?_⟩
  walk_at "go"
  refine dq_setV (d := exP fun r : Fin 4 => dP K (nI r.1)) (ev_take s _ _ _ 4 (by decide) (by decide) (ev_var rfl) (ev_eq ev_int rfl) _) ?_
  simp only [List.set_cons_zero, List.set_cons_succ]
  refine ds_ex 2 rfl fun k => ?_
  simp only [List.set_cons_zero, List.set_cons_succ]
  refine ds_seq (ds_ifB (b := decide (((k.1 : Nat) : Int) = 0)) (evt_test (K := K) (by walk_at "ev")) (fun _ => ?_) fun _ => ds_next ?_)
  · refine ds_retS (d' := dP K (.str (SW ((List.range m).map fun i => i % 2 == 0)))) (d := wordP K m) (el_join (by simp; omega) (EvJ.q_l (ev_frz (evc_eqL (evc_mapF (K := K) (evi_range1 (K := K) (k := ((m : Nat) : Int)) (by walk_at "ev") (by omega) (by omega)) (fun i => pD (i % 2 == 0)) (by simp; omega) fun i hi => ?_) ?_))) (by walk_at "ev")) fun F v hv => ⟨⟨(List.range m).map fun i => i % 2 == 0, by simp⟩, hv⟩
    · have hm2 : ((i : Nat) : Int) % 2 = ((i % 2 : Nat) : Int) := by omega
      refine ⟨_, gt1, el_ix (sk := .l) (ds := [pD true, pD false]) (i := ((i % 2 : Nat) : Int)) (EvJ.q_l (ev_frz (evc_lst (K := K) (ds := [pD true, pD false]) (eva_cons (ev_eq ev_str rfl) (eva_cons (ev_eq ev_str rfl) eva_nil)) (by show 2 ≤ sizeLine; decide)))) (ev_eq (el_modI (by walk_at "ev") ev_int (by decide)) (by rw [hm2])) ?_⟩
      rcases Nat.mod_two_eq_zero_or_one i with e | e <;> rw [e] <;> rfl
    · rw [Int.toNat_natCast, List.map_map]
      rfl
  refine ds_seq (ds_ifB (b := decide (((k.1 : Nat) : Int) = 1)) (evt_test (K := K) (by walk_at "ev")) (fun _ => ?_) fun _ => ds_next ?_)
  · refine dq_setV (d := exP fun r : Fin (m + 1) => dP K (nI r.1)) (ev_take s _ _ _ (m + 1) (by omega) (by omega) (ev_var rfl) (el_addN (b := 1) (by walk_at "ev") (ev_eq ev_int rfl)) _) ?_
    simp only [List.set_cons_zero, List.set_cons_succ]
    refine ds_ex 3 rfl fun c => ?_
    simp only [List.set_cons_zero, List.set_cons_succ]
    have hc := c.2
    have mulA : ∀ {Γ : List Slt} {te : TE} (n : Nat), n ≤ 1000 → Ev (some s) te Γ (dP K (nI n)) → ∀ p : Bool, ∀ {ts : TE}, Ev (some s) ts Γ (dP K (pD p)) → Ev (some s) (tOp rMulS1 ts te) Γ (dP K (.str (SW (List.replicate n p)))) := fun n hn h p _ hs => ev_eq (ev_op (evj hs) (evj h) (oj_mulS (by rw [SW_length]; rfl) hn)) (by rw [SW_rep])
    have cat : ∀ {Γ : List Slt} {t1 t2 : TE} (a b : List Bool), a.length + b.length ≤ 1000 → Ev (some s) t1 Γ (dP K (.str (SW a))) → Ev (some s) t2 Γ (dP K (.str (SW b))) → Ev (some s) (tOp (fun x y H Q => ∃ i j, x = .str i ∧ y = .str j ∧ i.length + j.length ≤ sizeLine ∧ Q (.str (i ++ j)) H) t1 t2) Γ (dP K (.str (SW (a ++ b)))) := fun a b hz h1 h2 => ev_eq (ev_op (evj h1) (evj h2) (oj_addS (by rw [SW_length, SW_length]; exact Nat.le_of_lt (small1000 hz)))) (by rw [SW_app])
    refine ds_retS (d' := exP fun r : Fin 2 => dP K ([PyData.str (SW (List.replicate c.1 true ++ List.replicate (m - c.1) false)), .str (SW (List.replicate c.1 false ++ List.replicate (m - c.1) true))][r.1])) (d := wordP K m) (ev_call (eva_cons (ev_var rfl) (eva_cons (ev_frz (evc_lst (K := K) (ds := [PyData.str (SW (List.replicate c.1 true ++ List.replicate (m - c.1) false)), .str (SW (List.replicate c.1 false ++ List.replicate (m - c.1) true))]) (eva_cons ?_ (eva_cons ?_ eva_nil)) (by show 2 ≤ sizeLine; decide))) eva_nil)) (gLOne.mk s [PyData.str (SW (List.replicate c.1 true ++ List.replicate (m - c.1) false)), .str (SW (List.replicate c.1 false ++ List.replicate (m - c.1) true))] (by simp) (by simp)) (.inr rfl)) fun F v hv => ?_
    · exact cat _ _ (by simp; omega) (mulA c.1 (by omega) (by walk_at "ev") true (ev_eq ev_str rfl)) (mulA (m - c.1) (by omega) (el_subN (by walk_at "ev") (by walk_at "ev") (by omega)) false (ev_eq ev_str rfl))
    · exact cat _ _ (by simp; omega) (mulA c.1 (by omega) (by walk_at "ev") false (ev_eq ev_str rfl)) (mulA (m - c.1) (by omega) (el_subN (by walk_at "ev") (by walk_at "ev") (by omega)) true (ev_eq ev_str rfl))
    · obtain ⟨r, hv⟩ := hv
      match r, hv with
      | ⟨0, _⟩, hv => exact ⟨⟨_, by simp; omega⟩, hv⟩
      | ⟨1, _⟩, hv => exact ⟨⟨_, by simp; omega⟩, hv⟩
  refine ds_retS (d' := wordP K m) (d := wordP K m) (el_joinX (p := fun x : { w : List Bool // w.length = m } => x.1) (fun x => by have := x.2; omega) ((evc_lcX (K := K) (evi_range1 (K := K) (k := ((m : Nat) : Int)) (by walk_at "ev") (by omega) (by omega)) (fun i acc => ∃ w : List Bool, w.length = i ∧ acc = w.map pD) ⟨[], rfl, rfl⟩ fun i acc hi hA => ?_).monoO ?_) (by walk_at "ev")) fun F v hv => hv
  · obtain ⟨w, hw, rfl⟩ := hA
    rw [Int.toNat_natCast] at hi
    refine ⟨by rw [List.length_map]; exact small1000 (by omega), _, gt1, (· = true), evt_yes, fun _ => ?_, fun z => by cases z⟩
    refine ev_sub (ev_call (eva_cons (ev_var rfl) (eva_cons (ev_frz (evc_lst (K := K) (ds := [pD true, pD false]) (eva_cons (ev_eq ev_str rfl) (eva_cons (ev_eq ev_str rfl) eva_nil)) (by show 2 ≤ sizeLine; decide))) eva_nil)) (gLOne.mk s [pD true, pD false] (by simp) (by simp)) (.inr rfl)) fun F v hv => ?_
    obtain ⟨r, hv⟩ := hv
    match r, hv with
    | ⟨0, _⟩, hv => exact ⟨⟨pD true, w ++ [true], by simp [hw], by simp⟩, hv⟩
    | ⟨1, _⟩, hv => exact ⟨⟨pD false, w ++ [false], by simp [hw], by simp⟩, hv⟩
  · rintro fp F H v ⟨⟨x, w, hw, rfl⟩, h⟩
    exact ⟨⟨w, by rw [hw, Int.toNat_natCast]⟩, h⟩
end
end TPE
end
section
set_option maxHeartbeats 400000
namespace TPE
open PySem PySem.Spec PyProof.Rows L2 TPI TPZ RT
local macro_rules | `(tactic| walk_at "go") => `(tactic| (try dsimp only [cxK, cxKB, cxK2]); (try dsimp [Gam]); (try simp only [List.map_cons, List.map_nil, List.cons_append, List.nil_append]))
local macro_rules | `(tactic| walk_at "ev") => `(tactic| first
  | ((with_reducible apply ev_var); exact rfl)
  | with_reducible exact ev_int
  | with_reducible exact ev_str
  | with_reducible exact ev_bl
  | with_reducible exact ev_non
  | with_reducible exact ev_c
  | ((with_reducible apply el_i) <;> walk_at "ev")
  | ((with_reducible apply el_b) <;> walk_at "ev")
  | ((with_reducible apply el_eqI); (walk_at "ev"); (walk_at "ev"))
  | ((with_reducible apply el_neI); (walk_at "ev"); (walk_at "ev"))
  | ((with_reducible apply el_eqS); (walk_at "ev"); (walk_at "ev"))
  | ((with_reducible apply el_neS); (walk_at "ev"); (walk_at "ev"))
  | ((with_reducible apply ev_notV) <;> walk_at "ev")
  | ((with_reducible apply el_isi); (walk_at "ev"); exact rfl)
  | ((with_reducible apply el_len) <;> walk_at "ej")
  | (((with_reducible apply ev_aT); (walk_at "ev")))
  | (((with_reducible apply ev_aL); (walk_at "ev")))
  | (((with_reducible apply ev_aP); (walk_at "ev")))
  | (((with_reducible apply ev_pl); (walk_at "ev"))))
local macro_rules | `(tactic| walk_at "ej") => `(tactic| first
  | ((with_reducible apply ev_own); exact rfl)
  | ((with_reducible apply EvJ.q_s); walk_at "ev")
  | ((with_reducible apply EvJ.q_l); walk_at "ev")
  | ((with_reducible apply EvJ.q_t); walk_at "ev")
  | ((with_reducible apply evj); walk_at "ev"))
local macro_rules | `(tactic| walk_at "ea") => `(tactic| first
  | with_reducible exact eva_nil
  | ((with_reducible apply eva_cons); (walk_at "ev"); (walk_at "ea")))
local macro_rules | `(tactic| walk_at "et") => `(tactic| first
  | ((with_reducible apply evt_or); (walk_at "et"); (intro _; walk_at "et"))
  | ((with_reducible apply evt_and); (walk_at "et"); (intro _; walk_at "et"))
  | ((with_reducible apply evt_not); (walk_at "et"))
  | ((with_reducible apply evt_test); (walk_at "ev"))
  | ((with_reducible apply evt_tB); (walk_at "ev")))
local macro_rules | `(tactic| walk_at "le") => `(tactic| ((try simp only [List.set_cons_zero, List.set_cons_succ]); repeat' (first | exact Le.nil | (with_reducible apply Le.un) | (apply Le.eq rfl) | apply Le.eq)))
section
variable {P : Program} {w : World} {K : PySem.W.Frag} {mg : Str → Option Value} {base : Heap} {pA oA C : Addr}
/-- blocks with the turns of a word -/
structure Cut (w : List Bool) (bs : List (List Bool × Nat)) : Prop where
  word : flat bs = w
  ok : ∀ b ∈ bs, b.1 ≠ [] ∧ b.1.length ≤ 4 ∧ 1 ≤ b.2 ∧ b.2 ≤ 100
  few : bs.length ≤ w.length
inductive gBlocks (K : PySem.W.Frag) : Option Addr → List Pd → Pd → Prop
  | mk (s : Addr) (w : List Bool) (hz : w.length ≤ 50) : gBlocks K (some s) [cP (.ref s), dP K (.str (SW w))] (exP fun r : { bs : List (List Bool × Nat) // Cut w bs } => dP K (.list (BD r.1)))
theorem flat_one2 (u : List Bool) (n : Nat) : flat [(u, n)] = (List.replicate n u).flatten := by rw [flat_cons, flat_nil, List.append_nil]
theorem rep_take_drop {a u : List Bool} {n : Nat} {W : List Bool} (h : W = (List.replicate n u).flatten ++ a) : W.drop (u.length * n) = a := by
  rw [h, List.drop_append, rep_length, List.drop_eq_nil_of_le (by rw [rep_length, Nat.mul_comm]; exact Nat.le_refl _), List.nil_append, Nat.mul_comm]
  simp
theorem ex_opL [Tb] {M : Option Addr} {Γ : List Slt} {ta tb : TE} {r : R2} {α : Type} {p : α → Pd} {x : Pd} {c : Slt} (ha : Ev M ta Γ (exP p)) (hb : Ev M tb Γ x) (h : ∀ y : α, OpJ M r (jd (p y)) (jd x) c) : EvC M (tOp r ta tb) Γ c := evc_op (evj ha) (evj hb) fun B O0 O Γ σ H v w E hx hy Q q => by
  obtain ⟨y, hx⟩ := hx
  exact h y B O0 O Γ σ H v w E hx hy Q q
theorem el_neSW [Tb] {M : Option Addr} {Γ : List Slt} {ta tb : TE} {a : List Bool} (ha : Ev M ta Γ (dP K (.str (SW a)))) (hb : Ev M tb Γ (dP K (.str ""))) : Ev M (tOp rNe ta tb) Γ (dP K (.bool (!decide (a = [])))) := ev_eq (el_neS ha hb) (by
  have : ("" : Str) = SW [] := rfl
  rw [this, SW_eq])
theorem sc_lblocks : FnScope ["_law_source_here", "_law_word_here", "_law_found", "_law_size", "_law_part", "_law_times"] ["_law_source_here", "_law_word_here"] (defScope (top 95)) := ⟨rfl, rfl, rfl, by decide +kernel, rfl, by decide +kernel, by decide +kernel⟩
-- slots: 0 _law_source_here, 1 _law_word_here, 2 _law_found, 3 _law_size, 4 _law_part, 5 _law_times
theorem w_lblocks [Tb] (B : Bi K mg pA oA) (D : FunG K mg "_law_blocks" "_law_blocks" (top 95)) (O__law_take : Okd P w K mg base 2 "_law_take" ["_law_source_here", "_law_many"] (gTake K)) : Okd P w K mg base 3 "_law_blocks" ["_law_source_here", "_law_word_here"] (gBlocks K) := by
  obtain ⟨f, fd, F, m⟩ := D
  refine ⟨f, fd, F.ok sc_lblocks (fun vs H Q E h => SpF.len (fun M ds d hg => by cases hg; rfl) h) (fun cdv A outer s H vs Q E hr h => ⟨_, PSs.nox ((pss_cons (ps_set (i := 2) sc_lblocks.nd rfl (by first | exact Or.inl rfl | exact Or.inr rfl) (pe_lst pa_nil))
    (pss_cons (ps_while PassesOwn.never (pt_cmpR op_ne (pv 1) pe_str (nomark _))
    (pss_cons (ps_set (i := 3) sc_lblocks.nd rfl (by first | exact Or.inl rfl | exact Or.inr rfl) (pe_op op_add pe_int (pe_callO O__law_take (hr.mono (by decide)) rfl (pa_cons (pv 0) (pa_cons (pe_callB (call_min2 rfl) rfl B.min (by decide +kernel) (pa_cons pe_int (pa_cons (pe_callB call_len rfl B.len (by decide +kernel) (pa_cons (pv 1) pa_nil)) pa_nil))) pa_nil)))))
    (pss_cons (ps_set (i := 4) sc_lblocks.nd rfl (by first | exact Or.inl rfl | exact Or.inr rfl) (pe_slice sl_str (pv 1) po_none (po_some (pv 3))))
    (pss_cons (ps_set (i := 5) sc_lblocks.nd rfl (by first | exact Or.inl rfl | exact Or.inr rfl) pe_int)
    (pss_cons (ps_while PassesOwn.never (PW.pt (pw_and (pt_val (pe_bm PySem.F.plainAttrs_str PySem.F.slot_str_startswith PySem.F.type_str_startswith mt_startswith (pe_slice sl_str (pv 1) (po_some (pe_op op_mul (pv 3) (pv 5))) po_none) (pa_cons (pv 4) pa_nil))) (pw_and1 (pt_cmpR op_gt (pe_callO O__law_take (hr.mono (by decide)) rfl (pa_cons (pv 0) (pa_cons pe_int pa_nil))) pe_int (nomark _)))))
    (pss_one (ps_set (i := 5) sc_lblocks.nd rfl (by first | exact Or.inl rfl | exact Or.inr rfl) (pe_op op_add (pv 5) pe_int))))
    (pss_cons (ps_expr (pe_bm PySem.F.plainAttrs_list PySem.F.slot_list_append PySem.F.type_list_append mt_append (pv 2) (pa_cons (pe_tup (pa_cons (pv 4) (pa_cons (pv 5) pa_nil))) pa_nil)))
    (pss_one (ps_set (i := 1) sc_lblocks.nd rfl (by first | exact Or.inl rfl | exact Or.inr rfl) (pe_slice sl_str (pv 1) (po_some (pe_op op_mul (pv 3) (pv 5))) po_none)))))))))
    (pss_one (ps_ret (pv 2)))))), body_of (fun M ds d hg => ?_) h⟩), m, F.kp, F.bindsN (fun _ _ _ _ _ _ us hl => match us, hl with | [_, _], _ => rfl)⟩
  cases hg with
  | mk s W hz =>
  refine ⟨by simp, ?_⟩
  walk_at "go"
  refine dq_set (c := .own (ownL K (BD []))) (evc_lst (ds := []) eva_nil (Nat.zero_le _)) ?_
  simp only [List.set_cons_zero, List.set_cons_succ]
  refine dq_whileL (S := List (List Bool × Nat) × List Bool) (fun q => flat q.1 ++ q.2 = W ∧ (∀ b ∈ q.1, b.1 ≠ [] ∧ b.1.length ≤ 4 ∧ 1 ≤ b.2 ∧ b.2 ≤ 100) ∧ q.1.length + q.2.length ≤ W.length) (fun q => [.val (cP (.ref s)), .val (dP K (.str (SW q.2))), .own (ownL K (BD q.1)), .un, .un, .un]) (fun q => q.2.length) ([], W) ⟨⟨rfl, (fun b hb => by cases hb), by simp⟩, by walk_at "le"⟩ fun q hq => ?_
  obtain ⟨bs, v⟩ := q
  obtain ⟨h1, h2, h3⟩ := hq
  simp only at h1 h2 h3
  refine ⟨(· = !decide (v = [])), evt_test (K := K) (el_neSW (by walk_at "ev") (by walk_at "ev")), fun hp => ?_, fun hp => ?_⟩
  · have e : v = [] := by simpa using hp
    subst e
    rw [List.append_nil] at h1
    refine ds_frz 2 (K := K) (ds := BD bs) rfl ?_
    simp only [List.set_cons_zero, List.set_cons_succ]
    exact ds_retS (d' := dP K (.list (BD bs))) (d := exP fun r : { bs : List (List Bool × Nat) // Cut W bs } => dP K (.list (BD r.1))) (by walk_at "ev") fun F x hx => ⟨⟨bs, h1, h2, by simp at h3; exact h3⟩, hx⟩
  have hne : v ≠ [] := by simpa using hp
  have hv0 : 0 < v.length := List.length_pos_iff.mpr hne
  refine dq_setV (d := exP fun r : Fin (min 4 v.length) => dP K (nI (r.1 + 1))) ?_ ?_
  · refine ex_opR (c := .val (exP fun r : Fin (min 4 v.length) => dP K (nI (r.1 + 1)))) (ev_int (K := K)) (ev_take s _ _ _ (min 4 v.length) (by omega) (by omega) (ev_var rfl) (el_minN (a := 4) (ev_eq ev_int rfl) (el_lenW (by walk_at "ev") (by omega))) _) fun r => oj_sub oj_i fun F x hx => ⟨r, by
      have e : (1 : Int) + ((r.1 : Nat) : Int) = ((r.1 + 1 : Nat) : Int) := by omega
      rw [e] at hx
      exact hx⟩
  simp only [List.set_cons_zero, List.set_cons_succ]
  refine ds_ex 3 rfl fun r => ?_
  simp only [List.set_cons_zero, List.set_cons_succ]
  have hr := r.2
  generalize hn : r.1 + 1 = n at *
  have hn1 : n ≤ v.length := by omega
  have hn4 : n ≤ 4 := by omega
  have hn0 : 0 < n := by omega
  refine dq_setV (d := dP K (.str (SW (v.take n)))) (ev_eq (el_slW (by walk_at "ev") evo_none (evo_N (K := K) (n := n) (by walk_at "ev")) (by omega)) (by rw [cut_take])) ?_
  simp only [List.set_cons_zero, List.set_cons_succ]
  generalize hu : v.take n = u at *
  have hul : u.length = n := by rw [← hu, List.length_take]; omega
  refine dq_setV (d := dP K (nI 1)) (ev_eq ev_int rfl) ?_
  simp only [List.set_cons_zero, List.set_cons_succ]
  refine dq_whileL (S := Nat) (fun t => 1 ≤ t ∧ ∃ y, v = (List.replicate t u).flatten ++ y) (fun t => [.val (cP (.ref s)), .val (dP K (.str (SW v))), .own (ownL K (BD bs)), .val (dP K (nI n)), .val (dP K (.str (SW u))), .val (dP K (nI t))]) (fun t => v.length - n * t) 1 ⟨⟨Nat.le_refl _, v.drop n, by simp [← hu]⟩, by walk_at "le"⟩ fun t ht => ?_
  obtain ⟨ht1, y, hy⟩ := ht
  have htl : n * t ≤ v.length := by
    have := congrArg List.length hy
    rw [List.length_append, rep_length, hul, Nat.mul_comm] at this
    omega
  have ht50 : t ≤ 50 := by
    have : t ≤ n * t := Nat.le_mul_of_pos_left _ hn0
    omega
  refine ⟨fun b => b = true → ∃ y, v = (List.replicate (t + 1) u).flatten ++ y, ?_, fun _ => ?_, fun hb => ?_⟩
  · refine EvT.mono (evt_andX (p := (· = Txt.startswith (SW (v.drop (n * t))) (SW u))) (p' := fun _ => True) (evt_test (K := K) (ev_bmS (ev_eq (el_slW (by walk_at "ev") (evo_N (K := K) (n := n * t) (el_mulN (by walk_at "ev") (by walk_at "ev") (by omega))) evo_none (by omega)) (by rw [cut_drop])) (evj_cons (evj (by walk_at "ev")) evj_nil) mj_sw)) fun _ => ?_) fun b hb => ?_
    · refine evt_any (K := K) (b := fun n => decide (0 < n)) (ex_opL (c := .val (exP fun n : Int => dP K (.bool (decide (0 < n))))) (p := fun r : Fin 4 => dP K (nI r.1)) (ev_take s _ _ _ 4 (by decide) (by decide) (ev_var rfl) (ev_eq ev_int rfl) _) (ev_int (K := K) (n := 0)) fun r => oj_sub oj_b fun F x hx => ⟨_, hx⟩)
    · rcases hb with ⟨hb, _⟩ | ⟨_, hb⟩
      · intro _
        obtain ⟨g1, g2⟩ := starts_SW hb.symm
        refine ⟨(v.drop (n * t)).drop u.length, ?_⟩
        have e1 : v.drop (n * t) = y := by rw [← hul, rep_take_drop hy]
        rw [e1] at g2 ⊢
        have e2 : y = u ++ y.drop u.length := by
          conv => lhs; rw [← List.take_append_drop u.length y, g2]
        rw [List.replicate_succ', List.flatten_append, List.append_assoc]
        simp only [List.flatten_cons, List.flatten_nil, List.append_nil]
        rw [← e2]
        exact hy
      · intro e
        rw [hb] at e
        cases e
  · refine dq_append (K := K) (ds := BD bs) (x := bD (u, t)) rfl (ev_tupD (ds := [.str (SW u), nI t]) (eva_cons (by walk_at "ev") (eva_cons (by walk_at "ev") eva_nil)) (by show 2 ≤ sizeLine; decide)) (by simp [BD]; exact small1000 (by omega)) ?_
    simp only [List.set_cons_zero, List.set_cons_succ]
    have e : BD bs ++ [bD (u, t)] = BD (bs ++ [(u, t)]) := by simp [BD]
    rw [e]
    refine ds_setV (d := dP K (.str (SW y))) (ev_eq (el_slW (by walk_at "ev") (evo_N (K := K) (n := n * t) (el_mulN (by walk_at "ev") (by walk_at "ev") (by omega))) evo_none (by omega)) (by rw [cut_drop, ← hul, rep_take_drop hy])) ?_
    simp only [List.set_cons_zero, List.set_cons_succ]
    have hyl : y.length + n * t = v.length := by
      have := congrArg List.length hy
      rw [List.length_append, rep_length, hul, Nat.mul_comm] at this
      omega
    have hnt : 1 ≤ n * t := Nat.mul_pos hn0 ht1
    refine ⟨(bs ++ [(u, t)], y), by show y.length < v.length; omega, ⟨?_, fun b hb => ?_, ?_⟩, by walk_at "le"⟩
    · show flat (bs ++ [(u, t)]) ++ y = W
      rw [flat_append, flat_one2, List.append_assoc, ← hy]
      exact h1
    · rcases List.mem_append.mp hb with hb | hb
      · exact h2 b hb
      · have e := List.mem_singleton.mp hb
        subst e
        exact ⟨fun e => by have e : u = [] := e; rw [e] at hul; simp at hul; omega, by simp only; omega, ht1, by simp only; omega⟩
    · simp only [List.length_append, List.length_singleton]
      omega
  · obtain ⟨y', hy'⟩ := hb rfl
    refine ds_setV (d := dP K (nI (t + 1))) (el_addN (b := 1) (by walk_at "ev") (ev_eq ev_int rfl)) ?_
    simp only [List.set_cons_zero, List.set_cons_succ]
    have hl' := congrArg List.length hy'
    rw [List.length_append, rep_length, hul, Nat.mul_comm] at hl'
    have hm : n * (t + 1) = n * t + n := Nat.mul_succ n t
    exact ⟨t + 1, by show v.length - n * (t + 1) < v.length - n * t; omega, ⟨by omega, y', hy'⟩, by walk_at "le"⟩
end
end TPE
end
section
set_option maxHeartbeats 400000
namespace TPE
open PySem PySem.Spec PyProof.Rows L2 TPI TPZ RT
local macro_rules | `(tactic| walk_at "go") => `(tactic| (try dsimp only [cxK, cxKB, cxK2]); (try dsimp [Gam]); (try simp only [List.map_cons, List.map_nil, List.cons_append, List.nil_append]))
local macro_rules | `(tactic| walk_at "ev") => `(tactic| first
  | ((with_reducible apply ev_var); exact rfl)
  | with_reducible exact ev_int
  | with_reducible exact ev_str
  | with_reducible exact ev_bl
  | with_reducible exact ev_non
  | with_reducible exact ev_c
  | ((with_reducible apply el_i) <;> walk_at "ev")
  | ((with_reducible apply el_b) <;> walk_at "ev")
  | ((with_reducible apply el_eqI); (walk_at "ev"); (walk_at "ev"))
  | ((with_reducible apply el_neI); (walk_at "ev"); (walk_at "ev"))
  | ((with_reducible apply el_eqS); (walk_at "ev"); (walk_at "ev"))
  | ((with_reducible apply el_neS); (walk_at "ev"); (walk_at "ev"))
  | ((with_reducible apply ev_notV) <;> walk_at "ev")
  | ((with_reducible apply el_isi); (walk_at "ev"); exact rfl)
  | ((with_reducible apply el_len) <;> walk_at "ej")
  | (((with_reducible apply ev_aT); (walk_at "ev")))
  | (((with_reducible apply ev_aL); (walk_at "ev")))
  | (((with_reducible apply ev_aP); (walk_at "ev")))
  | (((with_reducible apply ev_pl); (walk_at "ev"))))
local macro_rules | `(tactic| walk_at "ej") => `(tactic| first
  | ((with_reducible apply ev_own); exact rfl)
  | ((with_reducible apply EvJ.q_s); walk_at "ev")
  | ((with_reducible apply EvJ.q_l); walk_at "ev")
  | ((with_reducible apply EvJ.q_t); walk_at "ev")
  | ((with_reducible apply evj); walk_at "ev"))
local macro_rules | `(tactic| walk_at "ea") => `(tactic| first
  | with_reducible exact eva_nil
  | ((with_reducible apply eva_cons); (walk_at "ev"); (walk_at "ea")))
local macro_rules | `(tactic| walk_at "et") => `(tactic| first
  | ((with_reducible apply evt_or); (walk_at "et"); (intro _; walk_at "et"))
  | ((with_reducible apply evt_and); (walk_at "et"); (intro _; walk_at "et"))
  | ((with_reducible apply evt_not); (walk_at "et"))
  | ((with_reducible apply evt_test); (walk_at "ev"))
  | ((with_reducible apply evt_tB); (walk_at "ev")))
local macro_rules | `(tactic| walk_at "le") => `(tactic| ((try simp only [List.set_cons_zero, List.set_cons_succ]); repeat' (first | exact Le.nil | (with_reducible apply Le.un) | (apply Le.eq rfl) | apply Le.eq)))
section
variable {P : Program} {w : World} {K : PySem.W.Frag} {mg : Str → Option Value} {base : Heap} {pA oA C : Addr}
/-- what a scene is -/
structure Sce where
  c : List Nat
  r1 : List Nat
  r2 : List Nat
  w : List Bool
structure Sce.Ok (S : Sce) : Prop where
  c1 : 1 ≤ S.c.length
  c6 : S.c.length ≤ 6
  s10 : S.c.sum ≤ 10
  h1 : RkOk S.c.length S.r1
  h2 : RkOk S.c.length S.r2
  len : S.w.length = S.c.sum
abbrev Sce.pd (K : PySem.W.Frag) (S : Sce) : Pd := tupP K [plP K (LN S.c), lsP K S.r1 S.r2, dP K (.str (SW S.w))]
inductive gScene (K : PySem.W.Frag) : Option Addr → List Pd → Pd → Prop
  | mk (s : Addr) : gScene K (some s) [cP (.ref s), dP K (nI 6), dP K (nI 10), dP K (.bool true)] (exP fun S : { S : Sce // S.Ok } => S.1.pd K)
theorem sc_lscene : FnScope ["_law_source_here", "_law_kinds_most", "_law_items_most", "_law_whole", "_law_rest", "_law_rankings_here", "_law_many"] ["_law_source_here", "_law_kinds_most", "_law_items_most", "_law_whole"] (defScope (top 97)) := ⟨rfl, rfl, rfl, by decide +kernel, rfl, by decide +kernel, by decide +kernel⟩
-- slots: 0 _law_source_here, 1 _law_kinds_most, 2 _law_items_most, 3 _law_whole, 4 _law_rest, 5 _law_rankings_here, 6 _law_many
theorem w_lscene [Tb] (B : Bi K mg pA oA) (D : FunG K mg "_law_scene" "_law_scene" (top 97)) (O__law_kinds : Okd P w K mg base 3 "_law_kinds" ["_law_source_here", "_law_most", "_law_items_most"] (gKinds K)) (O__law_rankings : Okd P w K mg base 4 "_law_rankings" ["_law_source_here", "_law_many"] (gRanks K)) (O__law_take : Okd P w K mg base 2 "_law_take" ["_law_source_here", "_law_many"] (gTake K)) (O__law_word : Okd P w K mg base 4 "_law_word" ["_law_source_here", "_law_many"] (gWord K)) : Okd P w K mg base 5 "_law_scene" ["_law_source_here", "_law_kinds_most", "_law_items_most", "_law_whole"] (gScene K) := by
  obtain ⟨f, fd, F, m⟩ := D
  refine ⟨f, fd, F.ok sc_lscene (fun vs H Q E h => SpF.len (fun M ds d hg => by cases hg; rfl) h) (fun cdv A outer s H vs Q E hr h => ⟨_, PSs.nox ((pss_cons (ps_set (i := 4) sc_lscene.nd rfl (by first | exact Or.inl rfl | exact Or.inr rfl) (pe_callO O__law_kinds (hr.mono (by decide)) rfl (pa_cons (pv 0) (pa_cons (pv 1) (pa_cons (pv 2) pa_nil)))))
    (pss_cons (ps_set (i := 5) sc_lscene.nd rfl (by first | exact Or.inl rfl | exact Or.inr rfl) (pe_callO O__law_rankings (hr.mono (by decide)) rfl (pa_cons (pv 0) (pa_cons (pe_callB call_len rfl B.len (by decide +kernel) (pa_cons (pv 4) pa_nil)) pa_nil))))
    (pss_cons (ps_set (i := 6) sc_lscene.nd rfl (by first | exact Or.inl rfl | exact Or.inr rfl) (pe_callB (cr_sumT rfl) rfl B.sum (by decide +kernel) (pa_cons (pv 4) pa_nil)))
    (pss_cons (ps_if (pt_not (pt_val (pv 3)))
    (pss_one (ps_set (i := 6) sc_lscene.nd rfl (by first | exact Or.inl rfl | exact Or.inr rfl) (pe_callO O__law_take (hr.mono (by decide)) rfl (pa_cons (pv 0) (pa_cons (pe_op op_add (pv 6) pe_int) pa_nil)))))
    pss_nil)
    (pss_one (ps_ret (pe_tup (pa_cons (pv 4) (pa_cons (pv 5) (pa_cons (pe_callO O__law_word (hr.mono (by decide)) rfl (pa_cons (pv 0) (pa_cons (pv 6) pa_nil))) pa_nil))))))))))), body_of (fun M ds d hg => ?_) h⟩), m, F.kp, F.bindsN (fun _ _ _ _ _ _ us hl => match us, hl with | [_, _, _, _], _ => rfl)⟩
  cases hg with
  | mk s =>
  refine ⟨by simp, ?_⟩
  walk_at "go"
  refine dq_setV (d := exP fun r : { c : List Nat // 1 ≤ c.length ∧ c.length ≤ 6 ∧ c.sum ≤ 10 } => plP K (LN r.1)) (ev_call (eva_cons (ev_var rfl) (eva_cons (ev_var rfl) (eva_cons (ev_var rfl) eva_nil))) (gKinds.mk s) (.inr rfl)) ?_
  simp only [List.set_cons_zero, List.set_cons_succ]
  refine ds_ex 4 rfl fun c => ?_
  obtain ⟨c, c1, c6, cs⟩ := c
  simp only [List.set_cons_zero, List.set_cons_succ]
  refine dq_setV (d := exP fun r : { r : List Nat × List Nat // RkOk c.length r.1 ∧ RkOk c.length r.2 } => lsP K r.1.1 r.1.2) (ev_call (eva_cons (ev_var rfl) (eva_cons (el_lenN (sk := .t) (EvJ.q_t (ev_pl (ev_var rfl)))) eva_nil)) (gRanks.mk s c.length (by omega)) (.inr rfl)) ?_
  simp only [List.set_cons_zero, List.set_cons_succ]
  refine ds_ex 5 rfl fun r => ?_
  obtain ⟨r, r1, r2⟩ := r
  simp only [List.set_cons_zero, List.set_cons_succ]
  refine dq_setV (d := dP K (nI c.sum)) (el_sumT (ev_pl (ev_var rfl))) ?_
  simp only [List.set_cons_zero, List.set_cons_succ]
  refine dq_guard (b := !true) (evt_not (evt_tB (K := K) (ev_var rfl))) rfl ?_
  refine ds_retS (d' := tupP K [plP K (LN c), lsP K r.1 r.2, wordP K c.sum]) (d := exP fun S : { S : Sce // S.Ok } => S.1.pd K) (ev_tup (eva_cons (ev_var rfl) (eva_cons (ev_var rfl) (eva_cons (ev_call (eva_cons (ev_var rfl) (eva_cons (ev_var rfl) eva_nil)) (gWord.mk s c.sum (by omega)) (.inr rfl)) eva_nil))) (by show 3 ≤ sizeLine; decide)) fun F v hv => ?_
  obtain ⟨a, vs, e1, e2, hv⟩ := hv
  cases hv with
  | cons h1 t =>
    cases t with
    | cons h2 t =>
      cases t with
      | cons h3 t =>
        cases t
        obtain ⟨w, h3⟩ := h3
        exact ⟨⟨⟨c, r.1, r.2, w.1⟩, c1, c6, cs, r1, r2, w.2⟩, a, _, e1, e2, .cons h1 (.cons h2 (.cons h3 .nil))⟩
/-- a def of any promise -/
def OkS (P : Program) (w : World) (K : PySem.W.Frag) (mg : Str → Option Value) (base : Heap) (k : Nat) (x : Str) (ps : List Str) (sp : Sp) : Prop :=
  ∃ f fd, FnOk P w K mg base CX0 k f fd ps sp ∧ mg x = some (.ref f) ∧ PySem.W.keepIn K (.ref f) = true ∧ Binds K fd ps []
theorem pe_callS {X : Cx} {k : Nat} {x : Str} {ps : List Str} {sp : Sp} {e : Expr} {es : List Expr} {p pos : Pos} {t : TA} (O : OkS X.prog X.w X.K X.mg X.base k x ps sp) (hr : Room k X.A) (hg : Gl X x) (ha : PA X (e :: es) t) (hdb : (x == ("__debug__" : Str)) = false := by decide) (he : starEach (e :: es) X.env = (false, eval e X.env) :: starEach es X.env := by rfl) (hpl : (backTo pos (starEach es X.env)).any (·.1) = false := by rfl) :
    PE X (.Call (.Name x p) (e :: es) [] pos) (tCall sp [] E0 t) := by
  obtain ⟨f, fd, F, hm, hk, hb⟩ := O
  exact pe_call F hr hg hm hk hb .nil pass0 ha hdb he hpl
/-- _law_source: a new list -/
def spSrc : Sp := fun vs H Q _ => ∃ n : Int, vs = [.int n] ∧ ∀ l, H l = none → Q (.ref l) (upd H l (.lst [.int n, .int n, .int 0]))
theorem sc_lsource : FnScope ["_law_cell"] ["_law_cell"] (defScope (top 88)) := ⟨rfl, rfl, rfl, by decide +kernel, rfl, by decide +kernel, by decide +kernel⟩
theorem w_lsource (D : FunG K mg "_law_source" "_law_source" (top 88)) : OkS P w K mg base 1 "_law_source" ["_law_cell"] spSrc := by
  obtain ⟨f, fd, F, m⟩ := D
  refine ⟨f, fd, F.ok sc_lsource (fun vs H Q E h => by obtain ⟨n, rfl, _⟩ := h; rfl) (fun cdv A outer s H vs Q E hr h => ⟨_, PSs.nox (pss_one (ps_ret (pe_lst (pa_cons (pv 0) (pa_cons (pv 0) (pa_cons pe_int pa_nil)))))), ?_⟩), m, F.kp, F.bindsN (fun _ _ _ _ _ _ us hl => match us, hl with | [_], _ => rfl)⟩
  obtain ⟨n, rfl, q⟩ := h
  exact ⟨_, rfl, _, rfl, by show 3 ≤ sizeLine; decide, fun l hl => q l hl⟩
section
variable [Tb] {M : Option Addr} {Γ : List Slt} {te : TE} {n : Int}
theorem ev_newsrc (h : Ev M te Γ (dP K (.int n))) (E' : XK) : EvC M (tCall spSrc [] E' (tCons te tNil)) Γ (.own (ownL K [.int n, .int n, .int 0])) := fun B O0 O σ H E Q q => h B O0 O σ H E _ fun v O1 H1 s hv => by
  have hv : Dp K (wo H1 O1) v (.int n) := hv
  cases hv
  refine ⟨n, rfl, fun l hl => ?_⟩
  obtain ⟨s2, hc⟩ := ch_new E s (K := K) (ds := [.int n, .int n, .int 0]) (.cons (.int n) (.cons (.int n) (.cons (.int 0) .nil))) hl
  exact q _ _ _ s2 hc
end
end
end TPE
end
section
set_option maxHeartbeats 1000000
/-! a lambda with one parameter, the last of three arguments of a def -/
namespace TPL
open PySem PySem.Spec PyProof.Rows L2 LamX
/-- the lambda's scope: its one own name n, captured ones, globals -/
structure One (sc scope : Scope) (n : Str) : Prop where
  kind : scope.kind = .function
  co : scope.isCoroutine = false
  gen : scope.isGenerator = false
  nocell : ∀ y ∈ scope.names, y.2 ≠ .cell
  loc : ∀ y ∈ scope.names, y.2 = .local → y.1 = n
  par : scope.names.lookup n = some .local
  free : ∀ y ∈ scope.names, y.2 = .free → (sc.names.lookup y.1 = some .cell ∨ sc.names.lookup y.1 = some .free)
def oneB (sc scope : Scope) (n : Str) : Bool :=
  decide (scope.kind = .function) && (!scope.isCoroutine && (!scope.isGenerator && (decide (scope.names.lookup n = some .local) &&
    scope.names.all fun y => !decide (y.2 = .cell) && ((!decide (y.2 = .local) || decide (y.1 = n)) && (!decide (y.2 = .free) || (decide (sc.names.lookup y.1 = some .cell) || decide (sc.names.lookup y.1 = some .free)))))))
theorem one_of {sc scope : Scope} {n : Str} (h : oneB sc scope n = true) : One sc scope n := by
  unfold oneB at h
  simp only [Bool.and_eq_true, Bool.or_eq_true, Bool.not_eq_true', decide_eq_true_eq, decide_eq_false_iff_not, List.all_eq_true] at h
  obtain ⟨a, b, c, d, e⟩ := h
  refine ⟨a, b, c, fun y hy => (e y hy).1, fun y hy k => ?_, d, fun y hy k => ?_⟩
  · rcases (e y hy).2.1 with z | z
    · exact absurd k z
    · exact z
  · rcases (e y hy).2.2 with z | z
    · exact absurd k z
    · exact z
theorem One.has {X : Cx} {scope : Scope} {n : Str} (L : One X.env.scope scope n) (ok : X.Ok) : ∀ y ∈ scope.names, y.2 = .free → ∃ c, X.env.cells.lookup y.1 = some c := fun y hy k => ok.has y.1 (L.free y hy k)
/-- the object of the lambda -/
abbrev lobj (X : Cx) (params : Arguments) (body : Expr) (scope : Scope) (pm : Value) (cc : Addr) (ctv : Value) : Obj :=
  PySem.W.kla_obj "<lambda>" (X.env.qual ++ "<lambda>") params body scope (cloFrom X.env.cells scope.names []) pm cc ctv
section
variable {X : Cx} {pins : List (Addr × Obj)} {σ : L2.St} {H HZ : Hp} {s s1 : Shared} {n : Str} {scope : Scope}
/-- the making: but for the table all is kept -/
theorem make1 {c P : Addr} {params : Arguments} {body : Expr} {pos : Pos} {E : Value → Shared → Prop} {Q : Value → Shared → Prop} (I : Inv X pins σ H s) (TB : TabB X.base X.mg c P) (hcode : X.env.code = .ref c)
    (hT : TabS H P (X.env.qual ++ "<lambda>")) (hdef : defaultsOf params X.env = ([], [])) (hfree : ∀ y ∈ scope.names, y.2 = .free → ∃ c, X.env.cells.lookup y.1 = some c)
    (fin : ∀ (f cc : Addr) (pm ctv : Value) (H1 : Hp) (s' : Shared), Inv X pins σ H1 s' → (∀ b o, b ≠ P → H b = some o → H1 b = some o) → TabS H1 P (X.env.qual ++ "<lambda>") →
      s'.heap.get? f = some (lobj X params body scope pm cc ctv) → H1 f = none → f ∉ frs X.stack → H1 cc = some (CodeO cc (X.env.qual ++ "<lambda>")) → Q (.ref f) s') :
    wpAny (model X.prog X.w) X.A (eval (.Lambda params body scope pos) X.env) Q E s := by
  have hT' := hT
  obtain ⟨ps, tP, tr, am⟩ := hT'
  refine PySem.W.kla_eval hdef ?_
  have hbP := TB.bm.keeps I.bk
  have hgP : s.heap.get? P = some { cls := .none, data := .fields ps } := I.hok P _ tP
  have fro : ∀ f, s.heap.objs.size ≤ f → f ∉ frs X.stack := fun f hf z => by
    rcases List.mem_cons.mp (I.stkSub _ z) with rfl | e
    · exact absurd I.lt (Nat.not_lt.mpr hf)
    · exact I.nofs hf e
  cases hc : codeAmong pos ps.toList with
  | none =>
    refine PySem.W.kla_makeFunction (closure_ok hfree) I.ok.glob (I.mod.glob.keeps I.bk) hcode (TB.code.keeps I.bk) hgP tr hc TB.gP hbP fun cc ctv h' tk hx hge hlt ⟨c2, oc, vs, t, e2, hoc, hd, hv⟩ htb => ?_
    cases e2
    have nC : H cc = none := I.hok.fresh hge
    have J := inv_table (t' := tk) (q := X.env.qual ++ "<lambda>") (more := #[rawInt pos.line, rawInt pos.col, .ref cc]) (h' := h'.push (lobj X params body scope ((X.mg "__name__").getD .none) cc ctv)) I tP
      (fun b o hb e => Heap.get?_push_of_some _ (hx b o hb e)) (Heap.get?_push_of_some _ htb) hge ⟨oc, vs, t, Heap.get?_push_of_some _ hoc, hd, hv⟩
    have keep : ∀ b o, b ≠ P → H b = some o → upd (upd H P (.tbl (ps ++ #[rawInt pos.line, rawInt pos.col, .ref cc]))) cc (CodeO cc (X.env.qual ++ "<lambda>")) b = some o := fun b o hb e => by
      rw [upd_ne (ne_of_none e nC), upd_ne hb]; exact e
    refine fin h'.objs.size cc _ ctv _ _ J keep ⟨_, by rw [upd_ne (ne_of_none tP nC), upd_same], ?_, fun p' cv hcv => ?_⟩ (Heap.get?_push_size _ rfl) ?_ (fro _ (by omega)) upd_same
    · simpa [rawInt] using PySem.TriplesOk_snoc _ _ _ _ tr
    · have hcv' : codeAmong p' (ps.toList ++ [rawInt pos.line, rawInt pos.col, .ref cc]) = some cv := by simpa using hcv
      rcases among_app _ tr hcv' with z | rfl
      · obtain ⟨c0, rfl, e0⟩ := am p' cv z
        refine ⟨c0, rfl, keep c0 _ (fun e => ?_) e0⟩
        rw [e, tP] at e0
        exact codeO_ne ps (Option.some.inj e0).symm
      · exact ⟨cc, rfl, upd_same⟩
    · have n2 : h'.objs.size ≠ P := fun e => Nat.lt_irrefl P (Nat.lt_of_lt_of_le (Heap.lt_size hgP) (Nat.le_trans (Nat.le_trans hge (Nat.le_of_lt hlt)) (Nat.le_of_eq e)))
      rw [upd_ne (show h'.objs.size ≠ cc by omega), upd_ne n2]
      exact I.hok.fresh (by omega)
  | some cv =>
    obtain ⟨cc, rfl, hco⟩ := am pos cv hc
    refine PySem.W.kla_makeFunctionHit (closure_ok hfree) I.ok.glob (I.mod.glob.keeps I.bk) hcode (TB.code.keeps I.bk) hgP tr hc hbP fun ctv h' tk hx hsz => ?_
    have J : Inv X pins σ H { s with heap := h'.push (lobj X params body scope ((X.mg "__name__").getD .none) cc ctv), toks := tk } := I.kept fun b o e => Heap.get?_push_of_some _ (hx b o e)
    exact fin h'.objs.size cc _ ctv H _ J (fun _ _ _ e => e) hT (Heap.get?_push_size _ rfl) (I.hok.fresh hsz) (fro _ hsz) hco
/-- the frame of its body -/
theorem start1 {A : Around} {outer : List Env} {f cc : Addr} {h₁ : Heap} {tk j : Nat} {v : V} {u : Value} (I : Inv X pins σ H s) (L : One X.env.scope scope n) (hnd : X.N.Nodup) (hj : X.N[j]? = some n) (e0 : Env0 X.prog X.w X.K X.mg X.base A outer s1 HZ) (hd : A.handled = none)
    (un : Un (frs X.stack) [] H HZ s.heap s1.heap) (r : RelV v u) (hns : h₁.Ns s1.heap.objs.size fun y => [(n, u)].reverse.lookup y) (kp : ∀ b o, s1.heap.get? b = some o → h₁.get? b = some o) :
    Inv (lamCx X A outer s1 HZ C8.E0 scope f cc) [] (σ.set j (some v)) HZ { s1 with heap := h₁, toks := tk } := by
  have hfree := L.has I.ok
  have cm : ∀ {y c}, (cloFrom X.env.cells scope.names []).lookup y = some c → X.env.cells.lookup y = some c := fun {y c} e => by
    rcases cloFrom_mem (PySem.mem_of_lookup e) with hm | ⟨h1, h2⟩
    · cases hm
    obtain ⟨c1, hc⟩ := hfree _ h1 rfl
    have hc : X.env.cells.lookup y = some c1 := hc
    have e2 : c = c1 := by rw [h2, hc] <;> rfl
    rw [e2]
    exact hc
  have look : ∀ {y}, scope.names.lookup y = some .free → ∃ c, (cloFrom X.env.cells scope.names []).lookup y = some c := fun {y} hl => mem_lookup (cloFrom_has (cells := X.env.cells) (acc := []) (PySem.mem_of_lookup hl))
  have cellK : ∀ {c : Addr} {v : Option Value}, H c = none → s.heap.IsCell c v → h₁.IsCell c v := fun {c v} z ⟨o, ho, hd⟩ => let ⟨sl, q⟩ := un.any ho z (by simp); ⟨_, kp _ _ q, hd⟩
  have noA : ∀ b : Addr, b ∉ (lamCx X A outer s1 HZ C8.E0 scope f cc).ex := fun b z => nomatch (show b ∈ ([] : List Addr) from z)
  have ok : (lamCx X A outer s1 HZ C8.E0 scope f cc).Ok := by
    refine ⟨e0.mod, L.kind, rfl, rfl, Nat.le_refl _, fun y z c a b => I.ok.inj y z c (cm a) (cm b), fun y hy => ?_, fun y c z _ => ?_, fun _ => hd, Around.frames_deeper e0.frames, .inr ⟨rfl, rfl⟩, fun b z => absurd z (noA b), e0.bs, e0.bsz, fun b _ _ => noA b, fun b z => absurd z (noA b), e0.funs, e0.frf⟩
    · rcases (hy : scope.names.lookup y = some .cell ∨ scope.names.lookup y = some .free) with hy | hy
      · exact absurd rfl (L.nocell _ (PySem.mem_of_lookup hy))
      · exact look hy
    · exact nomatch (show false = true from z)
  refine ⟨ok, rfl, e0.bare, Un.kept kp, ⟨_, hns, fun i y v' e1 e2 e3 => ?_⟩, fun y c e => ?_, e0.hok.fresh (Nat.le_refl _), fun y c e => ?_, fun q hq => (nomatch (show q ∈ ([] : List (Addr × Obj)) ++ [] from hq)), e0.hok.kept kp, by rw [List.length_set]; exact I.len⟩
  · have e1 : X.N[i]? = some y := e1
    by_cases hij : j = i
    · subst hij
      rw [hj] at e1
      cases e1
      have hlt : j < σ.length := by
        rw [I.len]
        rcases Nat.lt_or_ge j X.N.length with z | z
        · exact z
        · rw [List.getElem?_eq_none z] at hj; cases hj
      rw [List.getElem?_set_self hlt] at e2
      cases e2
      refine ⟨u, r, .inl ⟨L.par, ?_⟩⟩
      simp
    · rw [List.getElem?_set_ne hij] at e2
      have hne : y ≠ n := fun e => by
        subst e
        have h1 := List.getElem?_eq_some_iff.mp hj
        have h2 := List.getElem?_eq_some_iff.mp e1
        exact hij ((List.getElem_inj hnd).mp (h1.2.trans h2.2.symm))
      have e3 : Vis scope y := e3
      rcases e3 with k | k | k
      · exact absurd (L.loc _ (PySem.mem_of_lookup k) rfl) hne
      · exact absurd rfl (L.nocell _ (PySem.mem_of_lookup k))
      obtain ⟨m, hn, hl⟩ := I.loc
      have fr := L.free _ (PySem.mem_of_lookup k) rfl
      obtain ⟨w', r', q⟩ := hl i y v' e1 e2 (.inr fr)
      obtain ⟨c2, h2⟩ := look k
      refine ⟨w', r', .inr ⟨.inr k, c2, h2, ?_⟩⟩
      rcases q with ⟨k', _⟩ | ⟨_, c3, e', z⟩
      · have k' : X.env.scope.names.lookup y = some .local := k'
        rcases fr with k2 | k2 <;> rw [show X.env.scope.names.lookup y = _ from k2] at k' <;> cases k'
      · rw [cm h2] at e'
        cases e'
        exact cellK (I.freeC y _ (cm h2)) z
  · obtain ⟨w', z⟩ := I.cell y c (cm e)
    exact ⟨w', cellK (I.freeC y c (cm e)) z⟩
  · obtain ⟨v, o, ho, hd⟩ := I.cell y c (cm e)
    exact un.free c o ho (I.freeC y c (cm e)) (by simp)
/-- of one argument -/
def one1 (F : V → Hp → Prop) : List V → Hp → Prop
  | [v], H => F v H
  | _, _ => False
theorem one1_of {F : V → Hp → Prop} {vs : List V} {H : Hp} (h : one1 F vs H) : ∃ v, vs = [v] ∧ F v H := by
  match vs, h with
  | [v], h => exact ⟨v, rfl, h⟩
/-- is_passed(e) in the def that got the lambda, entered at s -/
abbrev gcx (X : Cx) (Ng : List Str) (qg : Str) (sg : Scope) (g : Addr) (cdg : Value) (s : Shared) (H : Hp) : Cx := (cxOf C8.CX0 X.prog X.w X.K X.mg X.base Ng qg sg g cdg X.A X.stack s H C8.E0).nox
def tAct (i : Nat) (f cc : Addr) (q : Str) (tl : V → Hp → VK → Prop) (ta : TE) : TE := fun σZ HZ Q => σZ[i]? = some (some (.ref f)) ∧ ta σZ HZ fun v H1 => H1 cc = some (CodeO cc q) ∧ tl v H1 Q
theorem act1 {Ng : List Str} {qg : Str} {sg : Scope} {g f cc : Addr} {cdg pm ctv : Value} {params : Arguments} {body earg : Expr} {k i j : Nat} {a : Str} {tb ta : TE} {p1 p2 : Pos}
    (I : Inv X pins σ H s) (L : One X.env.scope scope n) (hnd : X.N.Nodup) (hj : X.N[j]? = some n) (hf : s.heap.get? f = some (lobj X params body scope pm cc ctv)) (hfn : H f = none) (hfr : f ∉ frs X.stack)
    (hbind : ∀ u : Value, bindArgs (PySem.W.kla_fn "<lambda>" (X.env.qual ++ "<lambda>") params body scope (cloFrom X.env.cells scope.names []) pm (.ref cc) ctv) ⟨[u], []⟩ = pure [(n, u)])
    (hr : Room (k + 1) (X.A.deeper (envOfC qg sg s.heap.objs.size g cdg)))
    (hbody : ∀ (A : Around) (outer : List Env) (s : Shared) (H : Hp), Room k (A.deeper (lamEnv X scope s.heap.objs.size f cc)) → PE (lamCx X A outer s H C8.E0 scope f cc) body tb)
    (hN : Ng[i]? = some a) (hv : Vis sg a) (harg : PE (gcx X Ng qg sg g cdg s H) earg ta) (hs : starEach [earg] (gcx X Ng qg sg g cdg s H).env = (false, eval earg (gcx X Ng qg sg g cdg s H).env) :: starEach [] (gcx X Ng qg sg g cdg s H).env := by rfl)
    (hd : (a == ("__debug__" : Str)) = false := by decide) (hcd : (a == ("__classdict__" : Str)) = false := by decide) :
    PE (gcx X Ng qg sg g cdg s H) (.Call (.Name a p1) [earg] [] p2) (tAct i f cc (X.env.qual ++ "<lambda>") (fun v H1 Q => tb (σ.set j (some v)) H1 Q) ta) := by
  refine ⟨fun pinsZ sZ σZ HZ Q IZ ⟨hσ, ht⟩ => ?_⟩
  refine wpAny_Call_Name_kw (thn ((pe_var (pos := p1) (i := i) hN hv hd hcd).run pinsZ sZ σZ HZ (fun v H1 => v = .ref f ∧ H1 = HZ) IZ ⟨.ref f, hσ, rfl, rfl⟩) fun u s1 ⟨v, H1, I1, r1, ev, eH⟩ => ?_)
  subst ev eH
  obtain rfl : u = Value.ref f := r1
  have at_ : ∀ {pinsY : List (Addr × Obj)} {σY : L2.St} {HY : Hp} {sY : Shared}, Inv (gcx X Ng qg sg g cdg s H) pinsY σY HY sY → sY.heap.get? f = some (lobj X params body scope pm cc ctv) := fun J => J.base.keep f _ hf hfn hfr (fun z => nomatch (show f ∈ ([] : List Addr) from z))
  refine PySem.W.callWith_F (first := []) ⟨_, _, _, _, at_ I1⟩ (thn ((pa_cons harg pa_nil hs).run p2 pinsZ s1 σZ _ (one1 fun v H2 => H2 cc = some (CodeO cc (X.env.qual ++ "<lambda>")) ∧ tb (σ.set j (some v)) H2 Q) I1 ht) fun us s2 ⟨vs, H2, I2, r0, h0⟩ => ⟨⟨_, _, _, _, at_ I2⟩, ?_⟩) hs rfl
  obtain ⟨v, ev, hc, hq⟩ := one1_of h0
  subst ev
  obtain ⟨u, rfl, r⟩ := vals1 r0
  show wpAny _ _ (call (.ref f) [u]) _ _ _
  have un : Un (frs X.stack) [] H H2 s.heap s2.heap := I2.base
  obtain ⟨⟨oc, vs, t, hoc, hdc, hvc⟩, _, _⟩ := I2.hok cc _ hc
  have of2 := at_ I2
  have rc : codeAny (model X.prog X.w) (X.A.deeper (envOfC qg sg s.heap.objs.size g cdg)) (.call (.ref f) ⟨[u], []⟩) (CR (L2.CX X.prog X.w) (envOfC qg sg s.heap.objs.size g cdg :: X.stack) X.prog X.w H2 s2 Q C8.E0) s2 := by
    refine PySem.W.kla_callFunE hr.depth of2 rfl L.co L.gen rfl ⟨cc, oc, vs, t, rfl, hoc, hdc, hvc⟩ ?_
    rw [hbind]
    refine wpAny_pure (wpAny_newFunctionEnv L.nocell (fun y hy => ?_) (fun h₁ hns hsb => ⟨I2.nolimit.fresh _ hsb, ?_⟩) L.kind)
    · have e : y = (n, u) := by simpa using hy
      subst e
      exact L.par
    show codeAny _ _ (.expr body (lamEnv X scope s2.heap.objs.size f cc)) _ _
    have kp : ∀ b o, s2.heap.get? b = some o → h₁.get? b = some o := fun b o e => hsb.extBut b o (Nat.ne_of_lt (Heap.lt_size e)) (Heap.get?_push_of_some _ e)
    have J := start1 (tk := s2.toks + [(n, u)].length) (f := f) (cc := cc) I L hnd hj I2.env0 hr.hd un r hns kp
    refine PySem.W.kla_codeExpr (wpAny_mono ((hbody _ _ s2 H2 (hr.deeper _)).run [] _ _ H2 Q J hq) (fun v s' ⟨w', H', J', rv, q⟩ => ?_) fun e s' hq => hq)
    exact ⟨w', H', J'.os, J'.bare, J'.base, J'.hok, rv, q⟩
  refine wpAny_call (codeAny_mono rc fun r s' hq => ?_)
  cases r with
  | error e =>
    obtain ⟨_, _, _, _, _, _, _, _, _, _, _, _, z⟩ := hq
    exact z.elim
  | ok fl => cases fl with
    | ret u => exact I2.after hq
    | next => exact False.elim hq
    | brk => exact False.elim hq
    | cont => exact False.elim hq
/-- x(e1, e2, lambda n: body) -/
def tLam3 (P : Addr) (q : Str) (j : Nat) (Ng : List Str) (tB : Addr → Addr → (V → Hp → VK → Prop) → TS) (t1 t2 t : TE) : TE := fun σ H Q => t1 σ H fun v1 H1 => t2 σ H1 fun v2 H2 => TabS H2 P q ∧ ∀ f cc H3, (∀ b o, b ≠ P → H2 b = some o → H3 b = some o) → TabS H3 P q → H3 cc = some (CodeO cc q) →
  tB f cc (fun v H' Q' => t (σ.set j (some v)) H' Q') { nx := fun _ H' => Q .non H', rt := Q } (L2.start Ng [v1, v2, .ref f]) H3
end
section
variable {X : Cx}
theorem pe_lam3 {x a n : Str} {g c P : Addr} {k j : Nat} {pg : Arguments} {bg : List Stmt} {sg : Scope} {dV kV doc pm cdv ct oc : Value} {an od : Option Addr} {osl : Array (Option Value)} {Ng : List Str} {b1 b2 : Str}
    {params : Arguments} {e1 e2 body : Expr} {scope : Scope} {tB : Addr → Addr → (V → Hp → VK → Prop) → TS} {t1 t2 t : TE} {p lpos pos : Pos} (hg : Gl X x) (hm : X.mg x = some (.ref g)) (hk : PySem.W.keepIn X.K (.ref g) = true)
    (lk : X.K.lookup g = some ⟨oc, od, .func (PySem.W.fnOf x x pg bg sg dV kV doc pm an cdv ct), osl⟩) (hcg : PySem.W.codeIn X.K cdv x = true) (hb : L2.Binds X.K (PySem.W.fnOf x x pg bg sg dV kV doc pm an cdv ct) [b1, b2, a] []) (Sg : FnScope Ng [b1, b2, a] sg) (hNg : Ng[2]? = some a) (hva : Vis sg a)
    (hG : ∀ (f cc : Addr) (s : Shared) (H : Hp) (tl : V → Hp → VK → Prop), Room (k + 1) (X.A.deeper (envOfC x sg s.heap.objs.size g cdv)) →
      (∀ (p1 p2 : Pos) (earg : Expr) (ta : TE), PE (gcx X Ng x sg g cdv s H) earg ta → starEach [earg] (gcx X Ng x sg g cdv s H).env = (false, eval earg (gcx X Ng x sg g cdv s H).env) :: starEach [] (gcx X Ng x sg g cdv s H).env → PE (gcx X Ng x sg g cdv s H) (.Call (.Name a p1) [earg] [] p2) (tAct 2 f cc (X.env.qual ++ "<lambda>") tl ta)) →
      PSs (gcx X Ng x sg g cdv s H) bg (tB f cc tl))
    (TB : TabB X.base X.mg c P) (hcode : X.env.code = .ref c) (hr : Room (k + 2) X.A) (L : One X.env.scope scope n) (hnd : X.N.Nodup) (hj : X.N[j]? = some n) (hdef : defaultsOf params X.env = ([], []))
    (hbind : ∀ (q : Str) (cl : List (Str × Addr)) (pm cv ctv u : Value), bindArgs (PySem.W.kla_fn "<lambda>" q params body scope cl pm cv ctv) ⟨[u], []⟩ = pure [(n, u)])
    (h1 : PE X e1 t1) (h2 : PE X e2 t2)
    (hbody : ∀ (A : Around) (outer : List Env) (s : Shared) (H : Hp) (f cc : Addr), Room k (A.deeper (lamEnv X scope s.heap.objs.size f cc)) → PE (lamCx X A outer s H C8.E0 scope f cc) body t)
    (hs1 : starEach [e1, e2, .Lambda params body scope lpos] X.env = (false, eval e1 X.env) :: starEach [e2, .Lambda params body scope lpos] X.env := by rfl) (hs2 : starEach [e2, .Lambda params body scope lpos] X.env = (false, eval e2 X.env) :: starEach [.Lambda params body scope lpos] X.env := by rfl)
    (hpl : (backTo pos (starEach [e2, .Lambda params body scope lpos] X.env)).any (·.1) = false := by rfl)
    (hdb : (x == ("__debug__" : Str)) = false := by decide) (hd : (a == ("__debug__" : Str)) = false := by decide) (hcd : (a == ("__classdict__" : Str)) = false := by decide) :
    PE X (.Call (.Name x p) [e1, e2, .Lambda params body scope lpos] [] pos) (tLam3 P (X.env.qual ++ "<lambda>") j Ng tB t1 t2 t) := by
  refine ⟨fun pins s σ H Q I h => ?_⟩
  refine wpAny_Call_Name_kw (ld_glob I hg hm ?_ hdb)
  refine PySem.W.callWith_K I.ok.mod.kin hk ?_ hs1 hpl
  rw [hs1]
  show wpAny _ _ (spliced ((false, eval e1 X.env) :: backTo pos (starEach [e2, .Lambda params body scope lpos] X.env))) _ _ s
  refine Calls.spliced_cons (thn (h1.run pins s σ H _ I h) fun u1 s1 ⟨v1, H1, I1, r1, q1⟩ => ?_)
  rw [hs2]
  show wpAny _ _ (spliced ((false, eval e2 X.env) :: (false, eval (.Lambda params body scope lpos) X.env) :: [])) _ _ s1
  refine Calls.spliced_cons (thn (h2.run pins s1 σ H1 _ I1 q1) fun u2 s2 ⟨v2, H2, I2, r2, hT, q2⟩ => ?_)
  refine Calls.spliced_cons (make1 I2 TB hcode hT hdef (L.has I.ok) fun f cc pm' ctv H3 s3 I3 eN T3 hf hfn hfr hco => ?_)
  refine Calls.spliced_nil ⟨I3.kIn, ?_⟩
  have rc : codeAny (model X.prog X.w) X.A (.call (.ref g) ⟨[u1, u2, .ref f], []⟩) (CR C8.CX0 X.stack X.prog X.w H3 s3 Q C8.E0) s3 := by
    refine run_ofS (N := Ng) (us := [u1, u2, .ref f]) (vs := [v1, v2, .ref f]) lk hcg Sg hr I3.env0 (hb s3 [u1, u2, .ref f] I3.kIn rfl) (.cons r1 (.cons r2 (.cons rfl .nil))) rfl fun hr' => ?_
    refine ⟨_, (hG f cc s3 H3 (fun v H' Q' => t (σ.set j (some v)) H' Q') hr' fun p1 p2 earg ta hp hst => act1 I3 L hnd hj hf hfn hfr (fun u => hbind _ _ _ _ _ u) hr' (fun A outer s H hr2 => hbody A outer s H f cc hr2) hNg hva hp hst hd hcd).nox, q2 f cc H3 eN T3 hco⟩
  refine wpAny_call (codeAny_mono rc fun r s' hq => ?_)
  cases r with
  | error e => exact (show False from hq).elim
  | ok fl => cases fl with
    | ret u => exact I3.after hq
    | next => exact False.elim hq
    | brk => exact False.elim hq
    | cont => exact False.elim hq
end
end TPL
end
section
set_option maxHeartbeats 400000
namespace TPE
open PySem PySem.Spec PyProof.Rows L2 TPI TPZ RT
local macro_rules | `(tactic| walk_at "go") => `(tactic| (try dsimp only [cxK, cxKB, cxK2]); (try dsimp [Gam]); (try simp only [List.map_cons, List.map_nil, List.cons_append, List.nil_append]))
local macro_rules | `(tactic| walk_at "ev") => `(tactic| first
  | ((with_reducible apply ev_var); exact rfl)
  | with_reducible exact ev_int
  | with_reducible exact ev_str
  | with_reducible exact ev_bl
  | with_reducible exact ev_non
  | with_reducible exact ev_c
  | ((with_reducible apply el_i) <;> walk_at "ev")
  | ((with_reducible apply el_b) <;> walk_at "ev")
  | ((with_reducible apply el_eqI); (walk_at "ev"); (walk_at "ev"))
  | ((with_reducible apply el_neI); (walk_at "ev"); (walk_at "ev"))
  | ((with_reducible apply el_eqS); (walk_at "ev"); (walk_at "ev"))
  | ((with_reducible apply el_neS); (walk_at "ev"); (walk_at "ev"))
  | ((with_reducible apply ev_notV) <;> walk_at "ev")
  | ((with_reducible apply el_isi); (walk_at "ev"); exact rfl)
  | ((with_reducible apply el_len) <;> walk_at "ej")
  | (((with_reducible apply ev_aT); (walk_at "ev")))
  | (((with_reducible apply ev_aL); (walk_at "ev")))
  | (((with_reducible apply ev_aP); (walk_at "ev")))
  | (((with_reducible apply ev_pl); (walk_at "ev"))))
local macro_rules | `(tactic| walk_at "ej") => `(tactic| first
  | ((with_reducible apply ev_own); exact rfl)
  | ((with_reducible apply EvJ.q_s); walk_at "ev")
  | ((with_reducible apply EvJ.q_l); walk_at "ev")
  | ((with_reducible apply EvJ.q_t); walk_at "ev")
  | ((with_reducible apply evj); walk_at "ev"))
local macro_rules | `(tactic| walk_at "ea") => `(tactic| first
  | with_reducible exact eva_nil
  | ((with_reducible apply eva_cons); (walk_at "ev"); (walk_at "ea")))
local macro_rules | `(tactic| walk_at "et") => `(tactic| first
  | ((with_reducible apply evt_or); (walk_at "et"); (intro _; walk_at "et"))
  | ((with_reducible apply evt_and); (walk_at "et"); (intro _; walk_at "et"))
  | ((with_reducible apply evt_not); (walk_at "et"))
  | ((with_reducible apply evt_test); (walk_at "ev"))
  | ((with_reducible apply evt_tB); (walk_at "ev")))
local macro_rules | `(tactic| walk_at "le") => `(tactic| ((try simp only [List.set_cons_zero, List.set_cons_succ]); repeat' (first | exact Le.nil | (with_reducible apply Le.un) | (apply Le.eq rfl) | apply Le.eq)))
/-! ### a lambda's value -/
def cloP (F0 : Hp) (f : Addr) : Pd := ⟨fun F v => v = .ref f ∧ Same F0 F, fun e ⟨a, b⟩ => ⟨a, b.trans e⟩⟩
section
variable [Tb] {K : PySem.W.Frag} {Γ : List Slt} {t t1 t2 te : TE} {d1 d2 : Pd} {b : Nat → Bool} {C : Nat → Prop}
/-- what a reading of the lambda's call gives, where F0 stands -/
def CloOk (K : PySem.W.Frag) (C : Nat → Prop) (b : Nat → Bool) (F0 : Hp) (tl : V → Hp → VK → Prop) : Prop :=
  ∀ n, C n → ∀ (O1 : Addr → Prop) (H1 : Hp), Same F0 (wo H1 O1) → (∀ s, Mu none s → SrcOk none H1 s ∧ O1 s) → (∀ a, O1 a → H1 a ≠ none) → ∀ Q : VK, (∀ v O2 H2, Stp none O1 H1 O2 H2 → (dP K (.bool (b n))).hold (wo H2 O2) v → Q v H2) → tl (.int (n : Nat)) H1 Q
theorem ev_clo {f cc : Addr} {tl : V → Hp → VK → Prop} {F0 : Hp} {n : Nat} (h : Γ[2]? = some (.val (cloP F0 f))) (hc : F0 cc = some (LamX.CodeO cc tq)) (htl : CloOk K C b F0 tl) (hn : C n) (he : Ev none te Γ (dP K (nI n))) : Ev none (TPL.tAct 2 f cc tq tl te) Γ (dP K (.bool (b n))) := fun B O0 O σ H E Q q => by
  obtain ⟨v, h1, h2, h3⟩ := E.val 2 _ h
  subst h2
  refine ⟨h1, he B O0 O σ H E _ fun v O1 H1 s hv => ?_⟩
  have hv : Dp K (wo H1 O1) v (nI n) := hv
  cases hv
  have E1 := E.step s
  exact ⟨(wo_some ((h3.trans s.same) _ _ hc)).2, htl n hn O1 H1 (h3.trans s.same) (fun x e => ⟨(E1.src x e).1, (E1.srcO x e).1⟩) s.live _ fun v O2 H2 s2 hv2 => q v O2 H2 (s.trans s2) hv2⟩
theorem dp_hide {H : Hp} {O : Addr → Prop} {c : Addr} {q : Str} {v : V} {ns : List Nat} (hc : H c = some (LamX.CodeO c q)) (h : Dp K (wo H fun a => O a ∧ a ≠ c) v (.list (LN ns))) : Dp K (wo H O) v (.list (LN ns)) := by
  cases h with
  | @lst a vs _ h1 h2 =>
    have e := dpAll_ints (ns := ZN ns) h2
    subst e
    have key : ∀ {o : HO}, (∀ φ, o ≠ .ext φ) → wo H (fun a => O a ∧ a ≠ c) a = some o → wo H O a = some o := fun {o} hne h => by
      obtain ⟨g1, g2⟩ := wo_some h
      rw [wo_out]
      · exact g2
      · intro z
        refine g1 ⟨z, fun e => ?_⟩
        subst e
        rw [hc] at g2
        exact hne _ (Option.some.inj g2).symm
    refine .lst ?_ (ints_dpAll (ns := ZN ns))
    rcases h1 with (h | ⟨o, h⟩) | h
    · exact .inl (.inl (key (fun _ => (nomatch ·)) h))
    · exact .inl (.inr ⟨o, key (fun _ => (nomatch ·)) h⟩)
    · exact .inr h
theorem ev_lam3 {j : Nat} {Ng : List Str} {ns : List Nat} {tB : Addr → Addr → (V → Hp → VK → Prop) → TS} (hΓ : ∀ (i : Nat) (S : OP), Γ[i]? ≠ some (.own S)) (h1 : Ev none t1 Γ d1) (h2 : Ev none t2 Γ d2) (hj : j < Γ.length) (hl : 3 ≤ Ng.length)
    (hbody : ∀ n, C n → Ev none t (Γ.set j (.val (dP K (nI n)))) (dP K (.bool (b n))))
    (hD : ∀ (f cc : Addr) (F0 : Hp) (tl : V → Hp → VK → Prop), F0 cc = some (LamX.CodeO cc tq) → CloOk K C b F0 tl → Ds none (tB f cc tl) (Gam Ng [d1, d2, cloP F0 f]) (PoR (dP K (.list (LN ns))))) :
    Ev none (TPL.tLam3 Tb.P tq j Ng tB t1 t2 t) Γ (dP K (.list (LN ns))) := fun B O0 O σ H E Q q => by
  refine h1 B O0 O σ H E _ fun v1 O1 H1 s1 hv1 => h2 B O0 O1 σ H1 (E.step s1) _ fun v2 O2 H2 s2 hv2 => ?_
  have E2 := (E.step s1).step s2
  refine ⟨(E2.src Tb.P (.inr rfl)).1.tab rfl, fun f cc H3 keep T3 hco => ?_⟩
  have rl : Rl none H2 H3 := ⟨fun a o hM h => keep a o (fun e => hM (.inr e)) h, fun s hs h => ⟨fun z => (nomatch z), fun _ => T3⟩⟩
  have s3 : Stp none O2 H2 O2 H3 := .of_rl E2 rl
  have E3 := E2.step s3
  have hP : cc ≠ Tb.P := fun e => by
    obtain ⟨ps, g, _⟩ := T3
    rw [← e, hco] at g
    exact LamX.codeO_ne ps (Option.some.inj g)
  have sm : Same (wo H3 O2) (wo H3 fun a => O2 a ∧ a ≠ cc) := wo_same fun a o g1 g2 => ⟨fun z => g1 z.1, g2⟩
  have hM : ∀ x, Mu none x → SrcOk none H3 x ∧ (O2 x ∧ x ≠ cc) := fun x e => ⟨(E3.src x e).1, (E3.srcO x e).1, fun z => hP (by rw [← z]; exact e.elim (fun z => nomatch z) id)⟩
  have hs : Hs (wo H3 fun a => O2 a ∧ a ≠ cc) [d1, d2, cloP (wo H3 fun a => O2 a ∧ a ≠ cc) f] [v1, v2, .ref f] :=
    .cons (d1.mono sm (d1.mono s3.same (d1.mono s2.same hv1))) (.cons (d2.mono sm (d2.mono s3.same hv2)) (.cons ⟨rfl, .refl _⟩ .nil))
  have Es : Sta none H3 (fun a => O2 a ∧ a ≠ cc) (fun a => O2 a ∧ a ≠ cc) (Gam Ng [d1, d2, cloP (wo H3 fun a => O2 a ∧ a ≠ cc) f]) (L2.start Ng [v1, v2, .ref f]) H3 :=
    ⟨by unfold Gam L2.start; simp, fun a o _ h => h, hM, fun a h => h, fun a h => E3.live a h.1, fun a h => .inl h, fun i d e => Gam.get hs e, fun _ => [], fun i S e => (Gam.noown e).elim, fun i j S S' _ e => (Gam.noown e).elim⟩
  refine hD f cc (wo H3 fun a => O2 a ∧ a ≠ cc) _ (by rw [wo_out fun z => z.2 rfl]; exact hco) (fun n hn O4 H4 same src live Q' k => ?_) H3 _ _ _ H3 Es _ ⟨fun Γ' σ' H' O' hx E' => ?_, fun d v H' hx g1 g2 g3 => ?_, fun _ _ _ _ z => z.elim, fun _ _ _ _ z => z.elim⟩
  · have Ez : Sta none H4 O4 O4 (Γ.set j (.val (dP K (nI n)))) (σ.set j (some (.int (n : Nat)))) H4 := by
      refine ⟨by simp [E3.len], fun a o _ h => h, src, fun a h => h, live, fun a h => .inl h, fun i d e => ?_, fun _ => [], fun i S e => ?_, fun i l S S' _ e => ?_⟩
      · by_cases hij : j = i
        · subst hij
          rw [List.getElem?_set_self hj] at e
          cases e
          exact ⟨_, List.getElem?_set_self (by rw [E3.len]; exact hj), .int _⟩
        · rw [List.getElem?_set_ne hij] at e ⊢
          obtain ⟨v, a1, a2⟩ := E3.val i d e
          exact ⟨v, a1, d.mono (sm.trans same) a2⟩
      all_goals
        by_cases hij : j = i
        · subst hij
          rw [List.getElem?_set_self hj] at e
          cases e
        · rw [List.getElem?_set_ne hij] at e
          exact absurd e (hΓ _ _)
    exact hbody n hn H4 O4 O4 _ H4 Ez Q' k
  · have z : Dp K (wo H' O') .non (.list (LN ns)) := hx _
    cases z
  · have r : Rl none H3 H' := ⟨g1, fun s e _ => g2 s e⟩
    have hc' : H' cc = some (LamX.CodeO cc tq) := g1 cc _ (fun m => m.elim (fun z => nomatch z) hP) hco
    exact q v O2 H' ((s1.trans s2).trans (s3.trans (.of_rl E3 r))) (dp_hide hc' (hx _ _ g3))
end
/-- the kinds up to the first prefix that must not be passed over -/
def harmF (c : List Nat) (b : Nat → Bool) : List Nat → Nat → List Nat → List Nat
  | [], _, f => f
  | x :: r, t, f => if 0 < t + c.getD x 0 ∧ b (t + c.getD x 0) = false then f ++ [x].filter (fun x => decide (0 < c.getD x 0)) else harmF c b r (t + c.getD x 0) (f ++ [x].filter fun x => decide (0 < c.getD x 0))
abbrev NH : List Str := ["counts", "ranking", "is_passed", "found", "kind", "total"]
def tHarm [Tb] (K : PySem.W.Frag) (f cc : Addr) (tl : V → Hp → VK → Prop) : TS :=
  tSeq (tAsg (tLst tNil) (gName 3))
    (tSeq (tFor (iZ K true (aSrc2 K true (tCons (tVar 1) (tCons (tCall (SpF (gPS K)) [] E0 (tCons (tVar 0) (tCons (tVar 1) tNil))) tNil)))) (gTup K 2 (gCons (gName 4) (gCons (gName 5) gNil)))
      (tSeq (tIfS (tTest (tOp (rI0 fun i j => V.bl (decide (j < i))) (tOp (rIx K) (tVar 0) (tVar 4)) (tC (V.int 0)))) (tDrop (tBM K "list" rAppend (tVar 3) (tCons (tVar 4) tNil))) tNext)
        (tIfS (tAnd (tTest (tOp (rI0 fun i j => V.bl (decide (j < i))) (tVar 5) (tC (V.int 0)))) (tNot (tB (TPL.tAct 2 f cc tq tl (tVar 5))))) (tRet (tVar 3)) tNext)))
      (tRet (tVar 3)))
section
variable {P : Program} {w : World} {K : PySem.W.Frag} {mg : Str → Option Value} {base : Heap} {pA oA C : Addr}
theorem sc_harm : FnScope NH ["counts", "ranking", "is_passed"] (defScope (top 58)) := ⟨rfl, rfl, rfl, by decide +kernel, rfl, by decide +kernel, by decide +kernel⟩
theorem ps_harm [Tb] {X : Cx} (B : Bi X.K X.mg pA oA) (O_prefix_sums : Okd X.prog X.w X.K X.mg X.base 1 "prefix_sums" ["counts", "ranking"] (gPS X.K)) {g : Addr} {cdv : Value} {s : Shared} {H : Hp} (hr : Room 2 (X.A.deeper (envOfC "harmless_picks" (defScope (top 58)) s.heap.objs.size g cdv))) {f cc : Addr} {tl : V → Hp → VK → Prop}
    (hact : ∀ (p1 p2 : Pos) (earg : Expr) (ta : TE), PE (TPL.gcx X NH "harmless_picks" (defScope (top 58)) g cdv s H) earg ta → starEach [earg] (TPL.gcx X NH "harmless_picks" (defScope (top 58)) g cdv s H).env = (false, eval earg (TPL.gcx X NH "harmless_picks" (defScope (top 58)) g cdv s H).env) :: starEach [] (TPL.gcx X NH "harmless_picks" (defScope (top 58)) g cdv s H).env →
      PE (TPL.gcx X NH "harmless_picks" (defScope (top 58)) g cdv s H) (.Call (.Name "is_passed" p1) [earg] [] p2) (TPL.tAct 2 f cc tq tl ta)) : PSs (TPL.gcx X NH "harmless_picks" (defScope (top 58)) g cdv s H) (defBody (top 58)) (tHarm X.K f cc tl) :=
  (pss_cons (ps_set (i := 3) sc_harm.nd rfl (by first | exact Or.inl rfl | exact Or.inr rfl) (pe_lst pa_nil))     (pss_cons (ps_for PassesOwn.never rfl (pi_zipZ (pz_zipS rfl B.zip (pa_cons (pv 1) (pa_cons (pe_callO O_prefix_sums (hr.mono (by decide)) rfl (pa_cons (pv 0) (pa_cons (pv 1) pa_nil))) pa_nil)))) (pg_tup rfl (pgs_cons (pg_name (i := 4) sc_harm.nd rfl (by first | exact Or.inl rfl | exact Or.inr rfl)) (pgs_cons (pg_name (i := 5) sc_harm.nd rfl (by first | exact Or.inl rfl | exact Or.inr rfl)) pgs_nil)))     (pss_cons (ps_if (pt_cmpR op_gt (pe_ix ix_seq (pv 0) (pv 4) (fun _ _ => rfl)) pe_int (nomark _))     (pss_one (ps_expr (pe_bm PySem.F.plainAttrs_list PySem.F.slot_list_append PySem.F.type_list_append mt_append (pv 3) (pa_cons (pv 4) pa_nil))))     pss_nil)     (pss_one (ps_if (PW.pt (pw_and (pt_cmpR op_gt (pv 5) pe_int (nomark _)) (pw_and1 (pt_not (pt_val (hact _ _ _ _ (pv 5) rfl))))))     (pss_one (ps_ret (pv 3)))     pss_nil))))     (pss_one (ps_ret (pv 3)))))
theorem ds_harm [Tb] {c r : List Nat} {b : Nat → Bool} (hr : ∀ x ∈ r, x < c.length) (hz : r.length ≤ 60) {f cc : Addr} {F0 : Hp} {tl : V → Hp → VK → Prop} (hc : F0 cc = some (LamX.CodeO cc tq)) (htl : CloOk K (fun _ => True) b F0 tl) :
    Ds none (tHarm K f cc tl) (Gam NH [dP K (.tuple (LN c)), dP K (.tuple (LN r)), cloP F0 f]) (PoR (dP K (.list (LN (harmF c b r 0 []))))) := by
  unfold tHarm
  walk_at "go"
  refine dq_set (c := .own (ownL K (LN []))) (evc_lst (ds := []) eva_nil (Nat.zero_le _)) ?_
  simp only [List.set_cons_zero, List.set_cons_succ]
  refine dq_forL (evi_zip (K := K) (ds1 := LN r) (ds2 := LN (psums c r)) (d1 := dP K (.tuple (LN r))) (d2 := dP K (.list (LN (psums c r)))) (eva_cons (by walk_at "ev") (eva_cons (ev_call (by walk_at "ea") (gPS.mk c r hr hz) (.inl rfl)) eva_nil)) itd_t itd_l (fun _ => by simp [LN_length, psums_length])) (fun i => harmF c b r 0 [] = harmF c b (r.drop i) (PSm c r i) ((r.take i).filter fun x => decide (0 < c.getD x 0))) (fun i => [.val (dP K (.tuple (LN c))), .val (dP K (.tuple (LN r))), .val (cloP F0 f), .own (ownL K (LN ((r.take i).filter fun x => decide (0 < c.getD x 0)))), .un, .un]) ⟨by simp [PSm], by walk_at "le"⟩ (fun i hi hF => ?_) (fun hF => ?_)
  · have hi' : i < r.length := by simp [LN_length, psums_length] at hi; omega
    rw [LN_getD hi', getD_of hi', LN_getD (by rw [psums_length]; omega), psums_getD hi', PSm_succ hi', getD_of hi']
    have htk : r.take (i + 1) = r.take i ++ [r[i]] := by rw [List.take_add_one, List.getElem?_eq_getElem hi']; rfl
    have hdr := List.drop_eq_getElem_cons hi'
    have hPS := PSm_succ (c := c) hi'
    rw [getD_of hi'] at hPS
    have hfl : ((r.take i).filter fun x => decide (0 < c.getD x 0)).length ≤ 60 := by
      have a1 := List.length_filter_le (fun x => decide (0 < c.getD x 0)) (r.take i)
      rw [List.length_take] at a1
      omega
    rw [hdr] at hF
    rw [htk, List.filter_append]
    have hx := hr _ (List.getElem_mem hi')
    generalize (r.take i).filter (fun x => decide (0 < c.getD x 0)) = L at *
    generalize r[i] = x at *
    generalize PSm c r i = T at *
    clear hPS htk hdr
    refine ⟨_, _, gt2, ?_⟩
    simp only [List.set_cons_zero, List.set_cons_succ]
    have next : ∀ L', L' = L ++ [x].filter (fun x => decide (0 < c.getD x 0)) → L'.length ≤ 61 → Ds none (tIfS (tAnd (tTest (tOp (rI0 fun i j => V.bl (decide (j < i))) (tVar 5) (tC (V.int 0)))) (tNot (tB (TPL.tAct 2 f cc tq tl (tVar 5))))) (tRet (tVar 3)) tNext)
        [.val (dP K (.tuple (LN c))), .val (dP K (.tuple (LN r))), .val (cloP F0 f), .own (ownL K (LN L')), .val (dP K (nI x)), .val (dP K (nI (T + c.getD x 0)))] { nx := fun Γ' => harmF c b r 0 [] = harmF c b (r.drop (i + 1)) (T + c.getD x 0) (L ++ [x].filter fun x => decide (0 < c.getD x 0)) ∧ Le Γ' [.val (dP K (.tuple (LN c))), .val (dP K (.tuple (LN r))), .val (cloP F0 f), .own (ownL K (LN (L ++ [x].filter fun x => decide (0 < c.getD x 0)))), .un, .un], rt := (PoR (dP K (.list (LN (harmF c b r 0 []))))).rt, bk := fun Γ' => Ds none (tRet (tVar 3)) Γ' (PoR (dP K (.list (LN (harmF c b r 0 []))))), ct := fun Γ' => harmF c b r 0 [] = harmF c b (r.drop (i + 1)) (T + c.getD x 0) (L ++ [x].filter fun x => decide (0 < c.getD x 0)) ∧ Le Γ' [.val (dP K (.tuple (LN c))), .val (dP K (.tuple (LN r))), .val (cloP F0 f), .own (ownL K (LN (L ++ [x].filter fun x => decide (0 < c.getD x 0)))), .un, .un] } := fun L' hL' hl => by
      subst hL'
      refine ds_ifB (b := decide ((0 : Int) < ((T + c.getD x 0 : Nat) : Int)) && !b (T + c.getD x 0)) (evt_and (evt_test (K := K) (by walk_at "ev")) fun _ => evt_not (evt_tB (K := K) (ev_clo (C := fun _ => True) rfl hc htl trivial (by walk_at "ev")))) (fun hb => ?_) (fun hb => ds_next ⟨?_, by walk_at "le"⟩)
      · have h2 : 0 < T + c.getD x 0 ∧ b (T + c.getD x 0) = false := by
          rw [Bool.and_eq_true] at hb
          refine ⟨?_, by simpa using hb.2⟩
          have := of_decide_eq_true hb.1
          omega
        refine ds_frz 3 (K := K) (ds := LN (L ++ [x].filter fun x => decide (0 < c.getD x 0))) rfl ?_
        rw [hF]
        unfold harmF
        rw [if_pos h2]
        exact ds_retR (by walk_at "ev")
      · have h2 : ¬ (0 < T + c.getD x 0 ∧ b (T + c.getD x 0) = false) := fun z => by
          rw [z.2, decide_eq_true (by omega)] at hb
          cases hb
        rw [hF]
        conv => lhs; unfold harmF
        rw [if_neg h2]
    refine ds_seq (ds_ifB (b := decide ((0 : Int) < (c.getD x 0 : Nat))) (evt_test (K := K) (el_b (el_ixN (sk := .t) (by walk_at "ej") (by walk_at "ev") hx) (by walk_at "ev"))) (fun h0 => ?_) fun h0 => ds_next ?_)
    · have h0 : 0 < c.getD x 0 := by have := of_decide_eq_true h0; omega
      refine ds_append (K := K) (ds := LN L) (x := nI x) rfl (by walk_at "ev") (by rw [LN_length]; exact small1000 (by omega)) ?_
      simp only [List.set_cons_zero, List.set_cons_succ]
      have e : LN L ++ [nI x] = LN (L ++ [x]) := by rw [LN_append]; rfl
      rw [e]
      exact next (L ++ [x]) (by rw [fil_yes (q := fun x => decide (0 < c.getD x 0)) (decide_eq_true h0)]) (by simp; omega)
    · have h0 : ¬ 0 < c.getD x 0 := fun z => by have := of_decide_eq_false h0; omega
      exact next L (by rw [fil_no (q := fun x => decide (0 < c.getD x 0)) (decide_eq_false h0), List.append_nil]) (by omega)
  · have e : min (LN r).length (LN (psums c r)).length = r.length := by simp [LN_length, psums_length]
    rw [e] at hF ⊢
    rw [List.drop_eq_nil_of_le (Nat.le_refl _), List.take_of_length_le (Nat.le_refl _)] at hF
    rw [List.take_of_length_le (Nat.le_refl _)]
    refine ds_frz 3 (K := K) (ds := LN (r.filter fun x => decide (0 < c.getD x 0))) rfl ?_
    rw [hF]
    exact ds_retR (by walk_at "ev")
/-- the safe picks -/
def safeK (c r : List Nat) (w : List Bool) (p : Bool) : List Nat := harmF c (fun n => decide (cntw w p n < cntw w p (n + 1))) r 0 []
inductive gSafe (K : PySem.W.Frag) : Option Addr → List Pd → Pd → Prop
  | mk (c r : List Nat) (bs : List (List Bool × Nat)) (p : Bool) (u : List Bool) (hr : RkOk c.length r) (h : BlOk bs) (hl : (flat bs).length ≤ c.sum) (hw : flat bs = p :: u) : gSafe K none [dP K (.tuple (LN c)), dP K (.tuple (LN r)), sqA K (BD bs), dP K (pD p)] (dP K (.list (LN (safeK c r (flat bs) p))))
theorem sc_safe : FnScope ["counts", "ranking", "sequence", "player", "total"] ["counts", "ranking", "sequence", "player"] (defScope (top 59)) := ⟨rfl, rfl, rfl, by decide +kernel, rfl, by decide +kernel, by decide +kernel⟩
/-- a def of the top, with its code object's table -/
def FunT [Tb] (K : PySem.W.Frag) (mg : Str → Option Value) (base : Heap) (n x : Str) (st : Stmt) : Prop := ∃ f fd, FunD K x x (defArgs st) (defBody st) (defScope st) [] [] f fd ∧ mg n = some (.ref f) ∧ ∃ c, fd.code = .ref c ∧ LamX.TabB base mg c Tb.P
theorem w_safe [Tb] (B : Bi K mg pA oA) (D : FunT K mg base "safe_picks" "safe_picks" (top 59)) (DH : FunG K mg "harmless_picks" "harmless_picks" (top 58)) (O_prefix_sums : Okd P w K mg base 1 "prefix_sums" ["counts", "ranking"] (gPS K))
    (O_require_side : Okd P w K mg base 5 "require_side" ["counts", "ranking", "sequence", "player"] (gSide K)) (O_require_fits : Okd P w K mg base 2 "require_fits" ["counts", "sequence"] (gFits K)) (O_require_first : Okd P w K mg base 3 "require_first" ["sequence", "player", "is_own"] (gFirst K)) (O_has_turn : Okd P w K mg base 2 "has_turn" ["sequence", "player", "number"] (gHas K)) :
    Okd P w K mg base 6 "safe_picks" ["counts", "ranking", "sequence", "player"] (gSafe K) := by
  obtain ⟨f, fd, F, m, c0, hcd, TB⟩ := D
  obtain ⟨oc, od, dV, kV, doc, pm, an, cdv, ct, osl, rfl, lk, hcode, _, _⟩ := F.ex
  have hcd : cdv = .ref c0 := hcd
  subst hcd
  obtain ⟨g, gd, FH, mH⟩ := DH
  have bH := FH.bindsN (ps := ["counts", "ranking", "is_passed"]) (fun _ _ _ _ _ _ us hl => match us, hl with | [_, _, _], _ => rfl)
  obtain ⟨oc2, od2, dV2, kV2, doc2, pm2, an2, cdv2, ct2, osl2, rfl, lk2, hcode2, _, _⟩ := FH.ex
  refine ⟨f, _, fn_of lk hcode sc_safe (fun vs H Q E h => SpF.len (fun M ds d hg => by cases hg; rfl) h) (fun A outer s H vs Q E hr h => ⟨_, PSs.nox (pss_cons (ps_expr (pe_callO O_require_side (hr.mono (by decide)) rfl (pa_cons (pv 0) (pa_cons (pv 1) (pa_cons (pv 2) (pa_cons (pv 3) pa_nil))))))
    (pss_cons (ps_expr (pe_callO O_require_fits (hr.mono (by decide)) rfl (pa_cons (pv 0) (pa_cons (pv 2) pa_nil))))
    (pss_cons (ps_expr (pe_callO O_require_first (hr.mono (by decide)) rfl (pa_cons (pv 2) (pa_cons (pv 3) (pa_cons pe_bl pa_nil)))))
    (pss_one (ps_ret (TPL.pe_lam3 (k := 2) (j := 4) rfl mH FH.kp lk2 hcode2 bH sc_harm rfl (.inl rfl) (fun f cc s H tl hr' hact => ps_harm B O_prefix_sums (hr'.mono (by decide)) hact) TB rfl (hr.mono (by decide)) (TPL.one_of (by show TPL.oneB (defScope (top 59)) _ _ = true; decide +kernel)) sc_safe.nd rfl rfl (fun _ _ _ _ _ _ => rfl) (pv 0) (pv 1)
      (fun A outer s H f cc hr2 => pe_callO O_has_turn (hr2.mono (by decide)) rfl (pa_cons (pv 2) (pa_cons (pv 3) (pa_cons (pe_op op_add (pv 4) pe_int) pa_nil)))))))))), body_of (fun M ds d hg => ?_) h⟩), m, F.kp, F.bindsN (fun _ _ _ _ _ _ us hl => match us, hl with | [_, _, _, _], _ => rfl)⟩
  cases hg with
  | mk c r bs p u hR h hl hw =>
  refine ⟨by simp, ?_⟩
  walk_at "go"
  refine dq_drop (ev_call (by walk_at "ea") (gSide.mk c r bs p hR h) (.inl rfl)) ?_
  refine dq_drop (ev_call (by walk_at "ea") (gFits.mk c bs h hl) (.inl rfl)) ?_
  refine dq_drop (ev_call (by walk_at "ea") (gFirst.mk bs h p u hw) (.inl rfl)) ?_
  refine ds_retR (ev_lam3 (K := K) (C := fun _ => True) (b := fun n => decide (cntw (flat bs) p n < cntw (flat bs) p (n + 1))) (d1 := dP K (.tuple (LN c))) (d2 := dP K (.tuple (LN r))) (fun i S e => ?_) (by walk_at "ev") (by walk_at "ev") (by simp) (by simp) (fun n _ => ?_) fun f cc F0 tl hc htl => ?_)
  · match i, e with
    | 0, e => cases e
    | 1, e => cases e
    | 2, e => cases e
    | 3, e => cases e
    | 4, e => cases e
    | i + 5, e => cases e
  · simp only [List.set_cons_zero, List.set_cons_succ]
    exact ev_call (eva_cons (by walk_at "ev") (eva_cons (by walk_at "ev") (eva_cons (el_addN (b := 1) (by walk_at "ev") (ev_eq ev_int rfl)) eva_nil))) (gHas.mk bs h p n) (.inl rfl)
  · exact ds_harm (fun x hx => hR.lt hx) (by rw [hR.length]; exact hR.few) hc htl
end
end TPE
end
section
set_option maxHeartbeats 400000
namespace TPE
open PySem PySem.Spec PyProof.Rows L2 TPI TPZ RT
/-- an instance that is being made -/
def ownI (C x : Addr) (ps : List (Str × Pd)) : OP where
  hold fp F H v := fp = [x] ∧ v = .ref x ∧ ∃ dx fs, H x = some (.ins C dx fs) ∧ Fh F ps fs
  mono := by
    rintro fp F F' H H' v e k ⟨rfl, rfl, dx, fs, h1, h2⟩
    exact ⟨rfl, rfl, dx, fs, k x (by simp) _ h1, h2.same e⟩
theorem Pln.ins {H : Hp} {l C dx : Addr} {fs : List (Str × V)} (h : H l = some (.ins C dx fs)) : Pln H l := ⟨_, h, fun _ => (nomatch ·), fun _ => (nomatch ·)⟩
theorem Fh.put {F : Hp} {ps : List (Str × Pd)} {fs : List (Str × V)} (h : Fh F ps fs) {f : Str} {d : Pd} {y : V} (hn : ps.lookup f = Option.none) (hy : d.hold F y) : Fh F (ps ++ [(f, d)]) (putF f y fs) := by
  induction h with
  | nil => exact .cons ⟨rfl, hy⟩ .nil
  | @cons p q ps qs h t ih =>
    obtain ⟨a, d'⟩ := p
    obtain ⟨b, v'⟩ := q
    obtain ⟨h1, h2⟩ := h
    have h1 : a = b := h1
    subst h1
    rw [List.lookup_cons] at hn
    cases hq : (f == a) with
    | true => rw [hq] at hn; cases hn
    | false =>
      rw [hq] at hn
      have ne : ¬ a = f := fun e => by subst e; simp at hq
      show Fh F ((a, d') :: (ps ++ [(f, d)])) (if a = f then (a, y) :: qs else (a, v') :: putF f y qs)
      rw [if_neg ne]
      exact .cons ⟨rfl, h2⟩ (ih hn)
theorem Fh.length {F : Hp} {ps : List (Str × Pd)} {fs : List (Str × V)} (h : Fh F ps fs) : fs.length = ps.length := (Paired.length h).symm
/-- a target that may change the heap -/
def GtW [Tb] (M : Option Addr) (g : TG) (Γ : List Slt) (d : Pd) (Γ' : List Slt) : Prop :=
  ∀ B O0 O σ H x, Sta M B O0 O Γ σ H → d.hold (wo H O) x → ∀ Q : L2.St → Hp → Prop, (∀ σ' H', Sta M B O0 O Γ' σ' H' → Same (wo H O) (wo H' O) → Q σ' H') → g x σ H Q
def GtsW [Tb] (M : Option Addr) (g : TGs) (Γ : List Slt) (ds : List Pd) (Γ' : List Slt) : Prop :=
  ∀ B O0 O σ H xs, Sta M B O0 O Γ σ H → Hs (wo H O) ds xs → ∀ Q : L2.St → Hp → Prop, (∀ σ' H', Sta M B O0 O Γ' σ' H' → Same (wo H O) (wo H' O) → Q σ' H') → g xs σ H Q
section
variable [Tb] {M : Option Addr} {K : PySem.W.Frag} {Γ Γ' Γ'' : List Slt} {te : TE} {tr : TA} {d : Pd} {P : Po} {g : TG} {gs : TGs} {n : Nat} {C x : Addr} {f : Str} {ps : List (Str × Pd)} {ds : List Pd}
theorem gtsw_nil : GtsW M gNil Γ [] Γ := fun B O0 O σ H xs E hx Q q => by
  cases hx
  exact ⟨rfl, q σ H E (.refl _)⟩
theorem gtsw_cons (h : GtW M g Γ d Γ') (hr : GtsW M gs Γ' ds Γ'') : GtsW M (gCons g gs) Γ (d :: ds) Γ'' := fun B O0 O σ H xs E hx Q q => by
  cases hx with
  | cons h1 h2 => exact ⟨_, _, rfl, h B O0 O σ H _ E h1 _ fun σ' H' E' k => hr B O0 O σ' H' _ E' (Hs.same k h2) _ fun σ2 H2 E2 k2 => q σ2 H2 E2 (k.trans k2)⟩
theorem gtw_tup (hr : GtsW M gs Γ ds Γ') (hn : ds.length = n) : GtW M (gTup K n gs) Γ (tupP K ds) Γ' := fun B O0 O σ H x E hx Q q => by
  obtain ⟨a, xs, rfl, h1, h2⟩ := hx
  exact ⟨a, xs, rfl, sqT_same wo_sub h1, (Paired.length h2).symm.trans hn, hr B O0 O σ H xs E h2 _ q⟩
theorem ds_asgW (he : Ev M te Γ d) (hg : GtW M g Γ d Γ') (h : P.nx Γ') : Ds M (tAsg te g) Γ P := fun B O0 O σ H E D p =>
  he B O0 O σ H E _ fun v O1 H1 s hv => hg B O0 O1 σ H1 v (E.step s) hv _ fun σ' H' E' _ => p.nx _ _ H' O1 h E'
theorem gtw_fld {i : Nat} (c : Cls K C) (na : NoAttr K C f) (h : Γ[i]? = some (.own (ownI C x ps))) (hn : ps.lookup f = none) (hl : ps.length < 1000) : GtW M (gFld K (tVar i) f) Γ d (Γ.set i (.own (ownI C x (ps ++ [(f, d)])))) := fun B O0 O σ H y E hy Q q => by
  have hO : O x := by
    obtain ⟨fp, a1, _⟩ := E.own
    obtain ⟨⟨v, _, b4, _⟩, b8⟩ := a1 i _ h
    exact (b8 x (by rw [b4]; simp)).1
  obtain ⟨fp, v, h1, ⟨rfl, rfl, dx, fs, h2, h3⟩, h4⟩ := E.mutG (S' := ownI C x (ps ++ [(f, d)])) h
  refine ⟨_, h1, x, C, dx, fs, rfl, h2, c, na, by rw [h3.length]; exact hl, ?_⟩
  have sm : Same (wo H O) (wo (upd H x (.ins C dx (putF f y fs))) O) := wo_same fun a o g1 g2 => ⟨g1, by rw [upd_ne fun (e : a = x) => g1 (by rw [e]; exact hO)]; exact g2⟩
  exact q _ _ (h4 x _ (by simp) (.ins h2) fun F sF => ⟨rfl, rfl, dx, _, upd_same, (h3.put hn hy).same sF⟩) sm
/-- self.f of the instance that is being made -/
theorem el_fldO {i : Nat} (h : Γ[i]? = some (.own (ownI C x ps))) (c : Cls K C) (na : NoAttr K C f) (e : ps.lookup f = some d) : Ev M (tFld K (tVar i) f) Γ d := fun B O0 O σ H E Q q => by
  obtain ⟨fp, a1, _⟩ := E.own
  obtain ⟨⟨v, b1, b4, rfl, dx, fs, b5, b6⟩, b8⟩ := a1 i _ h
  obtain ⟨u, g1, g2⟩ := b6.get e
  exact ⟨_, b1, x, C, dx, fs, u, rfl, b5, c, na, g1, q u O H E.refl g2⟩
end
/-- the arguments of a record -/
abbrev Gm.as (K : PySem.W.Frag) (G : Gm) : List Pd := [dP K (.tuple (LN G.c)), lsP K G.r1 G.r2, dP K (.list (BD G.bs)), dP K (.list (LN G.ks))]
/-- __init__'s promise -/
def SpI [Tb] (K : PySem.W.Frag) (C : Addr) : Sp := fun vs H Q _ => ∃ (O : Addr → Prop) (x dx : Addr) (ws : List V) (G : Gm), G.Ok ∧ vs = .ref x :: ws ∧ H x = some (.ins C dx []) ∧ ¬ O x ∧ Hs (wo H fun a => O a ∨ a = x) (G.as K) ws ∧ (∀ a, O a → H a ≠ none) ∧ (∀ s, Mu none s → SrcOk none H s ∧ O s) ∧
  ∀ H' dx fs, (∀ a o, ¬ Mu none a → a ≠ x → H a = some o → H' a = some o) → (∀ s, Mu none s → SrcOk none H' s) → H' x = some (.ins C dx fs) → Fh (wo H' O) (G.fl K) fs → Q .non H'
section
variable [Tb] {M : Option Addr} {K : PySem.W.Frag} {Γ : List Slt} {tr : TA} {C : Addr} {G : Gm}
/-- Record(..) -/
theorem ev_make {E' : XK} (hG : G.Ok) (ha : EvA M tr Γ (G.as K)) : Ev M (tMake C (SpI K C) [] E' tr) Γ (recP C (G.fl K)) := fun B O0 O σ H E Q q => by
  refine ha B O0 O σ H E _ fun vs O1 H1 s hvs x dx hx hdx hne => ?_
  rw [List.append_nil]
  have E1 := E.step s
  have at_ : ∀ a o, H1 a = some o → upd (upd H1 dx (.own x)) x (.ins C dx []) a = some o := fun a o h => by
    rw [upd_ne (ne_of_none h hx), upd_ne (ne_of_none h hdx)]; exact h
  have nx : ¬ O1 x := fun z => s.live x z hx
  refine ⟨O1, x, dx, vs, G, hG, rfl, upd_same, nx, Hs.same (wo_same fun a o g1 g2 => ⟨fun z => z.elim g1 fun e => (by rw [e, hx] at g2; cases g2), at_ a o g2⟩) hvs, fun a h => ?_, fun y e => ⟨(E1.src y e.up).1.non.same fun a o h => at_ a o h, (E1.srcO y e.up).1⟩, fun H' dx' fs k1 k2 k3 k4 => ⟨rfl, ?_⟩⟩
  · cases z : H1 a with
    | none => exact absurd z (s.live a h)
    | some o => rw [at_ a o z]; exact fun z => nomatch z
  · have r : Rl none H1 H' := ⟨fun a o hM h => k1 a o hM (ne_of_none h hx) (at_ a o h), fun y e _ => k2 y e⟩
    exact q _ O1 H' (s.trans (.of_rl E1 (.up (fun y e => (E1.src y e).1) r))) ⟨x, dx', fs, rfl, by rw [wo_out nx]; exact k3, k4⟩
/-- the walk of __init__'s body -/
theorem body_ofI {N : List Str} {ts : TS} (hN : 5 ≤ N.length) (hb : ∀ (x : Addr) (G : Gm), G.Ok → Ds none ts (.own (ownI C x []) :: (G.as K).map Slt.val ++ List.replicate (N.length - 5) .un) { nx := fun Γ => Γ[0]? = some (.own (ownI C x (G.fl K))), rt := fun _ => False }) {vs : List V} {H : Hp} {Q : VK} {E : XK} (h : SpI K C vs H Q E) :
    ts { nx := fun _ H' => Q .non H', rt := Q } (L2.start N vs) H := by
  obtain ⟨O, x, dx, ws, G, hG, rfl, hx, nO, hs, live, src, q⟩ := h
  have hl : ws.length = 4 := (Paired.length hs).symm
  have hxP : x ≠ Tb.P := fun e => by
    obtain ⟨ps, g, _⟩ := (src Tb.P (.inr rfl)).1.tab rfl
    rw [← e, hx] at g; cases g
  have hMx : ∀ a, Mu none a → a ≠ x := fun a m e => m.elim (fun z => nomatch z) fun z => hxP (by rw [← e, z])
  have E0 : Sta none (fun a => if a = x then none else H a) O (fun a => O a ∨ a = x) (.own (ownI C x []) :: (G.as K).map Slt.val ++ List.replicate (N.length - 5) .un) (L2.start N (.ref x :: ws)) H := by
    refine ⟨by unfold L2.start; simp [hl]; omega, fun a o hM h => ?_, src, fun a h => .inl h, fun a h => ?_, fun a h => ?_, fun i d e => ?_, fun i => if i = 0 then [x] else [], fun i S e => ?_, fun i j S S' hij e e' => ?_⟩
    · by_cases z : a = x
      · rw [if_pos z] at h; cases h
      · rw [if_neg z] at h; exact h
    · rcases h with h | rfl
      · exact live a h
      · rw [hx]; exact fun z => nomatch z
    · exact h.imp_right fun e => if_pos e
    · cases i with
      | zero => simp at e
      | succ i =>
        have e2 : (Gam (N.drop 1) (G.as K))[i]? = some (.val d) := by
          unfold Gam
          have : N.length - 5 = (N.drop 1).length - (G.as K).length := by simp [Gm.as]; omega
          rw [← this]
          simpa using e
        obtain ⟨v, g1, g2⟩ := Gam.get hs e2
        refine ⟨v, ?_, g2⟩
        unfold L2.start at g1 ⊢
        have : N.length - (V.ref x :: ws).length = (N.drop 1).length - ws.length := by simp; omega
        rw [this]
        simpa using g1
    · cases i with
      | zero =>
        simp at e
        subst e
        refine ⟨⟨.ref x, by unfold L2.start; simp, rfl, rfl, dx, [], hx, .nil⟩, fun a ha => ?_⟩
        have : a = x := by simpa using ha
        subst this
        exact ⟨.inr rfl, nO⟩
      | succ i =>
        have e2 : (Gam (N.drop 1) (G.as K))[i]? = some (.own S) := by
          unfold Gam
          have : N.length - 5 = (N.drop 1).length - (G.as K).length := by simp [Gm.as]; omega
          rw [← this]
          simpa using e
        exact (Gam.noown e2).elim
    · by_cases z : i = 0
      · subst z
        have : j ≠ 0 := Ne.symm hij
        dsimp only
        rw [if_neg this]
        intro a _ h
        cases h
      · dsimp only
        rw [if_neg z]
        intro a h
        cases h
  refine hb x G hG _ _ _ _ H E0 _ ⟨fun Γ σ H' O' hx' E' => ?_, fun d v H' z => z.elim, fun _ _ _ _ z => z.elim, fun _ _ _ _ z => z.elim⟩
  obtain ⟨fp, a1, _⟩ := E'.own
  obtain ⟨⟨v, b1, b4, rfl, dx', fs, b5, b6⟩, b8⟩ := a1 0 _ hx'
  refine q H' dx' fs (fun a o hM hne h => E'.base a o hM (by rw [if_neg hne]; exact h)) (fun s e => (E'.src s e).1) b5 (b6.same (wo_same fun a o g1 g2 => ⟨fun z => g1 (E'.sub a z), g2⟩))
end
end TPE
end
section
set_option maxHeartbeats 400000
namespace TPE
open PySem PySem.Spec PyProof.Rows L2 TPI TPZ RT
local macro_rules | `(tactic| walk_at "go") => `(tactic| (try dsimp only [cxK, cxKB, cxK2]); (try dsimp [Gam]); (try simp only [List.map_cons, List.map_nil, List.cons_append, List.nil_append]))
local macro_rules | `(tactic| walk_at "ev") => `(tactic| first
  | ((with_reducible apply ev_var); exact rfl)
  | with_reducible exact ev_int
  | with_reducible exact ev_str
  | with_reducible exact ev_bl
  | with_reducible exact ev_non
  | with_reducible exact ev_c
  | ((with_reducible apply el_i) <;> walk_at "ev")
  | ((with_reducible apply el_b) <;> walk_at "ev")
  | ((with_reducible apply el_eqI); (walk_at "ev"); (walk_at "ev"))
  | ((with_reducible apply el_neI); (walk_at "ev"); (walk_at "ev"))
  | ((with_reducible apply el_eqS); (walk_at "ev"); (walk_at "ev"))
  | ((with_reducible apply el_neS); (walk_at "ev"); (walk_at "ev"))
  | ((with_reducible apply ev_notV) <;> walk_at "ev")
  | ((with_reducible apply el_isi); (walk_at "ev"); exact rfl)
  | ((with_reducible apply el_len) <;> walk_at "ej")
  | (((with_reducible apply ev_aT); (walk_at "ev")))
  | (((with_reducible apply ev_aL); (walk_at "ev")))
  | (((with_reducible apply ev_aP); (walk_at "ev")))
  | (((with_reducible apply ev_pl); (walk_at "ev"))))
local macro_rules | `(tactic| walk_at "ej") => `(tactic| first
  | ((with_reducible apply ev_own); exact rfl)
  | ((with_reducible apply EvJ.q_s); walk_at "ev")
  | ((with_reducible apply EvJ.q_l); walk_at "ev")
  | ((with_reducible apply EvJ.q_t); walk_at "ev")
  | ((with_reducible apply evj); walk_at "ev"))
local macro_rules | `(tactic| walk_at "ea") => `(tactic| first
  | with_reducible exact eva_nil
  | ((with_reducible apply eva_cons); (walk_at "ev"); (walk_at "ea")))
local macro_rules | `(tactic| walk_at "et") => `(tactic| first
  | ((with_reducible apply evt_or); (walk_at "et"); (intro _; walk_at "et"))
  | ((with_reducible apply evt_and); (walk_at "et"); (intro _; walk_at "et"))
  | ((with_reducible apply evt_not); (walk_at "et"))
  | ((with_reducible apply evt_test); (walk_at "ev"))
  | ((with_reducible apply evt_tB); (walk_at "ev")))
local macro_rules | `(tactic| walk_at "le") => `(tactic| ((try simp only [List.set_cons_zero, List.set_cons_succ]); repeat' (first | exact Le.nil | (with_reducible apply Le.un) | (apply Le.eq rfl) | apply Le.eq)))
section
variable {P : Program} {w : World} {K : PySem.W.Frag} {mg : Str → Option Value} {base : Heap} {pA oA C : Addr}
theorem sc_init : FnScope ["self", "counts", "lists", "sequence", "picks", "index"] ["self", "counts", "lists", "sequence", "picks"] (defScope (inClass (top 85) 0)) := ⟨rfl, rfl, rfl, by decide +kernel, rfl, by decide +kernel, by decide +kernel⟩
/-- the class makes its records -/
def OkI [Tb] (P : Program) (w : World) (K : PySem.W.Frag) (mg : Str → Option Value) (base : Heap) (C : Addr) (k : Nat) : Prop :=
  ∃ f fd, FnOk P w K mg base CX0 k f fd ["self", "counts", "lists", "sequence", "picks"] (SpI K C) ∧ Mk K C f ∧ Binds K fd ["self", "counts", "lists", "sequence", "picks"] [] ∧ mg "Record" = some (.ref C)
theorem pe_makeO [Tb] {X : Cx} {k : Nat} {e : Expr} {es : List Expr} {p pos : Pos} {t : TA} (O : OkI X.prog X.w X.K X.mg X.base C k) (hr : Room (k + 1) X.A) (hg : Gl X "Record") (ha : PA X (e :: es) t) (he : starEach (e :: es) X.env = (false, eval e X.env) :: starEach es X.env := by rfl) (hpl : (backTo pos (starEach es X.env)).any (·.1) = false := by rfl) :
    PE X (.Call (.Name "Record" p) (e :: es) [] pos) (tMake C (SpI X.K C) [] E0 t) := by
  obtain ⟨f, fd, F, hk, hb, hm⟩ := O
  exact pe_make hk F hr hg hm hb .nil pass0 ha (by decide) he hpl
theorem w_init [Tb] (B : Bi K mg pA oA) (R : RecC K mg C) (D : ∃ f fd, FunD K "__init__" "Record.__init__" (defArgs (inClass (top 85) 0)) (defBody (inClass (top 85) 0)) (defScope (inClass (top 85) 0)) [] [] f fd ∧ Mk K C f) (O_require_fits : Okd P w K mg base 2 "require_fits" ["counts", "sequence"] (gFits K)) (O_require_game : Okd P w K mg base 5 "require_game" ["counts", "lists", "sequence"] (gGame K)) (O_require_picks : Okd P w K mg base 3 "require_picks" ["counts", "sequence", "picks"] (gRPicks K)) (O_owner_of : Okd P w K mg base 2 "owner_of" ["sequence", "index"] (gOwner K)) :
    OkI P w K mg base C 6 := by
  obtain ⟨f, fd, F, m⟩ := D
  refine ⟨f, fd, F.ok sc_init (fun vs H Q E h => ?_) (fun cdv A outer s H vs Q E hr h => ⟨_, PSs.nox (pss_cons (ps_expr (pe_callO O_require_game (hr.mono (by decide)) rfl (pa_cons (pv 1) (pa_cons (pv 2) (pa_cons (pv 3) pa_nil)))))     (pss_cons (ps_expr (pe_callO O_require_picks (hr.mono (by decide)) rfl (pa_cons (pv 1) (pa_cons (pv 3) (pa_cons (pv 4) pa_nil)))))     (pss_cons (ps_expr (pe_callO O_require_fits (hr.mono (by decide)) rfl (pa_cons (pv 1) (pa_cons (pv 3) pa_nil))))     (pss_cons (ps_if (pt_cmpR op_eq (pe_callB call_len rfl B.len (by decide +kernel) (pa_cons (pv 3) pa_nil)) (pe_globI rfl B.mMAX_BLOCKS) (nomark _))     (pss_one ps_never)     pss_nil)     (pss_cons (ps_asg (pe_tup (pa_cons (pv 1) (pa_cons (pv 2) (pa_cons (pe_callTy call_tupX rfl B.tuple (by decide +kernel) (pa_cons (pv 3) pa_nil)) (pa_cons (pe_callTy call_tupX rfl B.tuple (by decide +kernel) (pa_cons (pv 4) pa_nil)) pa_nil))))) (pg_tup rfl (pgs_cons (pg_fld (pv 0)) (pgs_cons (pg_fld (pv 0)) (pgs_cons (pg_fld (pv 0)) (pgs_cons (pg_fld (pv 0)) pgs_nil))))))     (pss_one (ps_asg (pe_lc (own := [("index", 5)]) (te := (tCall _ _ _ (tCons (tFld K _ "sequence") (tCons _ tNil)))) rfl sc_init.nd (pi_range1 rfl B.range (pa_cons (pe_callB call_len rfl B.len (by decide +kernel) (pa_cons (pe_fld (pv 0) rfl) pa_nil)) pa_nil)) (blkOk_by (own := [("index", 5)]) (N := ["self", "counts", "lists", "sequence", "picks", "index"]) (sc := defScope (inClass (top 85) 0)) (by decide +kernel)) (fun _ _ _ _ _ => (pg_name (i := 5) sc_init.nd rfl (by first | exact Or.inl rfl | exact Or.inr rfl))) (fun _ _ _ _ _ => pts_nil) (fun _ _ _ _ _ => (pe_callO O_owner_of (hr.mono (by decide)) rfl (pa_cons (pe_fld (pv 0) rfl) (pa_cons (pv 5) pa_nil))))) (pg_fld (pv 0))))))))), body_ofI (K := K) (C := C) (by simp) (fun x G hG => ?_) h⟩), m, F.bindsN (fun _ _ _ _ _ _ us hl => match us, hl with | [_, _, _, _, _], _ => rfl), R.glo⟩
  · obtain ⟨O, x, dx, ws, G, hG, rfl, _, _, hs, _⟩ := h
    have := (Paired.length hs).symm
    simp [Gm.as] at this
    simp [this]
  walk_at "go"
  have hf := hG.few
  have hlen := hG.len
  have hsum := hG.sum
  have hz := hG.z
  have h60 := hG.h1.few
  have hls : ∀ {Γ : List Slt} (i : Nat), Γ[i]? = some (.val (lsP K G.r1 G.r2)) → Ev none (tVar i) Γ (dP K (lsD G.r1 G.r2)) := fun i e => ev_sub (ev_var e) fun F v => lsP_d
  refine dq_drop (ev_call (eva_cons (by walk_at "ev") (eva_cons (hls 2 rfl) (eva_cons (by walk_at "ev") eva_nil))) (gGame.mk G.c G.r1 G.r2 G.bs hG.h1 hG.h2 hG.hb) (.inl rfl)) ?_
  refine dq_drop (ev_call (by walk_at "ea") (gRPicks.mk G.c G.ks G.bs h60 hG.hb (by rw [hlen]; exact Nat.le_refl _) (by omega) hG.kx hG.kn) (.inl rfl)) ?_
  refine dq_drop (ev_call (by walk_at "ea") (gFits.mk G.c G.bs hG.hb (Nat.le_of_eq hsum)) (.inl rfl)) ?_
  refine dq_guard (b := decide ((((BD G.bs).length : Nat) : Int) = 200)) (evt_test (K := K) (by walk_at "ev")) (by simp [BD]; omega) ?_
  refine ds_seq (ds_asgW (d := tupP K [dP K (.tuple (LN G.c)), lsP K G.r1 G.r2, plP K (BD G.bs), plP K (LN G.ks)]) (ev_tup (eva_cons (by walk_at "ev") (eva_cons (ev_var rfl) (eva_cons (el_tup (by walk_at "ej")) (eva_cons (el_tup (by walk_at "ej")) eva_nil)))) (by show 4 ≤ sizeLine; decide))
    (gtw_tup (gtsw_cons (gtw_fld (C := C) (x := x) (ps := []) R.cls R.counts rfl rfl (by simp)) (gtsw_cons (gtw_fld (C := C) (x := x) R.cls R.lists rfl rfl (by simp)) (gtsw_cons (gtw_fld (C := C) (x := x) R.cls R.sequence rfl rfl (by simp)) (gtsw_cons (gtw_fld (C := C) (x := x) R.cls R.picks rfl rfl (by simp)) gtsw_nil)))) rfl) ?_)
  simp only [List.set_cons_zero, List.set_cons_succ, List.cons_append, List.nil_append]
  refine ds_asgW (d := dP K (.list (G.w.map pD))) (ev_frz (evc_eqL (evc_mapF (K := K) (evi_range1 (K := K) (k := ((G.ks.length : Nat) : Int)) (el_lenN (sk := .t) (EvJ.q_t (ev_pl (el_fldO (C := C) (x := x) (f := "picks") rfl R.cls R.picks rfl)))) (by omega) (by omega)) (fun i => pD (G.w.getD i true)) (by simp; omega) fun i hi => ?_) ?_)) (gtw_fld (C := C) (x := x) R.cls R.owners rfl rfl (by simp)) rfl
  · rw [Int.toNat_natCast] at hi
    have hi2 : i < (flat G.bs).length := by rw [← hlen]; exact hi
    have e : G.w.getD i true = (flat G.bs)[i] := by rw [List.getD_eq_getElem?_getD, List.getElem?_eq_getElem hi2]; rfl
    rw [e]
    exact ⟨_, gt1, ev_call (eva_cons (ev_aP (el_fldO (C := C) (x := x) (f := "sequence") rfl R.cls R.sequence rfl)) (eva_cons (by walk_at "ev") eva_nil)) (gOwner.mk G.bs hG.hb i hi2) (.inl rfl)⟩
  · rw [Int.toNat_natCast, hlen, map_range_get G.w _ pD fun i hi => by rw [List.getD_eq_getElem?_getD, List.getElem?_eq_getElem hi]; rfl]
end
end TPE
end
section
set_option maxHeartbeats 400000
namespace TPE
open PySem L2
/-! ### sums over a ranking's prefixes -/
def fs (f : Nat → Nat) (r : List Nat) (i : Nat) : Nat := ((r.take i).map f).sum
theorem PSm_fs (c r : List Nat) (i : Nat) : PSm c r i = fs (fun x => c.getD x 0) r i := rfl
theorem fs_zero (f : Nat → Nat) (r : List Nat) : fs f r 0 = 0 := by simp [fs]
theorem fs_cons (f : Nat → Nat) (y : Nat) (r : List Nat) (i : Nat) : fs f (y :: r) (i + 1) = f y + fs f r i := by simp [fs]
theorem fs_nil (f : Nat → Nat) (i : Nat) : fs f [] i = 0 := by simp [fs]
theorem fs_congr {f g : Nat → Nat} : ∀ {r : List Nat} {i : Nat}, (∀ y ∈ r, f y = g y) → fs f r i = fs g r i
  | [], i, _ => by rw [fs_nil, fs_nil]
  | y :: r, 0, _ => by rw [fs_zero, fs_zero]
  | y :: r, i + 1, h => by rw [fs_cons, fs_cons, h y List.mem_cons_self, fs_congr fun z hz => h z (List.mem_cons_of_mem _ hz)]
theorem fs_le {f g : Nat → Nat} (h : ∀ y, f y ≤ g y) : ∀ (r : List Nat) (i : Nat), fs f r i ≤ fs g r i
  | [], i => by rw [fs_nil, fs_nil]; exact Nat.le_refl _
  | y :: r, 0 => by rw [fs_zero, fs_zero]; exact Nat.le_refl _
  | y :: r, i + 1 => by
    rw [fs_cons, fs_cons]
    have := h y
    have := fs_le h r i
    omega
theorem fs_lt {f g : Nat → Nat} (h : ∀ y, f y ≤ g y) {x : Nat} (hx : f x < g x) : ∀ {r : List Nat} {i : Nat}, x ∈ r → r.idxOf x < i → fs f r i < fs g r i
  | y :: r, 0, _, hi => absurd hi (Nat.not_lt_zero _)
  | y :: r, i + 1, hm, hi => by
    rw [fs_cons, fs_cons]
    have h1 := h y
    have h2 := fs_le h r i
    by_cases e : y = x
    · subst e; omega
    · rw [idx_ne e] at hi
      have hm' : x ∈ r := (List.mem_cons.mp hm).resolve_left (Ne.symm e)
      have := fs_lt h hx hm' (by omega : r.idxOf x < i)
      omega
/-- one place written -/
theorem fs_one {f g : Nat → Nat} {x : Nat} (h : ∀ y, y ≠ x → f y = g y) : ∀ {r : List Nat} (i : Nat), r.Nodup → x ∈ r → fs f r i + (if r.idxOf x < i then g x else 0) = fs g r i + if r.idxOf x < i then f x else 0
  | y :: r, 0, _, _ => by rw [fs_zero, fs_zero, if_neg (Nat.not_lt_zero _), if_neg (Nat.not_lt_zero _)]
  | y :: r, i + 1, hn, hm => by
    rw [fs_cons, fs_cons]
    obtain ⟨h1, h2⟩ := List.nodup_cons.mp hn
    by_cases e : y = x
    · subst e
      have : fs f r i = fs g r i := fs_congr fun z hz => h z fun e => h1 (e ▸ hz)
      rw [List.idxOf_cons_self, if_pos (by omega), if_pos (by omega)]
      omega
    · rw [idx_ne e]
      have hm' : x ∈ r := (List.mem_cons.mp hm).resolve_left (Ne.symm e)
      have := fs_one h i h2 hm'
      rw [h y e]
      by_cases q : r.idxOf x < i
      · rw [if_pos q, if_pos q] at this
        rw [if_pos (by omega), if_pos (by omega)]
        omega
      · rw [if_neg q, if_neg q] at this
        rw [if_neg (by omega), if_neg (by omega)]
        omega
theorem PSm_set {c r : List Nat} {x v : Nat} (hr : r.Nodup) (hx : x ∈ r) (hl : x < c.length) (i : Nat) : PSm (c.set x v) r i + (if r.idxOf x < i then c.getD x 0 else 0) = PSm c r i + if r.idxOf x < i then v else 0 := by
  have := fs_one (f := fun y => (c.set x v).getD y 0) (g := fun y => c.getD y 0) (x := x) (fun y e => by show (c.set x v).getD y 0 = _; rw [getD_set hl, if_neg e]) i hr hx
  rw [show (c.set x v).getD x 0 = v by rw [getD_set hl, if_pos rfl]] at this
  exact this
theorem PSm_dec {c r : List Nat} {x : Nat} (hr : r.Nodup) (hx : x ∈ r) (hl : x < c.length) (h0 : 0 < c.getD x 0) (i : Nat) : PSm (dec c x) r i + (if r.idxOf x < i then 1 else 0) = PSm c r i := by
  have := PSm_set (v := c.getD x 0 - 1) hr hx hl i
  unfold dec
  split at this <;> rename_i h
  · rw [if_pos h]
    omega
  · rw [if_neg h]
    omega
theorem PSm_mono {c r : List Nat} {i j : Nat} (h : i ≤ j) : PSm c r i ≤ PSm c r j := by
  obtain ⟨d, rfl⟩ := Nat.exists_eq_add_of_le h
  induction d with
  | zero => exact Nat.le_refl _
  | succ d ih =>
    refine Nat.le_trans (ih (by omega)) ?_
    by_cases hl : i + d < r.length
    · show _ ≤ PSm c r (i + d + 1)
      rw [PSm_succ hl]
      omega
    · unfold PSm
      rw [List.take_of_length_le (by omega), List.take_of_length_le (by omega)]
      exact Nat.le_refl _
theorem PSm_at {c r : List Nat} {x : Nat} (hx : x ∈ r) : PSm c r (r.idxOf x + 1) = PSm c r (r.idxOf x) + c.getD x 0 := by
  have hl := List.idxOf_lt_length_iff.mpr hx
  rw [PSm_succ hl, getD_of hl, List.getElem_idxOf]
theorem PSm_zero {c r : List Nat} {i : Nat} (h : ∀ y ∈ r, r.idxOf y < i → c.getD y 0 = 0) (hn : r.Nodup) : PSm c r i = 0 := by
  unfold PSm
  have : ∀ y ∈ r.take i, c.getD y 0 = 0 := fun y hy => by
    refine h y (List.mem_of_mem_take hy) ?_
    obtain ⟨k, hk, e⟩ := List.getElem_of_mem hy
    rw [List.length_take] at hk
    have e2 : r[k]'(by omega) = y := by rw [← e]; simp
    have : r.idxOf y = k := by rw [← e2]; exact hn.idxOf_getElem k (by omega)
    omega
  clear h
  generalize r.take i = l at this
  induction l with
  | nil => rfl
  | cons y l ih => rw [List.map_cons, List.sum_cons, this y List.mem_cons_self, ih fun z hz => this z (List.mem_cons_of_mem _ hz)]
theorem PSm_all {k : Nat} {c r : List Nat} (hr : RkOk k r) (hc : c.length = k) : PSm c r k = c.sum := by
  unfold PSm
  rw [List.take_of_length_le (by rw [hr.length]; exact Nat.le_refl _), (hr.perm.map fun x => c.getD x 0).sum_nat]
  have : ∀ c : List Nat, ((List.range c.length).map fun x => c.getD x 0).sum = c.sum := fun c => by
    have e : (List.range c.length).map (fun x => c.getD x 0) = c := by
      apply List.ext_getElem
      · simp
      · intro i h1 h2; simp [List.getD_eq_getElem?_getD, h2]
    rw [e]
  rw [← hc, this]
/-! ### the certificate of a filled bundle -/
def restr (f : List Nat) (S : List Nat) (z : Nat) : Nat := if z ∈ S then f.getD z 0 else 0
structure Cert (c r ks : List Nat) (lim : Nat → Nat) (f : List Nat) : Prop where
  len : f.length = c.length
  le : ∀ y, f.getD y 0 ≤ c.getD y 0
  room : ∀ i, i < r.length → PSm f r (i + 1) ≤ lim i
  cert : ∀ y ∈ ks, f.getD y 0 = c.getD y 0 ∨ ∃ i, r.idxOf y ≤ i ∧ i < r.length ∧ fs (restr f (ks.take (ks.idxOf y + 1))) r (i + 1) = lim i
theorem restr_le (f S : List Nat) (z : Nat) : restr f S z ≤ f.getD z 0 := by unfold restr; split <;> omega
theorem take_idx {ks : List Nat} {y : Nat} (h : y ∈ ks) : y ∈ ks.take (ks.idxOf y + 1) := by
  have hl := List.idxOf_lt_length_iff.mpr h
  rw [List.take_add_one, List.getElem?_eq_getElem hl, List.getElem_idxOf]
  simp
theorem mem_take_idx {ks : List Nat} {y : Nat} {n : Nat} (hn : ks.Nodup) (h : y ∈ ks.take n) : y ∈ ks ∧ ks.idxOf y < n := by
  refine ⟨List.mem_of_mem_take h, ?_⟩
  obtain ⟨k, hk, e⟩ := List.getElem_of_mem h
  rw [List.length_take] at hk
  have e2 : ks[k]'(by omega) = y := by rw [← e]; simp
  have : ks.idxOf y = k := by rw [← e2]; exact hn.idxOf_getElem k (by omega)
  omega
theorem idx_take_mem {ks : List Nat} {y : Nat} {n : Nat} (h : y ∈ ks) (hi : ks.idxOf y < n) : y ∈ ks.take n := by
  have hl := List.idxOf_lt_length_iff.mpr h
  have := List.getElem_mem (l := ks.take n) (n := ks.idxOf y) (by rw [List.length_take]; omega)
  simpa using this
/-- at most one -/
theorem Cert.lt_no {c r ks : List Nat} {lim : Nat → Nat} {f g : List Nat} (hk : ks.Nodup) (hkr : ∀ y ∈ ks, y ∈ r) (F : Cert c r ks lim f) (G : Cert c r ks lim g) {y : Nat} (hy : y ∈ ks) (ih : ∀ z ∈ ks, ks.idxOf z < ks.idxOf y → f.getD z 0 = g.getD z 0) : ¬ f.getD y 0 < g.getD y 0 := fun hlt => by
  have := G.le y
  rcases F.cert y hy with e | ⟨i, h1, h2, h3⟩
  · omega
  have a1 := G.room i h2
  have a2 : fs (restr g (ks.take (ks.idxOf y + 1))) r (i + 1) ≤ PSm g r (i + 1) := fs_le (fun z => restr_le _ _ z) r (i + 1)
  have a3 : fs (restr f (ks.take (ks.idxOf y + 1))) r (i + 1) < fs (restr g (ks.take (ks.idxOf y + 1))) r (i + 1) := by
    refine fs_lt (fun z => ?_) (x := y) ?_ (hkr y hy) (by omega)
    · unfold restr
      split
      · rename_i hz
        obtain ⟨z1, z2⟩ := mem_take_idx hk hz
        by_cases e : ks.idxOf z < ks.idxOf y
        · exact Nat.le_of_eq (ih z z1 e)
        · have e2 : ks.idxOf z = ks.idxOf y := by omega
          have e3 : z = y := by
            have b1 := List.getElem_idxOf (List.idxOf_lt_length_iff.mpr z1)
            have b2 := List.getElem_idxOf (List.idxOf_lt_length_iff.mpr hy)
            rw [← b1, ← b2]
            simp only [e2]
          subst e3
          omega
      · exact Nat.le_refl _
    · unfold restr
      rw [if_pos (take_idx hy), if_pos (take_idx hy)]
      exact hlt
  omega
theorem Cert.uniq {k : Nat} {c r ks : List Nat} {lim : Nat → Nat} {f g : List Nat} (hr : RkOk k r) (hk : RkOk k ks) (hc : c.length = k) (F : Cert c r ks lim f) (G : Cert c r ks lim g) : f = g := by
  have hkr : ∀ y ∈ ks, y ∈ r := fun y hy => hr.mem (hk.lt hy)
  have key : ∀ n, ∀ y ∈ ks, ks.idxOf y < n → f.getD y 0 = g.getD y 0 := by
    intro n
    induction n with
    | zero => intro y _ h; exact absurd h (Nat.not_lt_zero _)
    | succ n ih =>
      intro y hy hlt
      have i1 := F.lt_no hk.nd hkr G hy fun z hz hz2 => ih z hz (by omega)
      have i2 := G.lt_no hk.nd hkr F hy fun z hz hz2 => (ih z hz (by omega)).symm
      omega
  refine ext_getD (by rw [F.len, G.len]) fun x hx => ?_
  have hm : x ∈ ks := hk.mem (by rw [← hc, ← F.len]; exact hx)
  exact key _ x hm (Nat.lt_succ_self _)
/-! ### filled_up keeps the certificate -/
structure Filling (c r ks : List Nat) (lim : List Nat) (n : Nat) (s : List Nat × List Nat) : Prop where
  len1 : s.1.length = c.length
  len2 : s.2.length = lim.length
  room : ∀ i, i < r.length → s.2.getD i 0 + PSm s.1 r (i + 1) = lim.getD i 0
  out : ∀ y, y ∉ ks.take n → s.1.getD y 0 = 0
  le : ∀ y, s.1.getD y 0 ≤ c.getD y 0
  cert : ∀ y ∈ ks.take n, s.1.getD y 0 = c.getD y 0 ∨ ∃ i, r.idxOf y ≤ i ∧ i < r.length ∧ fs (restr s.1 (ks.take (ks.idxOf y + 1))) r (i + 1) = lim.getD i 0
theorem take_drop_getD {m : List Nat} {p : Nat} {g : Nat → Nat} {i : Nat} (hi : i < m.length) : (m.take p ++ (m.drop p).map g).getD i 0 = if i < p then m.getD i 0 else g (m.getD i 0) := by
  rw [List.getD_eq_getElem?_getD, List.getD_eq_getElem?_getD]
  by_cases h : i < p
  · rw [if_pos h, List.getElem?_append_left (by rw [List.length_take]; omega), List.getElem?_take, if_pos h]
  · rw [if_neg h, List.getElem?_append_right (by rw [List.length_take]; omega), List.getElem?_map, List.getElem?_drop, List.length_take]
    have e : p + (i - min p m.length) = i := by omega
    rw [e, List.getElem?_eq_getElem hi]
    rfl
theorem Filling.step {k : Nat} {c r ks lim : List Nat} {n : Nat} {s : List Nat × List Nat} (hr : RkOk k r) (hk : RkOk k ks) (hc : c.length = k) (hl : lim.length = k) (hn : n < ks.length) (F : Filling c r ks lim n s) : Filling c r ks lim (n + 1) (fillStep c r s ks[n]) := by
  have hx : ks[n] ∈ ks := List.getElem_mem hn
  have hxk := hk.lt hx
  have hxr : ks[n] ∈ r := hr.mem hxk
  have hix : ks.idxOf ks[n] = n := hk.nd.idxOf_getElem n hn
  have hxo : ks[n] ∉ ks.take n := fun h => by have := (mem_take_idx hk.nd h).2; omega
  have htk : ks.take (n + 1) = ks.take n ++ [ks[n]] := by rw [List.take_add_one, List.getElem?_eq_getElem hn]; rfl
  generalize ks[n] = x at *
  obtain ⟨f, m⟩ := s
  have hf := F.len1
  have hm := F.len2
  simp only at hf hm
  have hlr := hr.length
  have hf0 : f.getD x 0 = 0 := F.out x hxo
  generalize hnum : minL (c.getD x 0) (m.drop (r.idxOf x)) = num
  have hmin := minL_le (m.drop (r.idxOf x)) (c.getD x 0)
  have hmem := minL_mem (m.drop (r.idxOf x)) (c.getD x 0)
  rw [hnum] at hmin hmem
  have hS : fillStep c r (f, m) x = (f.set x num, m.take (r.idxOf x) ++ (m.drop (r.idxOf x)).map fun y => y - num) := by unfold fillStep; simp only [hnum]
  rw [hS]
  have hget : ∀ y, (f.set x num).getD y 0 = if y = x then num else f.getD y 0 := fun y => getD_set (by omega)
  have hps : ∀ i, PSm (f.set x num) r i = PSm f r i + if r.idxOf x < i then num else 0 := fun i => by
    have := PSm_set (v := num) hr.nd hxr (show x < f.length by omega) i
    rw [hf0] at this
    split at this <;> rename_i h
    · rw [if_pos h]; omega
    · rw [if_neg h]; omega
  have hres : ∀ S : List Nat, x ∉ S → restr (f.set x num) S = restr f S := fun S h => by
    funext z
    unfold restr
    by_cases hz : z ∈ S
    · rw [if_pos hz, if_pos hz, hget, if_neg fun (e : z = x) => h (e ▸ hz)]
    · rw [if_neg hz, if_neg hz]
  have hall : restr (f.set x num) (ks.take (n + 1)) = fun z => (f.set x num).getD z 0 := by
    funext z
    unfold restr
    by_cases hz : z ∈ ks.take (n + 1)
    · rw [if_pos hz]
    · rw [if_neg hz, hget, if_neg fun (e : z = x) => hz (by rw [htk, e]; simp)]
      rw [htk] at hz
      exact (F.out z fun h => hz (List.mem_append_left _ h)).symm
  have hroom : ∀ i, r.idxOf x ≤ i → i < r.length → num ≤ m.getD i 0 := fun i h1 h2 => by
    refine hmin.2 _ ?_
    have hi : i < m.length := by omega
    rw [getD_of hi]
    have := List.getElem_mem (l := m.drop (r.idxOf x)) (n := i - r.idxOf x) (by rw [List.length_drop]; omega)
    rw [List.getElem_drop] at this
    have e : r.idxOf x + (i - r.idxOf x) = i := by omega
    simp only [e] at this
    exact this
  refine ⟨by simp [hf], by simp; omega, fun i hi => ?_, fun y hy => ?_, fun y => ?_, fun y hy => ?_⟩
  · have h0 := F.room i hi
    simp only at h0 ⊢
    rw [take_drop_getD (by omega), hps]
    by_cases h : i < r.idxOf x
    · rw [if_pos h, if_neg (by omega)]
      omega
    · have := hroom i (by omega) hi
      rw [if_neg h, if_pos (by omega)]
      omega
  · rw [htk] at hy
    have hy1 : y ∉ ks.take n := fun h => hy (List.mem_append_left _ h)
    have hy2 : y ≠ x := fun e => hy (by rw [e]; simp)
    show (f.set x num).getD y 0 = 0
    rw [hget, if_neg hy2]
    exact F.out y hy1
  · show (f.set x num).getD y 0 ≤ _
    rw [hget]
    split
    · rename_i e; subst e; exact hmin.1
    · exact F.le y
  · rw [htk] at hy
    show (f.set x num).getD y 0 = _ ∨ ∃ i, _ ∧ _ ∧ fs (restr (f.set x num) _) r (i + 1) = _
    rcases List.mem_append.mp hy with hy | hy
    · obtain ⟨y1, y2⟩ := mem_take_idx hk.nd hy
      have hne : y ≠ x := fun e => hxo (e ▸ hy)
      rw [hget, if_neg hne, hres]
      · exact F.cert y hy
      · intro h
        have := (mem_take_idx hk.nd h).2
        omega
    · have e := List.mem_singleton.mp hy
      subst e
      rw [hget, if_pos rfl, hix, hall]
      rcases List.mem_cons.mp hmem with e | e
      · exact .inl e
      · right
        obtain ⟨j, hj, e2⟩ := List.getElem_of_mem e
        rw [List.length_drop] at hj
        rw [List.getElem_drop] at e2
        refine ⟨r.idxOf y + j, by omega, by omega, ?_⟩
        have h0 := F.room (r.idxOf y + j) (by omega)
        have h1 := hps (r.idxOf y + j + 1)
        rw [if_pos (by omega)] at h1
        simp only at h0
        rw [getD_of (show r.idxOf y + j < m.length by omega), e2] at h0
        show PSm (f.set y num) r (r.idxOf y + j + 1) = _
        omega
theorem fill_cert {k : Nat} {c r ks lim : List Nat} (hr : RkOk k r) (hk : RkOk k ks) (hc : c.length = k) (hl : lim.length = k) : Cert c r ks (fun i => lim.getD i 0) (fill c r lim ks) := by
  have key : ∀ n, n ≤ ks.length → Filling c r ks lim n ((ks.take n).foldl (fillStep c r) (List.replicate c.length 0, lim)) := by
    intro n
    induction n with
    | zero =>
      intro _
      have z : ∀ y, (List.replicate c.length 0).getD y 0 = 0 := fun y => by
        rw [List.getD_eq_getElem?_getD, List.getElem?_replicate]
        split <;> rfl
      refine ⟨by simp, rfl, fun i _ => ?_, fun y _ => z y, fun y => ?_, fun y hy => by simp at hy⟩
      · have : PSm (List.replicate c.length 0) r (i + 1) = 0 := by
          rw [PSm_fs, fs_congr (g := fun _ => 0) (fun y _ => z y)]
          unfold fs
          generalize r.take (i + 1) = l
          induction l with
          | nil => rfl
          | cons a l ih => rw [List.map_cons, List.sum_cons, ih]
        show lim.getD i 0 + PSm (List.replicate c.length 0) r (i + 1) = _
        omega
      · show (List.replicate c.length 0).getD y 0 ≤ _
        rw [z]; exact Nat.zero_le _
    | succ n ih =>
      intro hn
      rw [foldl_take_succ _ _ _ hn]
      exact (ih (by omega)).step hr hk hc hl hn
  have F := key ks.length (Nat.le_refl _)
  rw [List.take_length] at F
  refine ⟨F.len1, F.le, fun i hi => ?_, fun y hy => F.cert y (by rw [List.take_length]; exact hy)⟩
  have := F.room i hi
  show PSm (fillS c r lim ks).1 r (i + 1) ≤ _
  unfold fillS
  omega
end TPE
end
section
set_option maxHeartbeats 400000
namespace TPE
open PySem L2
/-! ### turns among the first picks -/
theorem cntw_zero (w : List Bool) (p : Bool) : cntw w p 0 = 0 := by simp [cntw]
theorem cntw_own (v : List Bool) (p : Bool) (m : Nat) : cntw (p :: v) p (m + 1) = cntw v p m + 1 := by simp [cntw]
theorem cntw_opp (v : List Bool) (p : Bool) (m : Nat) : cntw ((!p) :: v) p (m + 1) = cntw v p m := by cases p <;> simp [cntw]
theorem cntw_nil (p : Bool) (m : Nat) : cntw [] p m = 0 := by simp [cntw]
theorem cntw_succ (w : List Bool) (p : Bool) (m : Nat) : cntw w p m ≤ cntw w p (m + 1) ∧ cntw w p (m + 1) ≤ cntw w p m + 1 := by
  unfold cntw
  rw [List.take_add_one, List.count_append]
  have : (w[m]?.toList).count p ≤ 1 := by
    have := List.count_le_length (a := p) (l := w[m]?.toList)
    have h2 : w[m]?.toList.length ≤ 1 := by cases w[m]? <;> simp
    omega
  omega
theorem cntw_diff (w : List Bool) (p : Bool) (a d : Nat) : cntw w p a ≤ cntw w p (a + d) ∧ cntw w p (a + d) ≤ cntw w p a + d := by
  induction d with
  | zero => exact ⟨Nat.le_refl _, Nat.le_refl _⟩
  | succ d ih =>
    have := cntw_succ w p (a + d)
    rw [← Nat.add_assoc]
    omega
theorem cntw_mono {w : List Bool} {p : Bool} {a b : Nat} (h : a ≤ b) : cntw w p a ≤ cntw w p b := by
  obtain ⟨d, rfl⟩ := Nat.exists_eq_add_of_le h
  exact (cntw_diff w p a d).1
theorem cntw_lip {w : List Bool} {p : Bool} {a b : Nat} (h : a ≤ b) : cntw w p b ≤ cntw w p a + (b - a) := by
  obtain ⟨d, rfl⟩ := Nat.exists_eq_add_of_le h
  have := (cntw_diff w p a d).2
  omega
theorem cntw_le (w : List Bool) (p : Bool) (m : Nat) : cntw w p m ≤ m := by
  have := cntw_lip (w := w) (p := p) (Nat.zero_le m)
  rw [cntw_zero] at this
  omega
theorem cntw_all {w : List Bool} {p : Bool} {m : Nat} (h : w.length ≤ m) : cntw w p m = w.count p := by unfold cntw; rw [List.take_of_length_le h]
theorem cntw_pos {w : List Bool} {p : Bool} {m : Nat} (h : cntw w p m = 0) : w.headD (!p) = p → m = 0 := fun e => by
  cases w with
  | nil => cases p <;> cases e
  | cons q v =>
    have e : q = p := e
    subst e
    cases m with
    | zero => rfl
    | succ m => rw [cntw_own] at h; omega
/-! ### the best bundle, step by step -/
def limF (w : List Bool) (p : Bool) (c r : List Nat) (i : Nat) : Nat := cntw w p (PSm c r (i + 1))
theorem Cert.lim {c r ks : List Nat} {lim lim' : Nat → Nat} {f : List Nat} (F : Cert c r ks lim f) (h : ∀ i, i < r.length → lim i = lim' i) : Cert c r ks lim' f :=
  ⟨F.len, F.le, fun i hi => by rw [← h i hi]; exact F.room i hi, fun y hy => (F.cert y hy).imp_right fun ⟨i, a, b, e⟩ => ⟨i, a, b, by rw [← h i b]; exact e⟩⟩
section
variable {k : Nat} {r1 r2 c : List Nat}
theorem best_cert (h1 : RkOk k r1) (h2 : RkOk k r2) (hc : c.length = k) (w : List Bool) (p : Bool) : Cert c (rk r1 r2 !p) (rk r1 r2 p) (limF w p c (rk r1 r2 !p)) (bestB w p c r1 r2) := by
  have hr := rk_ok h1 h2 (!p)
  exact (fill_cert hr (rk_ok h1 h2 p) hc (by rw [caps_length, hr.length])).lim fun i hi => caps_getD hi
theorem best_is (h1 : RkOk k r1) (h2 : RkOk k r2) (hc : c.length = k) {w : List Bool} {p : Bool} {f : List Nat} (F : Cert c (rk r1 r2 !p) (rk r1 r2 p) (limF w p c (rk r1 r2 !p)) f) : bestB w p c r1 r2 = f :=
  (best_cert h1 h2 hc w p).uniq (rk_ok h1 h2 (!p)) (rk_ok h1 h2 p) hc F
/-- the opponent picks plainly: the bundle stays -/
theorem best_opp (h1 : RkOk k r1) (h2 : RkOk k r2) (hc : c.length = k) (p : Bool) (v : List Bool) (hs : 0 < c.sum) :
    bestB v p (dec c (bl c (rk r1 r2 !p))) r1 r2 = bestB ((!p) :: v) p c r1 r2 ∧ bestB ((!p) :: v) p c r1 r2 = bestB ((!p) :: v) p c r1 r2 := by
  refine ⟨?_, rfl⟩
  have hr := rk_ok h1 h2 (!p)
  obtain ⟨g1, g2, g3⟩ := bl_spec (ex_left hr hc hs)
  have F := best_cert h1 h2 hc ((!p) :: v) p
  generalize bestB ((!p) :: v) p c r1 r2 = f at *
  generalize hR : rk r1 r2 (!p) = R at *
  generalize hO : bl c R = o at *
  have hol : o < c.length := by rw [hc]; exact hr.lt g1
  have hio := List.idxOf_lt_length_iff.mpr g1
  have hz : ∀ i, i ≤ R.idxOf o → PSm c R i = 0 := fun i hi => PSm_zero (fun y hy hlt => g3 y hy (by omega)) hr.nd
  have hdec := fun i => PSm_dec hr.nd g1 hol g2 i
  have hlim : ∀ i, i < R.length → limF ((!p) :: v) p c R i = limF v p (dec c o) R i := fun i hi => by
    unfold limF
    have h3 := hdec (i + 1)
    by_cases h : R.idxOf o < i + 1
    · rw [if_pos h] at h3
      rw [← h3, cntw_opp]
    · rw [if_neg h] at h3
      have h4 := hz (i + 1) (by omega)
      have h5 : PSm (dec c o) R (i + 1) = 0 := by omega
      rw [h4, h5, cntw_zero, cntw_zero]
  refine best_is h1 h2 (by rw [dec_length]; exact hc) ?_
  rw [hR]
  refine Cert.lim ?_ hlim
  have hfo : f.getD o 0 ≤ c.getD o 0 - 1 := by
    have a1 := F.room _ hio
    have a2 := PSm_at (c := f) g1
    have a3 := PSm_at (c := c) g1
    have a4 := hz _ (Nat.le_refl _)
    unfold limF at a1
    obtain ⟨m, hm⟩ : ∃ m, c.getD o 0 = m + 1 := ⟨c.getD o 0 - 1, by omega⟩
    have a5 : PSm c R (R.idxOf o + 1) = m + 1 := by omega
    rw [a5, cntw_opp] at a1
    have a6 := cntw_le v p m
    omega
  refine ⟨by rw [dec_length]; exact F.len, fun y => ?_, F.room, fun y hy => ?_⟩
  · rw [dec_at hol]
    split
    · rename_i e; subst e; exact hfo
    · exact F.le y
  · rw [dec_at hol]
    rcases F.cert y hy with e | e
    · by_cases h : y = o
      · subst h; omega
      · rw [if_neg h]; exact .inl e
    · exact .inr e
/-- the player picks the first kind of the bundle -/
theorem best_own (h1 : RkOk k r1) (h2 : RkOk k r2) (hc : c.length = k) (p : Bool) (v : List Bool) (hb : ∃ x ∈ rk r1 r2 (!p), 0 < (bestB (p :: v) p c r1 r2).getD x 0) :
    bestB v p (dec c (bl (bestB (p :: v) p c r1 r2) (rk r1 r2 !p))) r1 r2 = dec (bestB (p :: v) p c r1 r2) (bl (bestB (p :: v) p c r1 r2) (rk r1 r2 !p)) := by
  have hr := rk_ok h1 h2 (!p)
  have hk := rk_ok h1 h2 p
  obtain ⟨g1, g2, g3⟩ := bl_spec hb
  have F := best_cert h1 h2 hc (p :: v) p
  generalize bestB (p :: v) p c r1 r2 = f at *
  generalize hR : rk r1 r2 (!p) = R at *
  generalize hX : bl f R = x at *
  have hx0 : 0 < c.getD x 0 := by have := F.le x; omega
  have hxl : x < c.length := by rw [hc]; exact hr.lt g1
  have hxf : x < f.length := by rw [F.len]; exact hxl
  have hio := List.idxOf_lt_length_iff.mpr g1
  have hz : ∀ i, i ≤ R.idxOf x → PSm f R i = 0 := fun i hi => PSm_zero (fun y hy hlt => g3 y hy (by omega)) hr.nd
  have hdc := fun i => PSm_dec hr.nd g1 hxl hx0 i
  have hdf := fun i => PSm_dec hr.nd g1 hxf g2 i
  have hlim1 : ∀ i, R.idxOf x ≤ i → limF (p :: v) p c R i = limF v p (dec c x) R i + 1 := fun i hi => by
    unfold limF
    have h3 := hdc (i + 1)
    rw [if_pos (by omega)] at h3
    rw [← h3, cntw_own]
  have hlim0 : ∀ i, i < R.idxOf x → limF (p :: v) p c R i = 0 → limF v p (dec c x) R i = 0 := fun i hi h => by
    unfold limF at h ⊢
    have h3 := hdc (i + 1)
    rw [if_neg (by omega)] at h3
    have h4 : PSm c R (i + 1) = 0 := cntw_pos h (by cases p <;> rfl)
    have h5 : PSm (dec c x) R (i + 1) = 0 := by omega
    rw [h5, cntw_zero]
  refine best_is h1 h2 (by rw [dec_length]; exact hc) ?_
  rw [hR]
  refine ⟨by rw [dec_length, dec_length]; exact F.len, fun y => ?_, fun i hi => ?_, fun y hy => ?_⟩
  · rw [dec_at hxl, dec_at hxf]
    have := F.le y
    have := F.le x
    split <;> omega
  · have a1 := F.room i hi
    have h3 := hdf (i + 1)
    by_cases h : R.idxOf x ≤ i
    · rw [if_pos (by omega)] at h3
      have := hlim1 i h
      omega
    · rw [if_neg (by omega)] at h3
      have := hz (i + 1) (by omega)
      omega
  · have hyR : y ∈ R := hr.mem (hk.lt hy)
    rw [dec_at hxl, dec_at hxf]
    rcases F.cert y hy with e | ⟨i, e1, e2, e3⟩
    · left
      by_cases h : y = x
      · subst h; rw [if_pos rfl, if_pos rfl]; omega
      · rw [if_neg h, if_neg h]; exact e
    · right
      refine ⟨i, e1, e2, ?_⟩
      by_cases h : R.idxOf x ≤ i
      · -- x is among what is told
        have hin : x ∈ (rk r1 r2 p).take ((rk r1 r2 p).idxOf y + 1) := by
          refine Classical.byContradiction fun hno => ?_
          have b1 := F.room i e2
          have b2 : fs (restr f ((rk r1 r2 p).take ((rk r1 r2 p).idxOf y + 1))) R (i + 1) < fs (fun z => f.getD z 0) R (i + 1) := fs_lt (fun z => restr_le _ _ z) (x := x) (by unfold restr; rw [if_neg hno]; exact g2) g1 (by omega)
          rw [PSm_fs] at b1
          omega
        have hone := fs_one (f := restr (dec f x) ((rk r1 r2 p).take ((rk r1 r2 p).idxOf y + 1))) (g := restr f ((rk r1 r2 p).take ((rk r1 r2 p).idxOf y + 1))) (x := x) (fun z hz => by
          unfold restr
          split
          · rw [dec_at hxf, if_neg hz]
          · rfl) (i + 1) hr.nd g1
        rw [if_pos (by omega), if_pos (by omega)] at hone
        have t1 : restr f ((rk r1 r2 p).take ((rk r1 r2 p).idxOf y + 1)) x = f.getD x 0 := by unfold restr; rw [if_pos hin]
        have t2 : restr (dec f x) ((rk r1 r2 p).take ((rk r1 r2 p).idxOf y + 1)) x = f.getD x 0 - 1 := by unfold restr; rw [if_pos hin, dec_at hxf, if_pos rfl]
        have := hlim1 i h
        omega
      · have b1 : fs (restr f ((rk r1 r2 p).take ((rk r1 r2 p).idxOf y + 1))) R (i + 1) ≤ PSm f R (i + 1) := fs_le (fun z => restr_le _ _ z) R (i + 1)
        have b2 := hz (i + 1) (by omega)
        have b3 := hlim0 i (by omega) (by omega)
        have b4 : fs (restr (dec f x) ((rk r1 r2 p).take ((rk r1 r2 p).idxOf y + 1))) R (i + 1) ≤ PSm (dec f x) R (i + 1) := fs_le (fun z => restr_le _ _ z) R (i + 1)
        have h3 := hdf (i + 1)
        rw [if_neg (by omega)] at h3
        omega
/-- it has as many items as the player has turns -/
theorem best_sum (h1 : RkOk k r1) (h2 : RkOk k r2) (hc : c.length = k) (p : Bool) (w : List Bool) (hw : w.length ≤ c.sum) : (bestB w p c r1 r2).sum = w.count p := by
  have hr := rk_ok h1 h2 (!p)
  have hk := rk_ok h1 h2 p
  have F := best_cert h1 h2 hc w p
  generalize bestB w p c r1 r2 = f at *
  generalize rk r1 r2 (!p) = R at *
  have hfk : f.length = k := by rw [F.len, hc]
  have s1 := PSm_all hr hfk
  have s2 := PSm_all hr hc
  have hall : cntw w p (PSm c R k) = w.count p := cntw_all (by omega)
  cases hk0 : k with
  | zero =>
    subst hk0
    have e1 : f = [] := List.length_eq_zero_iff.mp hfk
    have e2 : c = [] := List.length_eq_zero_iff.mp hc
    subst e1 e2
    have : w = [] := by simpa using hw
    subst this
    rfl
  | succ k' =>
    have hlast := F.room k' (by rw [hr.length]; omega)
    unfold limF at hlast
    rw [← hk0] at hlast
    have hle : f.sum ≤ w.count p := by omega
    refine Nat.le_antisymm hle (Nat.not_lt.mp fun hlt => ?_)
    -- no prefix is full
    have key : ∀ d, d ≤ k → ∀ j, k - d ≤ j → j ≤ k → PSm f R k + PSm c R j = PSm c R k + PSm f R j := by
      intro d
      induction d with
      | zero =>
        intro _ j h1 h2
        have : j = k := by omega
        subst this
        omega
      | succ d ih =>
        intro hd j hj1 hj2
        by_cases hjd : k - d ≤ j
        · exact ih (by omega) j hjd hj2
        have ej : j = k - (d + 1) := by omega
        subst ej
        have ih' := ih (by omega) (k - d) (Nat.le_refl _) (by omega)
        have hj : k - (d + 1) < R.length := by rw [hr.length]; omega
        have e1 : k - (d + 1) + 1 = k - d := by omega
        have p1 := PSm_succ (c := f) hj
        have p2 := PSm_succ (c := c) hj
        rw [e1] at p1 p2
        have hm : R.getD (k - (d + 1)) 0 ∈ R := by rw [getD_of hj]; exact List.getElem_mem hj
        have hix : R.idxOf (R.getD (k - (d + 1)) 0) = k - (d + 1) := by rw [getD_of hj]; exact hr.nd.idxOf_getElem _ hj
        generalize R.getD (k - (d + 1)) 0 = x at *
        have hxe : f.getD x 0 = c.getD x 0 := by
          rcases F.cert x (hk.mem (hr.lt hm)) with e | ⟨i, a1, a2, a3⟩
          · exact e
          · exfalso
            rw [hr.length] at a2
            have b1 : fs (restr f ((rk r1 r2 p).take ((rk r1 r2 p).idxOf x + 1))) R (i + 1) ≤ PSm f R (i + 1) := fs_le (fun z => restr_le _ _ z) R (i + 1)
            unfold limF at a3
            have b3 := ih (by omega) (i + 1) (by omega) (by omega)
            have b4 := cntw_lip (w := w) (p := p) (PSm_mono (c := c) (r := R) (show i + 1 ≤ k by omega))
            have b5 := PSm_mono (c := c) (r := R) (show i + 1 ≤ k by omega)
            omega
        omega
    have h0 := key k (Nat.le_refl _) 0 (by omega) (by omega)
    have z1 : PSm c R 0 = 0 := by rw [PSm_fs, fs_zero]
    have z2 : PSm f R 0 = 0 := by rw [PSm_fs, fs_zero]
    have : w.count p ≤ w.length := List.count_le_length
    omega
end
end TPE
end
section
set_option maxHeartbeats 400000
namespace TPE
open PySem L2
/-! ### the picks of a game, one behind the other -/
/-- from counts c0: the picks so far, the counts left; F n c x: with c left x is picked as pick n -/
inductive Run (F : Nat → List Nat → Nat → Prop) (c0 : List Nat) : List Nat → List Nat → Prop
  | nil : Run F c0 [] c0
  | snoc {ks c : List Nat} {x : Nat} (h : Run F c0 ks c) (hx : x < c.length) (h0 : 0 < c.getD x 0) (hF : F ks.length c x) : Run F c0 (ks ++ [x]) (dec c x)
def leftOf (c0 ks : List Nat) : List Nat := vN c0.length fun x => c0.getD x 0 - ks.count x
section
variable {F : Nat → List Nat → Nat → Prop} {c0 ks c : List Nat}
theorem Run.len (h : Run F c0 ks c) : c.length = c0.length := by
  induction h with
  | nil => rfl
  | snoc _ _ _ _ ih => rw [dec_length, ih]
theorem Run.get (h : Run F c0 ks c) : ∀ x, c.getD x 0 + ks.count x = c0.getD x 0 := by
  induction h with
  | nil => intro x; simp
  | @snoc ks c y h hx h0 hF ih =>
    intro x
    have := ih x
    rw [dec_at hx, List.count_append, List.count_singleton]
    by_cases e : x = y
    · subst e; rw [if_pos rfl, if_pos (beq_self_eq_true _)]; omega
    · rw [if_neg e, if_neg (by simpa using Ne.symm e)]; omega
theorem Run.lt (h : Run F c0 ks c) : ∀ x ∈ ks, x < c0.length := by
  induction h with
  | nil => intro x hx; cases hx
  | snoc h hx _ _ ih =>
    intro z hz
    rcases List.mem_append.mp hz with hz | hz
    · exact ih z hz
    · rw [List.mem_singleton.mp hz, ← h.len]; exact hx
theorem Run.sum (h : Run F c0 ks c) : c.sum + ks.length = c0.sum := by
  induction h with
  | nil => rfl
  | snoc h hx h0 _ ih =>
    have := dec_sum hx h0
    rw [List.length_append, List.length_singleton]
    omega
theorem Run.left (h : Run F c0 ks c) : c = leftOf c0 ks := by
  refine ext_getD (by rw [h.len]; simp [leftOf, vN_length]) fun x hx => ?_
  rw [leftOf, vN_get (by rw [← h.len]; exact hx)]
  have := h.get x
  omega
theorem Run.at (h : Run F c0 ks c) : ∀ n (hn : n < ks.length), ks[n] < c0.length ∧ 0 < (leftOf c0 (ks.take n)).getD ks[n] 0 ∧ F n (leftOf c0 (ks.take n)) ks[n] := by
  induction h with
  | nil => intro n hn; simp at hn
  | @snoc ks c y h hx h0 hF ih =>
    intro n hn
    rw [List.length_append, List.length_singleton] at hn
    by_cases hlt : n < ks.length
    · rw [List.getElem_append_left hlt, List.take_append_of_le_length (by omega)]
      exact ih n hlt
    · have e : n = ks.length := by omega
      subst e
      have e1 : (ks ++ [y])[ks.length]'(by simp) = y := by simp
      have e2 : (ks ++ [y]).take ks.length = ks := by simp
      rw [e1, e2, ← h.left]
      exact ⟨by rw [← h.len]; exact hx, h0, hF⟩
theorem Run.imp {F' : Nat → List Nat → Nat → Prop} (h : Run F c0 ks c) (k : ∀ n c x, F n c x → F' n c x) : Run F' c0 ks c := by
  induction h with
  | nil => exact .nil
  | snoc h hx h0 hF ih => exact .snoc ih hx h0 (k _ _ _ hF)
end
/-! ### a game's standings -/
section
variable {G : Gm} {F : Nat → List Nat → Nat → Prop} {cE : List Nat}
theorem Gm.left_is (n : Nat) : G.left n = leftOf G.c (G.ks.take n) := rfl
theorem Gm.bun_zero (p : Bool) (i : Nat) : (G.bun 0 p).getD i 0 = 0 := by
  unfold Gm.bun bndl
  rw [List.take_zero]
  by_cases h : i < G.c.length
  · rw [vN_get h]; simp
  · rw [List.getD_eq_getElem?_getD, List.getElem?_eq_none (by rw [vN_length]; omega)]; rfl
theorem Gm.bun_len (n : Nat) (p : Bool) : (G.bun n p).length = G.c.length := vN_length
theorem Gm.bun_succ (h : G.Ok) {n : Nat} (hn : n < G.ks.length) {q : Bool} (hq : G.w[n]? = some q) (p : Bool) : G.bun (n + 1) p = if q = p then (G.bun n p).set G.ks[n] ((G.bun n p).getD G.ks[n] 0 + 1) else G.bun n p := by
  have hw : n < G.w.length := by rw [← h.len]; exact hn
  have e : G.w[n] = q := by rw [List.getElem?_eq_getElem hw] at hq; exact Option.some.inj hq
  unfold Gm.bun
  rw [zip_getD h hn, e]
  unfold bndl
  by_cases hqp : q = p
  · subst hqp
    rw [if_pos rfl, vN_set, vN_get (h.kx _ (List.getElem_mem hn))]
    refine vN_eq fun y _ => ?_
    rw [List.count_append, List.count_singleton]
    by_cases e2 : y = G.ks[n]
    · subst e2; rw [if_pos rfl, if_pos (beq_self_eq_true _)]
    · rw [if_neg e2, if_neg (by simpa using Ne.symm e2)]; rfl
  · rw [if_neg hqp]
    refine vN_eq fun y _ => ?_
    rw [List.count_append, List.count_singleton, if_neg (by simp [hqp])]
    rfl
theorem Gm.rkOk (h : G.Ok) (p : Bool) : RkOk G.c.length (rk G.r1 G.r2 p) := rk_ok h.h1 h.h2 p
theorem Gm.stand_get (h : G.Ok) (o : Str) (p : Bool) (n i : Nat) (hi : i < G.c.length) : (G.stand o p n).getD i 0 = PSm (G.bun n p) (rk G.r1 G.r2 p) (i + 1) + (G.come o p n).getD i 0 := by
  unfold Gm.stand
  rw [vN_get hi, psums_getD (by rw [(Gm.rkOk h p).length]; exact hi)]
theorem Gm.left_dec (h : G.Ok) {n : Nat} (hn : n < G.ks.length) : G.left (n + 1) = dec (G.left n) G.ks[n] := by
  rw [Gm.left_succ hn]
  unfold dec
  have : (G.left n).getD G.ks[n] 0 = G.c.getD G.ks[n] 0 - (G.ks.take n).count G.ks[n] := Gm.left_get (h.kx _ (List.getElem_mem hn))
  rw [this]
  congr 1
theorem Gm.drop_eq (h : G.Ok) {n : Nat} (hn : n < G.ks.length) {q : Bool} (hq : G.w[n]? = some q) : G.w.drop n = q :: G.w.drop (n + 1) := by
  have hw : n < G.w.length := by rw [← h.len]; exact hn
  rw [List.drop_eq_getElem_cons hw]
  rw [List.getElem?_eq_getElem hw] at hq
  rw [Option.some.inj hq]
/-! ### hostile -/
/-- a pick by which no sure number falls -/
def SafeP (c r : List Nat) (w : List Bool) (p : Bool) (x : Nat) : Prop := ∀ i, i < r.idxOf x → 0 < PSm c r (i + 1) → cntw w p (PSm c r (i + 1)) < cntw w p (PSm c r (i + 1) + 1)
theorem host_own {c r : List Nat} {x : Nat} {v : List Bool} {p : Bool} (hr : r.Nodup) (hx : x ∈ r) (hl : x < c.length) (h0 : 0 < c.getD x 0) (hs : SafeP c r (p :: v) p x) (i : Nat) : cntw (p :: v) p (PSm c r (i + 1)) ≤ (if r.idxOf x < i + 1 then 1 else 0) + cntw v p (PSm (dec c x) r (i + 1)) := by
  have hd := PSm_dec hr hx hl h0 (i + 1)
  by_cases h : r.idxOf x < i + 1
  · rw [if_pos h] at hd ⊢
    rw [← hd, cntw_own]
    omega
  · rw [if_neg h] at hd ⊢
    rw [Nat.add_zero] at hd
    rw [hd]
    cases hm : PSm c r (i + 1) with
    | zero => rw [cntw_zero]; exact Nat.zero_le _
    | succ m =>
      have := hs i (by omega) (by omega)
      rw [hm, cntw_own, cntw_own] at this
      rw [cntw_own]
      omega
theorem host_opp {c r : List Nat} {x : Nat} {v : List Bool} {p : Bool} (hr : r.Nodup) (hx : x ∈ r) (hl : x < c.length) (h0 : 0 < c.getD x 0) (i : Nat) : cntw ((!p) :: v) p (PSm c r (i + 1)) ≤ cntw v p (PSm (dec c x) r (i + 1)) := by
  have hd := PSm_dec hr hx hl h0 (i + 1)
  by_cases h : r.idxOf x < i + 1
  · rw [if_pos h] at hd
    rw [← hd, cntw_opp]
    exact Nat.le_refl _
  · rw [if_neg h, Nat.add_zero] at hd
    rw [hd]
    cases hm : PSm c r (i + 1) with
    | zero => rw [cntw_zero]; exact Nat.zero_le _
    | succ m => rw [cntw_opp]; exact (cntw_succ v p m).1
/-- the standing of a safe player never falls -/
theorem Gm.host_step (h : G.Ok) (p : Bool) (R : Run (fun n c x => G.w[n]? = some p → SafeP c (rk G.r1 G.r2 p) (G.w.drop n) p x) G.c G.ks cE) {n : Nat} (hn : n < G.ks.length) {i : Nat} (hi : i < G.c.length) : (G.stand "hostile" p n).getD i 0 ≤ (G.stand "hostile" p (n + 1)).getD i 0 := by
  have hr := Gm.rkOk h p
  have hw : n < G.w.length := by rw [← h.len]; exact hn
  obtain ⟨a1, a2, a3⟩ := R.at n hn
  rw [← Gm.left_is] at a2 a3
  have hq : G.w[n]? = some G.w[n] := List.getElem?_eq_getElem hw
  have hxr : G.ks[n] ∈ rk G.r1 G.r2 p := hr.mem a1
  have hxl : G.ks[n] < (G.left n).length := by rw [Gm.left_length]; exact a1
  have hcome : ∀ n, (G.come "hostile" p n).getD i 0 = cntw (G.w.drop n) p (PSm (G.left n) (rk G.r1 G.r2 p) (i + 1)) := fun n => by
    unfold Gm.come
    rw [if_pos rfl, caps_getD (by rw [hr.length]; exact hi)]
  rw [Gm.stand_get h _ _ _ _ hi, Gm.stand_get h _ _ _ _ hi, hcome, hcome, Gm.left_dec h hn, Gm.drop_eq h hn hq, Gm.bun_succ h hn hq p]
  by_cases e : G.w[n] = p
  · rw [if_pos e, e]
    have hs := a3 (by rw [hq, e])
    rw [Gm.drop_eq h hn hq, e] at hs
    have h1 := host_own hr.nd hxr hxl a2 hs i
    have h2 := PSm_set (v := (G.bun n p).getD G.ks[n] 0 + 1) hr.nd hxr (show G.ks[n] < (G.bun n p).length by rw [Gm.bun_len]; exact a1) (i + 1)
    split at h2 <;> rename_i hh
    · rw [if_pos hh] at h1; omega
    · rw [if_neg hh] at h1; omega
  · rw [if_neg e]
    have e' : G.w[n] = !p := by cases hh : G.w[n] <;> cases p <;> simp_all
    rw [e']
    have h1 := host_opp (v := G.w.drop (n + 1)) (p := p) hr.nd hxr hxl a2 i
    omega
theorem Gm.host_noFall (h : G.Ok) (p : Bool) (R : Run (fun n c x => G.w[n]? = some p → SafeP c (rk G.r1 G.r2 p) (G.w.drop n) p x) G.c G.ks cE) : G.NoFall "hostile" p := fun n hn _ i hi => Gm.host_step h p R hn hi
theorem Gm.host_end (h : G.Ok) (p : Bool) (R : Run (fun n c x => G.w[n]? = some p → SafeP c (rk G.r1 G.r2 p) (G.w.drop n) p x) G.c G.ks cE) {i : Nat} (hi : i < G.c.length) : (caps G.w p G.c (rk G.r1 G.r2 p)).getD i 0 ≤ (psums (G.bun G.ks.length p) (rk G.r1 G.r2 p)).getD i 0 := by
  have hr := Gm.rkOk h p
  have hir : i < (rk G.r1 G.r2 p).length := by rw [hr.length]; exact hi
  have key : ∀ n, n ≤ G.ks.length → (G.stand "hostile" p 0).getD i 0 ≤ (G.stand "hostile" p n).getD i 0 := by
    intro n
    induction n with
    | zero => intro _; exact Nat.le_refl _
    | succ n ih => intro hn; exact Nat.le_trans (ih (by omega)) (Gm.host_step h p R hn hi)
  have := key _ (Nat.le_refl _)
  rw [Gm.stand_get h _ _ _ _ hi, Gm.stand_get h _ _ _ _ hi] at this
  unfold Gm.come at this
  rw [if_pos rfl, if_pos rfl, caps_getD hir, caps_getD hir, Gm.left_zero, List.drop_zero] at this
  have z : G.w.drop G.ks.length = [] := List.drop_eq_nil_of_le (by rw [h.len]; exact Nat.le_refl _)
  rw [z, cntw_nil, Nat.add_zero] at this
  rw [caps_getD hir, psums_getD hir]
  omega
/-- what safe_picks gives -/
theorem harm_mem {c : List Nat} {b : Nat → Bool} {x : Nat} : ∀ {r : List Nat} {T : Nat} {f : List Nat}, x ∈ harmF c b r T f → x ∈ f ∨ (x ∈ r ∧ 0 < c.getD x 0 ∧ ∀ i, i < r.idxOf x → 0 < T + PSm c r (i + 1) → b (T + PSm c r (i + 1)) = true)
  | [], T, f, h => .inl h
  | y :: r, T, f, h => by
    have hone : x ∈ [y].filter (fun x => decide (0 < c.getD x 0)) → x = y ∧ 0 < c.getD x 0 := fun h => by
      obtain ⟨h1, h2⟩ := List.mem_filter.mp h
      exact ⟨List.mem_singleton.mp h1, of_decide_eq_true h2⟩
    have own : x = y ∧ 0 < c.getD x 0 → x ∈ y :: r ∧ 0 < c.getD x 0 ∧ ∀ i, i < (y :: r).idxOf x → 0 < T + PSm c (y :: r) (i + 1) → b (T + PSm c (y :: r) (i + 1)) = true := fun ⟨e, h0⟩ => by
      subst e
      refine ⟨List.mem_cons_self, h0, fun i hi => ?_⟩
      rw [List.idxOf_cons_self] at hi
      exact absurd hi (Nat.not_lt_zero _)
    unfold harmF at h
    split at h
    · rcases List.mem_append.mp h with h | h
      · exact .inl h
      · exact .inr (own (hone h))
    · rename_i hno
      rcases harm_mem h with h | ⟨h1, h2, h3⟩
      · rcases List.mem_append.mp h with h | h
        · exact .inl h
        · exact .inr (own (hone h))
      · right
        by_cases e : y = x
        · exact own ⟨e.symm, h2⟩
        refine ⟨List.mem_cons_of_mem _ h1, h2, fun i hi hp => ?_⟩
        rw [idx_ne e] at hi
        have hps : ∀ i, PSm c (y :: r) (i + 1) = c.getD y 0 + PSm c r i := fun i => by rw [PSm_fs, fs_cons]; rfl
        cases i with
        | zero =>
          rw [hps] at hp ⊢
          have z : PSm c r 0 = 0 := by rw [PSm_fs, fs_zero]
          rw [z, Nat.add_zero] at hp ⊢
          cases hb : b (T + c.getD y 0) with
          | true => rfl
          | false => exact absurd ⟨hp, hb⟩ hno
        | succ i =>
          have := h3 i (by omega)
          rw [hps] at hp ⊢
          rw [← Nat.add_assoc] at hp ⊢
          exact this hp
theorem harm_keep {c : List Nat} {b : Nat → Bool} : ∀ {r : List Nat} {T : Nat} {f : List Nat}, f ≠ [] → harmF c b r T f ≠ []
  | [], _, _, h => h
  | y :: r, T, f, h => by
    have h2 : f ++ [y].filter (fun x => decide (0 < c.getD x 0)) ≠ [] := fun e => h (List.append_eq_nil_iff.mp e).1
    unfold harmF
    split
    · exact h2
    · exact harm_keep h2
theorem harm_ne {c : List Nat} {b : Nat → Bool} : ∀ {r : List Nat}, (∃ x ∈ r, 0 < c.getD x 0) → harmF c b r 0 [] ≠ []
  | [], ⟨x, h, _⟩ => by cases h
  | y :: r, ⟨x, hx, h0⟩ => by
    by_cases hy : 0 < c.getD y 0
    · have h2 : ([] : List Nat) ++ [y].filter (fun x => decide (0 < c.getD x 0)) ≠ [] := by rw [fil_yes (q := fun x => decide (0 < c.getD x 0)) (decide_eq_true hy)]; simp
      unfold harmF
      split
      · exact h2
      · exact harm_keep h2
    · have e : c.getD y 0 = 0 := by omega
      unfold harmF
      rw [e, if_neg (by omega), fil_no (q := fun x => decide (0 < c.getD x 0)) (decide_eq_false hy), List.append_nil]
      refine harm_ne ⟨x, (List.mem_cons.mp hx).resolve_left fun e2 => ?_, h0⟩
      subst e2; omega
theorem safe_mem {c r : List Nat} {w : List Bool} {p : Bool} {x : Nat} (h : x ∈ safeK c r w p) : x ∈ r ∧ 0 < c.getD x 0 ∧ SafeP c r w p x := by
  rcases harm_mem h with h | ⟨h1, h2, h3⟩
  · cases h
  · refine ⟨h1, h2, fun i hi hp => ?_⟩
    have := h3 i hi (by omega)
    rw [Nat.zero_add] at this
    exact of_decide_eq_true this
theorem bl_safe {c r : List Nat} {w : List Bool} {p : Bool} (hr : r.Nodup) (h : ∃ x ∈ r, 0 < c.getD x 0) : SafeP c r w p (bl c r) := fun i hi hp => by
  obtain ⟨_, _, g3⟩ := bl_spec h
  have := PSm_zero (c := c) (r := r) (i := i + 1) (fun y hy hlt => g3 y hy (by omega)) hr
  omega
end
end TPE
end
section
set_option maxHeartbeats 400000
namespace TPE
open PySem L2
section
variable {G : Gm} {F : Nat → List Nat → Nat → Prop} {cE : List Nat}
theorem Gm.wlen (h : G.Ok) (n : Nat) (hn : n ≤ G.ks.length) : (G.w.drop n).length = (G.left n).sum := by
  have h1 := Gm.left_sum h n hn
  have h2 := h.sum
  have h3 := h.len
  rw [List.length_drop]
  omega
theorem inc_get {b : List Nat} {x v y : Nat} (h : x < b.length) : (b.set x v).getD y 0 = if y = x then v else b.getD y 0 := getD_set h
theorem zero_of_sum : ∀ {l : List Nat}, l.sum = 0 → ∀ i, l.getD i 0 = 0
  | [], _, i => by simp
  | a :: l, h, i => by
    rw [List.sum_cons] at h
    cases i with
    | zero => simp; omega
    | succ i => simp only [List.getD_cons_succ]; exact zero_of_sum (by omega) i
theorem not_eq_opp {q p : Bool} (h : q ≠ p) : q = !p := by cases q <;> cases p <;> simp_all
/-! ### plain -/
/-- the picks of a player with the best bundle, against a plain one -/
def PlainF (r1 r2 : List Nat) (w : List Bool) (p : Bool) (n : Nat) (c : List Nat) (x : Nat) : Prop := x = if w[n]? = some p then bl (bestB (w.drop n) p c r1 r2) (rk r1 r2 !p) else bl c (rk r1 r2 !p)
/-- a bundle with an item left -/
theorem best_ex {k : Nat} {r1 r2 c : List Nat} (h1 : RkOk k r1) (h2 : RkOk k r2) (hc : c.length = k) (p : Bool) (v : List Bool) (hw : (p :: v).length ≤ c.sum) : ∃ x ∈ rk r1 r2 (!p), 0 < (bestB (p :: v) p c r1 r2).getD x 0 := by
  have hs := best_sum h1 h2 hc p (p :: v) hw
  rw [List.count_cons_self] at hs
  exact ex_left (rk_ok h1 h2 (!p)) (by rw [bestB_length]; exact hc) (by omega)
theorem Gm.plain_inv (h : G.Ok) (p : Bool) (R : Run (PlainF G.r1 G.r2 G.w p) G.c G.ks cE) : ∀ n, n ≤ G.ks.length → ∀ x, (G.bun n p).getD x 0 + (bestB (G.w.drop n) p (G.left n) G.r1 G.r2).getD x 0 = (bestB G.w p G.c G.r1 G.r2).getD x 0 := by
  intro n
  induction n with
  | zero => intro _ x; rw [Gm.bun_zero, Gm.left_zero, List.drop_zero, Nat.zero_add]
  | succ n ih =>
    intro hn' x
    have hn : n < G.ks.length := hn'
    have hw : n < G.w.length := by rw [← h.len]; exact hn
    have hq : G.w[n]? = some G.w[n] := List.getElem?_eq_getElem hw
    obtain ⟨a1, a2, a3⟩ := R.at n hn
    rw [← Gm.left_is] at a2 a3
    have hll : (G.left n).length = G.c.length := Gm.left_length
    have hxl : G.ks[n] < (G.left n).length := by rw [hll]; exact a1
    have hwl := Gm.wlen h n (by omega)
    rw [← ih (by omega) x, Gm.left_dec h hn, Gm.bun_succ h hn hq p]
    unfold PlainF at a3
    by_cases e : G.w[n] = p
    · rw [if_pos (by rw [hq, e])] at a3
      rw [if_pos e]
      rw [Gm.drop_eq h hn hq, e] at hwl a3 ⊢
      have hb := best_ex h.h1 h.h2 hll p (G.w.drop (n + 1)) (Nat.le_of_eq hwl)
      have key := best_own h.h1 h.h2 hll p (G.w.drop (n + 1)) hb
      obtain ⟨g1, g2, _⟩ := bl_spec hb
      rw [← a3] at key g2
      rw [key, inc_get (by rw [Gm.bun_len]; exact a1), dec_at (by rw [bestB_length]; exact hxl)]
      by_cases ex : x = G.ks[n]
      · subst ex; rw [if_pos rfl, if_pos rfl]; omega
      · rw [if_neg ex, if_neg ex]
    · rw [if_neg (by rw [hq]; exact fun z => e (Option.some.inj z))] at a3
      rw [if_neg e]
      rw [Gm.drop_eq h hn hq, not_eq_opp e] at hwl ⊢
      have key := (best_opp h.h1 h.h2 hll p (G.w.drop (n + 1)) (by rw [← hwl]; simp)).1
      rw [← a3] at key
      rw [key]
theorem Gm.plain_noFall (h : G.Ok) (p : Bool) (R : Run (PlainF G.r1 G.r2 G.w p) G.c G.ks cE) : G.NoFall "plain" p := fun n hn _ i hi => by
  have hr := Gm.rkOk h p
  have hir : i < (rk G.r1 G.r2 p).length := by rw [hr.length]; exact hi
  have key : ∀ n, n ≤ G.ks.length → (G.stand "plain" p n).getD i 0 = PSm (bestB G.w p G.c G.r1 G.r2) (rk G.r1 G.r2 p) (i + 1) := fun n hn => by
    rw [Gm.stand_get h _ _ _ _ hi]
    unfold Gm.come
    rw [if_neg (by decide), if_pos rfl, psums_getD hir]
    have inv := Gm.plain_inv h p R n hn
    have e : ∀ (r : List Nat) (i : Nat), PSm (G.bun n p) r i + PSm (bestB (G.w.drop n) p (G.left n) G.r1 G.r2) r i = PSm (bestB G.w p G.c G.r1 G.r2) r i := fun r => by
      induction r with
      | nil => intro i; rw [PSm_fs, PSm_fs, PSm_fs, fs_nil, fs_nil, fs_nil]
      | cons y r ih =>
        intro i
        cases i with
        | zero => rw [PSm_fs, PSm_fs, PSm_fs, fs_zero, fs_zero, fs_zero]
        | succ i =>
          have := ih i
          have := inv y
          rw [PSm_fs, PSm_fs, PSm_fs] at *
          rw [fs_cons, fs_cons, fs_cons]
          omega
    exact e _ _
  rw [key n (by omega), key (n + 1) (by omega)]
  exact Nat.le_refl _
theorem Gm.plain_end (h : G.Ok) (p : Bool) (R : Run (PlainF G.r1 G.r2 G.w p) G.c G.ks cE) : G.bun G.ks.length p = bestB G.w p G.c G.r1 G.r2 := by
  refine ext_getD (by rw [Gm.bun_len, bestB_length]) fun x _ => ?_
  have inv := Gm.plain_inv h p R _ (Nat.le_refl _) x
  have hwl := Gm.wlen h _ (Nat.le_refl G.ks.length)
  have hs := best_sum h.h1 h.h2 (show (G.left G.ks.length).length = G.c.length from Gm.left_length) p (G.w.drop G.ks.length) (Nat.le_of_eq hwl)
  have z : G.w.drop G.ks.length = [] := List.drop_eq_nil_of_le (by rw [h.len]; exact Nat.le_refl _)
  rw [z, List.count_nil] at hs
  have := zero_of_sum hs x
  rw [z] at inv
  omega
/-! ### thinking -/
/-- both ends are all -/
theorem end_tot {k : Nat} {r1 r2 c : List Nat} (h1 : RkOk k r1) (h2 : RkOk k r2) (hc : c.length = k) {w : List Bool} (hw : w.length = c.sum) {x : Nat} (hx : x < c.length) : (endB r1 r2 c w true).getD x 0 + (endB r1 r2 c w false).getD x 0 = c.getD x 0 := by
  have hl : w.reverse.length = w.length := List.length_reverse
  obtain ⟨s1, s2⟩ := plC_sum (h2.rev) (h1.rev) w.reverse c hc (by omega)
  have hz := zero_of_sum (l := plC r2.reverse r1.reverse w.reverse c) (by omega) x
  have := s2 x
  unfold endB bndl
  rw [vN_get hx, vN_get hx, cnt_pair, List.map_snd_zip (by rw [plK_length]; exact Nat.le_refl _)]
  omega
theorem end_other {k : Nat} {r1 r2 c d : List Nat} (h1 : RkOk k r1) (h2 : RkOk k r2) (hc : c.length = k) {w : List Bool} (hw : w.length = c.sum) (p : Bool) {x : Nat} (hx : x < c.length) : (endB r1 r2 c w p).getD x 0 + (endB r1 r2 c w !p).getD x 0 = c.getD x 0 := by
  have := end_tot h1 h2 hc hw hx
  cases p
  · show (endB r1 r2 c w false).getD x 0 + (endB r1 r2 c w true).getD x 0 = _
    omega
  · exact this
/-- a best first pick leads to the end of both -/
theorem bf_step {k : Nat} {r1 r2 c : List Nat} (h1 : RkOk k r1) (h2 : RkOk k r2) (hc : c.length = k) {p : Bool} {v : List Bool} (hw : (p :: v).length = c.sum) {x : Nat} (hx : x < c.length) (hb : isBf r1 r2 c (p :: v) p x = true) (q : Bool) (y : Nat) (hy : y < c.length) :
    (endB r1 r2 (dec c x) v q).getD y 0 + (if q = p ∧ y = x then 1 else 0) = (endB r1 r2 c (p :: v) q).getD y 0 := by
  unfold isBf at hb
  rw [Bool.and_eq_true, decide_eq_true_eq, decide_eq_true_eq] at hb
  obtain ⟨h0, he⟩ := hb
  have hds := dec_sum hx h0
  have hvl : v.length = (dec c x).sum := by simp at hw; omega
  have hown : (endB r1 r2 (dec c x) v p).getD y 0 + (if y = x then 1 else 0) = (endB r1 r2 c (p :: v) p).getD y 0 := by
    rw [← he]
    show _ = ((endB r1 r2 (dec c x) v p).set x ((endB r1 r2 (dec c x) v p).getD x 0 + 1)).getD y 0
    rw [getD_set (by rw [endB_length, dec_length]; exact hx)]
    by_cases e : y = x
    · subst e; rw [if_pos rfl, if_pos rfl]
    · rw [if_neg e, if_neg e]; rfl
  by_cases e : q = p
  · subst e
    simpa using hown
  · have e' := not_eq_opp e
    subst e'
    rw [if_neg fun z => e z.1, Nat.add_zero]
    have t1 := end_other (d := c) h1 h2 hc hw p hy
    have t2 := end_other (d := c) h1 h2 (show (dec c x).length = k by rw [dec_length]; exact hc) hvl p (show y < (dec c x).length by rw [dec_length]; exact hy)
    rw [dec_at hx] at t2
    by_cases ex : y = x
    · subst ex
      rw [if_pos rfl] at t2 hown
      omega
    · rw [if_neg ex] at t2 hown
      omega
/-- there is one -/
theorem bf_ex {k : Nat} {r1 r2 c : List Nat} (h1 : RkOk k r1) (h2 : RkOk k r2) (hc : c.length = k) {p : Bool} {v : List Bool} (hw : (p :: v).length = c.sum) : bfp r1 r2 c (p :: v) p ≠ [] := by
  have h1r := h1.rev
  have h2r := h2.rev
  have hvr : v.reverse.length = v.length := List.length_reverse
  have hv1 : v.length + 1 = c.sum := by simpa using hw
  obtain ⟨s1, s2⟩ := plC_sum h2r h1r v.reverse c hc (by omega)
  have hR := rk_ok h2r h1r p
  have hex : ∃ x ∈ rk r2.reverse r1.reverse p, 0 < (plC r2.reverse r1.reverse v.reverse c).getD x 0 := ex_left hR (by rw [plC_length]; exact hc) (by omega)
  obtain ⟨g1, g2, _⟩ := bl_spec hex
  generalize hX : bl (plC r2.reverse r1.reverse v.reverse c) (rk r2.reverse r1.reverse p) = x at *
  have hxk : x < k := hR.lt g1
  have hxc : x < c.length := by rw [hc]; exact hxk
  have hc0 : 0 < c.getD x 0 := by have := s2 x; omega
  -- what is left is x alone
  have hone : (plC r2.reverse r1.reverse v.reverse c).getD x 0 = 1 := by
    have a := dec_sum (c := plC r2.reverse r1.reverse v.reverse c) (x := x) (by rw [plC_length]; exact hxc) g2
    have b := zero_of_sum (l := dec (plC r2.reverse r1.reverse v.reverse c) x) (by omega) x
    rw [dec_at (by rw [plC_length]; exact hxc), if_pos rfl] at b
    omega
  have hle : ∀ y, (dec c x).getD y 0 ≤ c.getD y 0 := fun y => by
    rw [dec_at hxc]
    by_cases e : y = x
    · subst e; rw [if_pos rfl]; omega
    · rw [if_neg e]; exact Nat.le_refl _
  have hcnt : ∀ y, (plK r2.reverse r1.reverse v.reverse c).count y ≤ (dec c x).getD y 0 := fun y => by
    have := s2 y
    rw [dec_at hxc]
    by_cases e : y = x
    · subst e; rw [if_pos rfl]; omega
    · rw [if_neg e]; omega
  have hlike : plK r2.reverse r1.reverse v.reverse (dec c x) = plK r2.reverse r1.reverse v.reverse c := (plK_like v.reverse c (dec c x) (by rw [dec_length]) (fun q y hy => by rw [hc]; exact (rk_ok h2r h1r q).lt hy) (ex_along h2r h1r hc (by omega)) hle hcnt).1
  have hK : plK r2.reverse r1.reverse (p :: v).reverse c = plK r2.reverse r1.reverse v.reverse c ++ [x] := by
    rw [List.reverse_cons, plK_append, ← hX]
    rfl
  have hZ : (p :: v).reverse.zip (plK r2.reverse r1.reverse (p :: v).reverse c) = v.reverse.zip (plK r2.reverse r1.reverse v.reverse c) ++ [(p, x)] := by
    rw [hK, List.reverse_cons, List.zip_append (by rw [plK_length])]
    rfl
  have hbf : isBf r1 r2 c (p :: v) p x = true := by
    unfold isBf
    rw [Bool.and_eq_true, decide_eq_true_eq, decide_eq_true_eq]
    refine ⟨hc0, ?_⟩
    show (endB r1 r2 (dec c x) v p).set x ((endB r1 r2 (dec c x) v p).getD x 0 + 1) = endB r1 r2 c (p :: v) p
    unfold endB
    rw [hZ, hlike]
    unfold bndl
    rw [dec_length, vN_set, vN_get hxc]
    refine vN_eq fun y _ => ?_
    rw [List.count_append, List.count_singleton]
    by_cases e : y = x
    · subst e; rw [if_pos rfl, if_pos (beq_self_eq_true _)]
    · rw [if_neg e, if_neg (by simpa using Ne.symm e)]; rfl
  intro e
  have hm : x ∈ bfp r1 r2 c (p :: v) p := List.mem_filter.mpr ⟨(rk_ok h1 h2 p).mem hxk, hbf⟩
  rw [e] at hm
  cases hm
theorem bf_mem {r1 r2 c : List Nat} {w : List Bool} {p : Bool} {x : Nat} (h : x ∈ bfp r1 r2 c w p) : x ∈ rk r1 r2 p ∧ isBf r1 r2 c w p x = true ∧ 0 < c.getD x 0 := by
  obtain ⟨h1, h2⟩ := List.mem_filter.mp h
  refine ⟨h1, h2, ?_⟩
  unfold isBf at h2
  rw [Bool.and_eq_true] at h2
  exact of_decide_eq_true h2.1
def ThinkF (r1 r2 : List Nat) (w : List Bool) (n : Nat) (c : List Nat) (x : Nat) : Prop := ∀ p, w[n]? = some p → isBf r1 r2 c (w.drop n) p x = true
theorem Gm.think_inv (h : G.Ok) (R : Run (ThinkF G.r1 G.r2 G.w) G.c G.ks cE) (p : Bool) : ∀ n, n ≤ G.ks.length → ∀ x, x < G.c.length → (G.bun n p).getD x 0 + (endB G.r1 G.r2 (G.left n) (G.w.drop n) p).getD x 0 = (endB G.r1 G.r2 G.c G.w p).getD x 0 := by
  intro n
  induction n with
  | zero => intro _ x _; rw [Gm.bun_zero, Gm.left_zero, List.drop_zero, Nat.zero_add]
  | succ n ih =>
    intro hn' x hxc
    have hn : n < G.ks.length := hn'
    have hw : n < G.w.length := by rw [← h.len]; exact hn
    have hq : G.w[n]? = some G.w[n] := List.getElem?_eq_getElem hw
    obtain ⟨a1, a2, a3⟩ := R.at n hn
    rw [← Gm.left_is] at a2 a3
    have hll : (G.left n).length = G.c.length := Gm.left_length
    have hwl := Gm.wlen h n (by omega)
    have hb := a3 _ hq
    rw [← ih (by omega) x hxc, Gm.left_dec h hn, Gm.bun_succ h hn hq p]
    rw [Gm.drop_eq h hn hq] at hwl hb ⊢
    have key := bf_step h.h1 h.h2 hll hwl (by rw [hll]; exact a1) hb p x (by rw [hll]; exact hxc)
    rw [← key]
    by_cases e : G.w[n] = p
    · rw [if_pos e, inc_get (by rw [Gm.bun_len]; exact a1)]
      by_cases ex : x = G.ks[n]
      · subst ex; rw [if_pos rfl, if_pos ⟨e.symm, rfl⟩]; omega
      · rw [if_neg ex, if_neg fun z => ex z.2]; rfl
    · rw [if_neg e, if_neg fun z => e z.1.symm]; rfl
theorem Gm.think_noFall (h : G.Ok) (R : Run (ThinkF G.r1 G.r2 G.w) G.c G.ks cE) (p : Bool) : G.NoFall "thinking" p := fun n hn _ i hi => by
  have hr := Gm.rkOk h p
  have hir : i < (rk G.r1 G.r2 p).length := by rw [hr.length]; exact hi
  have key : ∀ n, n ≤ G.ks.length → (G.stand "thinking" p n).getD i 0 = PSm (endB G.r1 G.r2 G.c G.w p) (rk G.r1 G.r2 p) (i + 1) := fun n hn => by
    rw [Gm.stand_get h _ _ _ _ hi]
    unfold Gm.come
    rw [if_neg (by decide), if_neg (by decide), psums_getD hir]
    have inv := Gm.think_inv h R p n hn
    have e : ∀ (r : List Nat), (∀ y ∈ r, y < G.c.length) → ∀ (i : Nat), PSm (G.bun n p) r i + PSm (endB G.r1 G.r2 (G.left n) (G.w.drop n) p) r i = PSm (endB G.r1 G.r2 G.c G.w p) r i := fun r => by
      induction r with
      | nil => intro _ i; rw [PSm_fs, PSm_fs, PSm_fs, fs_nil, fs_nil, fs_nil]
      | cons y r ih =>
        intro hy i
        cases i with
        | zero => rw [PSm_fs, PSm_fs, PSm_fs, fs_zero, fs_zero, fs_zero]
        | succ i =>
          have := ih (fun z hz => hy z (List.mem_cons_of_mem _ hz)) i
          have := inv y (hy y List.mem_cons_self)
          rw [PSm_fs, PSm_fs, PSm_fs] at *
          rw [fs_cons, fs_cons, fs_cons]
          omega
    exact e _ (fun y hy => hr.lt hy) _
  rw [key n (by omega), key (n + 1) (by omega)]
  exact Nat.le_refl _
theorem Gm.think_end (h : G.Ok) (R : Run (ThinkF G.r1 G.r2 G.w) G.c G.ks cE) (p : Bool) : G.bun G.ks.length p = endB G.r1 G.r2 G.c G.w p := by
  refine ext_getD (by rw [Gm.bun_len, endB_length]) fun x hx => ?_
  rw [Gm.bun_len] at hx
  have inv := Gm.think_inv h R p _ (Nat.le_refl _) x hx
  have hwl := Gm.wlen h _ (Nat.le_refl G.ks.length)
  have z : G.w.drop G.ks.length = [] := List.drop_eq_nil_of_le (by rw [h.len]; exact Nat.le_refl _)
  rw [z] at inv
  have e : (endB G.r1 G.r2 (G.left G.ks.length) [] p).getD x 0 = 0 := by
    unfold endB bndl
    rw [vN_get (by rw [Gm.left_length]; exact hx)]
    simp
  omega
end
end TPE
end
section
set_option maxHeartbeats 400000
namespace TPE
open PySem PySem.Spec PyProof.Rows L2 TPI TPZ RT
theorem occAB (p : Bool) : Builtin.Str.occurrences ("AB" : Str) (SW [p]) 0 ("AB" : Str).length 1 = [if p then 0 else 1] := by cases p <;> decide +kernel
section
variable [Tb] {M : Option Addr} {K : PySem.W.Frag} {Γ : List Slt} {ta tb te : TE} {c c2 : Slt} {P : Po} {i j k : Nat} {x : PyData} {rest : List PyData}
/-- two slots by way of a tuple -/
theorem ds_parT (h1 : EvC M ta Γ c) (h2 : EvC M tb Γ c2) (hik : i ≠ k) (hn : P.nx ((Γ.set i c).set k c2)) : Ds M (tAsg (tTup (tCons ta (tCons tb tNil))) (gTup K 2 (gCons (gName i) (gCons (gName k) gNil)))) Γ P := fun B O0 O σ H E D p => by
  refine h1 B O0 O σ H E _ fun v O1 H1 s hv => ?_
  have E1 := E.step s
  refine h2 B O0 O1 σ H1 E1 _ fun w O2 H2 s2 hw => ⟨by show 2 ≤ sizeLine; decide, fun a ha => ?_⟩
  have Ea : Sta M B O0 O1 (Γ.set i c) (σ.set i (some v)) H1 := E.set s hv
  have Eb : Sta M B O0 O2 ((Γ.set i c).set k c2) ((σ.set i (some v)).set k (some w)) H2 := Ea.set s2 hw
  have Ec := Eb.step (Eb.laid (o := .tup [v, w]) ha).1
  exact ⟨a, [v, w], rfl, SqT.of upd_same, rfl, v, [w], rfl, w, [], rfl, rfl, p.nx _ _ _ O2 hn Ec⟩
/-- some = [plan.pop(0)] -/
theorem ds_setPop (h : Γ[j]? = some (.own (ownL K (x :: rest)))) (hjk : j ≠ k) (hz : rest.length < 1000) (hn : P.nx ((Γ.set j (.own (ownL K rest))).set k (.val (dP K (.list [x]))))) : Ds M (tAsg (tLst (tCons (tBM K "list" rPopAt (tVar j) (tCons (tC (.int 0)) tNil)) tNil)) (gName k)) Γ P := fun B O0 O σ H E D p => by
  obtain ⟨l, ys, q1, q2, q3, q4⟩ := E.mut h
  obtain ⟨y, hy, hyd⟩ := q3.get (i := 0) (by simp : (x :: rest)[0]? = some x)
  have hlen := q3.length
  simp only [List.length_cons] at hlen
  have hix : ixN ys.length ((0 : Nat) : Int) = some 0 := by unfold ixN; rw [if_pos (by omega), if_pos (by omega)]; rfl
  refine ⟨_, q1, .inl ⟨rfl, ys, SqL.of q2⟩, l, ys, ((0 : Nat) : Int), 0, y, rfl, rfl, q2, by omega, by omega, (ixN_seq hix).1, hy, by show 1 ≤ sizeLine; decide, fun a ha => ?_⟩
  have E2 := q4 (ys.eraseIdx 0) rest (dpErase 0 q3)
  have hO : O l := by
    obtain ⟨fp, a1, a2⟩ := E.own
    obtain ⟨⟨v, b1, l', vs, b4, b5, b6, b7⟩, b8⟩ := a1 j _ h
    rw [q1] at b1
    cases b1
    cases b5
    exact (b8 _ (by rw [b4]; simp)).1
  have hyd2 : Dp K (wo (upd H l (.lst (ys.eraseIdx 0))) O) y x := dp_same (wo_same fun b o z1 z2 => ⟨z1, by have ne : b ≠ l := (fun e => z1 (by rw [e]; exact hO)); rw [upd_ne ne]; exact z2⟩) _ _ hyd
  obtain ⟨s3, sm, hw⟩ := pd_new E2 E2.refl (ob := .lst [y]) ha
  exact p.nx _ _ _ _ hn (E2.set s3 (c := .val (dP K (.list [x]))) (.lst (SqL.of hw) (.cons (dp_same sm _ _ hyd2) .nil)))
/-- "AB".index(p) -/
theorem el_sidx {t : TE} {p : Bool} (h : Ev M t Γ (dP K (pD p))) : Ev M (tBM K "str" (fun x xs H Q => ∃ a b i rest, x = .str a ∧ xs = [.str b] ∧ Builtin.Str.occurrences a b 0 a.length 1 = i :: rest ∧ Q (.int (i : Nat)) H) (tC (.str "AB")) (tCons t tNil)) Γ (dP K (nI (if p then 0 else 1))) :=
  ev_bmS ev_str (evj_cons (evj h) evj_nil) (fun B O0 O Γ σ H vs E hvs Q q => by
    obtain ⟨v, rfl, hx⟩ := one_of hvs
    cases Sta.jstr hx
    refine ⟨"AB", SW [p], if p then 0 else 1, [], rfl, rfl, ?_, q _ O H E.refl (.int _)⟩
    exact occAB p)
/-- branches come together: a state G a of some a with Q a -/
theorem dq_join {α : Type} {ts tu : TS} (Q : α → Prop) (G : α → List Slt) (h : Ds M ts Γ { P with nx := fun Γ' => ∃ a, Q a ∧ Le Γ' (G a) }) (h2 : ∀ a, Q a → Ds M tu (G a) P) : Ds M (tSeq ts tu) Γ P := ds_seq fun B O0 O σ H E D p =>
  h B O0 O σ H E D ⟨fun Γ' σ' H' O' ⟨a, h3, h4⟩ E' => p.nx Γ' σ' H' O' (ds_le h4 (h2 a h3)) E', p.rt, p.bk, p.ct⟩
/-- a name takes what is known by some a -/
theorem ds_setVX {α : Type} {p : α → Pd} (he : Ev M te Γ (exP p)) (hn : ∀ a, P.nx (Γ.set i (.val (p a)))) : Ds M (tAsg te (gName i)) Γ P := fun B O0 O σ H E D pk => he B O0 O σ H E _ fun v O1 H1 s ⟨a, hv⟩ => pk.nx _ _ H1 O1 (hn a) (E.set s (c := .val (p a)) hv)
/-- [one(source, l)] -/
theorem ev_lone1 {s : Addr} {ts E' : _} {l : List Nat} (h0 : l ≠ []) (hz : l.length < 1000) (h : Ev (some s) ts Γ (cP (.ref s))) (he : Ev (some s) te Γ (dP K (.list (LN l)))) : Ev (some s) (tLst (tCons (tCall (SpF (gLOne K)) [] E' (tCons ts (tCons te tNil))) tNil)) Γ (exP fun x : { x : Nat // x ∈ l } => dP K (.list (LN [x.1]))) := by
  have hl : (LN l).length = l.length := LN_length l
  have hp : 0 < l.length := List.length_pos_iff.mpr h0
  refine ev_lstX (K := K) (ds := [exP fun r : Fin (LN l).length => dP K (LN l)[r.1]]) (p := fun x : { x : Nat // x ∈ l } => LN [x.1]) (eva_cons (ev_call (eva_cons h (eva_cons he eva_nil)) (gLOne.mk s (LN l) (by omega) (by omega)) (.inr rfl)) eva_nil) (by show 1 ≤ sizeLine; decide) fun F vs hs => ?_
  cases hs with
  | cons h1 t =>
    cases t
    obtain ⟨r, h1⟩ := h1
    have hr : r.1 < l.length := by rw [← hl]; exact r.2
    refine ⟨⟨l[r.1], List.getElem_mem hr⟩, ?_⟩
    have e : (LN l)[r.1] = nI l[r.1] := by simp [LN]
    have h2 : Dp K F _ (LN l)[r.1] := h1
    rw [e] at h2
    exact .cons h2 .nil
theorem inAB : ∀ (z : PyData), z = .str "safe" ∨ z = .str "best" → ([PyData.str "safe", .str "best"].any fun y => PyData.eqv y z) = true := by
  rintro z (rfl | rfl) <;> rfl
end
theorem harm_len {c : List Nat} {b : Nat → Bool} : ∀ {r : List Nat} {T : Nat} {f : List Nat}, (harmF c b r T f).length ≤ f.length + r.length
  | [], _, f => by show f.length ≤ f.length + 0; omega
  | y :: r, T, f => by
    have h1 := List.length_filter_le (fun x => decide (0 < c.getD x 0)) [y]
    unfold harmF
    split
    · rw [List.length_append, List.length_cons]
      simp only [List.length_cons, List.length_nil] at h1
      omega
    · have := harm_len (c := c) (b := b) (r := r) (T := T + c.getD y 0) (f := f ++ [y].filter fun x => decide (0 < c.getD x 0))
      rw [List.length_append] at this
      simp only [List.length_cons, List.length_nil] at h1 ⊢
      omega
/-! ### the plan -/
def pln (r b : List Nat) : List Nat := ((order r b).map fun z => List.replicate z.2 z.1).flatten
theorem pln_cons (y : Nat) (r b : List Nat) : pln (y :: r) b = List.replicate (b.getD y 0) y ++ pln r b := by
  unfold pln order
  by_cases h : 0 < b.getD y 0
  · rw [List.filter_cons, if_pos (by simpa using h)]; rfl
  · rw [List.filter_cons, if_neg (by simpa using h)]
    have : b.getD y 0 = 0 := by omega
    rw [this]; rfl
theorem pln_congr {b d : List Nat} : ∀ {r : List Nat}, (∀ z ∈ r, b.getD z 0 = d.getD z 0) → pln r b = pln r d
  | [], _ => rfl
  | y :: r, h => by rw [pln_cons, pln_cons, h y List.mem_cons_self, pln_congr fun z hz => h z (List.mem_cons_of_mem _ hz)]
theorem pln_next {b : List Nat} : ∀ {r : List Nat}, r.Nodup → (∀ z ∈ r, z < b.length) → (∃ x ∈ r, 0 < b.getD x 0) → pln r b = bl b r :: pln r (dec b (bl b r))
  | [], _, _, ⟨x, h, _⟩ => by cases h
  | y :: r, hn, hl, hx => by
    obtain ⟨n1, n2⟩ := List.nodup_cons.mp hn
    have hy := hl y List.mem_cons_self
    by_cases h : 0 < b.getD y 0
    · have e : bl b (y :: r) = y := by unfold bl; rw [List.filter_cons, if_pos (by simpa using h)]; rfl
      rw [e, pln_cons, pln_cons, dec_at hy, if_pos rfl, pln_congr (b := dec b y) (d := b) (r := r) fun z hz => by rw [dec_at hy, if_neg fun (e : z = y) => n1 (e ▸ hz)]]
      obtain ⟨m, hm⟩ : ∃ m, b.getD y 0 = m + 1 := ⟨b.getD y 0 - 1, by omega⟩
      rw [hm]
      rfl
    · have e : bl b (y :: r) = bl b r := by unfold bl; rw [List.filter_cons, if_neg (by simpa using h)]
      obtain ⟨x, hx1, hx2⟩ := hx
      have hx1 : x ∈ r := (List.mem_cons.mp hx1).resolve_left fun e => h (e ▸ hx2)
      obtain ⟨g1, g2, _⟩ := bl_spec ⟨x, hx1, hx2⟩
      have hy0 : b.getD y 0 = 0 := by omega
      have hne : y ≠ bl b r := fun e => n1 (e ▸ g1)
      rw [e, pln_cons, pln_cons, dec_at (hl _ (List.mem_cons_of_mem _ g1)), if_neg hne, hy0]
      exact pln_next n2 (fun z hz => hl z (List.mem_cons_of_mem _ hz)) ⟨x, hx1, hx2⟩
theorem pln_len {r b : List Nat} (hn : r.Nodup) (hl : ∀ z ∈ r, z < b.length) : (pln r b).length = PSm b r r.length := by
  clear hn hl
  rw [PSm_fs]
  induction r with
  | nil => rfl
  | cons y r ih => rw [pln_cons, List.length_append, List.length_replicate, ih, List.length_cons, fs_cons]
end TPE
end
section
set_option maxHeartbeats 400000
namespace TPE
open PySem PySem.Spec PyProof.Rows L2 TPI TPZ RT
local macro_rules | `(tactic| walk_at "go") => `(tactic| (try dsimp only [cxK, cxKB, cxK2]); (try dsimp [Gam]); (try simp only [List.map_cons, List.map_nil, List.cons_append, List.nil_append]))
local macro_rules | `(tactic| walk_at "ev") => `(tactic| first
  | ((with_reducible apply ev_var); exact rfl)
  | with_reducible exact ev_int
  | with_reducible exact ev_str
  | with_reducible exact ev_bl
  | with_reducible exact ev_non
  | with_reducible exact ev_c
  | ((with_reducible apply el_i) <;> walk_at "ev")
  | ((with_reducible apply el_b) <;> walk_at "ev")
  | ((with_reducible apply el_eqI); (walk_at "ev"); (walk_at "ev"))
  | ((with_reducible apply el_neI); (walk_at "ev"); (walk_at "ev"))
  | ((with_reducible apply el_eqS); (walk_at "ev"); (walk_at "ev"))
  | ((with_reducible apply el_neS); (walk_at "ev"); (walk_at "ev"))
  | ((with_reducible apply ev_notV) <;> walk_at "ev")
  | ((with_reducible apply el_isi); (walk_at "ev"); exact rfl)
  | ((with_reducible apply el_len) <;> walk_at "ej")
  | (((with_reducible apply ev_aT); (walk_at "ev")))
  | (((with_reducible apply ev_aL); (walk_at "ev")))
  | (((with_reducible apply ev_aP); (walk_at "ev")))
  | (((with_reducible apply ev_pl); (walk_at "ev"))))
local macro_rules | `(tactic| walk_at "ej") => `(tactic| first
  | ((with_reducible apply ev_own); exact rfl)
  | ((with_reducible apply EvJ.q_s); walk_at "ev")
  | ((with_reducible apply EvJ.q_l); walk_at "ev")
  | ((with_reducible apply EvJ.q_t); walk_at "ev")
  | ((with_reducible apply evj); walk_at "ev"))
local macro_rules | `(tactic| walk_at "ea") => `(tactic| first
  | with_reducible exact eva_nil
  | ((with_reducible apply eva_cons); (walk_at "ev"); (walk_at "ea")))
local macro_rules | `(tactic| walk_at "et") => `(tactic| first
  | ((with_reducible apply evt_or); (walk_at "et"); (intro _; walk_at "et"))
  | ((with_reducible apply evt_and); (walk_at "et"); (intro _; walk_at "et"))
  | ((with_reducible apply evt_not); (walk_at "et"))
  | ((with_reducible apply evt_test); (walk_at "ev"))
  | ((with_reducible apply evt_tB); (walk_at "ev")))
local macro_rules | `(tactic| walk_at "le") => `(tactic| ((try simp only [List.set_cons_zero, List.set_cons_succ]); repeat' (first | exact Le.nil | (with_reducible apply Le.un) | (apply Le.eq rfl) | apply Le.eq)))
/-- the three ways of a player -/
inductive Kd where
  | plan | safe | best
def Kd.way (S : Sce) (p : Bool) : Kd → PyData
  | .plan => .tuple (LN (bestB S.w p S.c S.r1 S.r2))
  | .safe => .str "safe"
  | .best => .str "best"
def Kd.isPlan : Kd → Bool
  | .plan => true
  | _ => false
def Kd.isSafe : Kd → Bool
  | .safe => true
  | _ => false
def Kd.F (S : Sce) (p : Bool) : Kd → Nat → List Nat → Nat → Prop
  | .plan => PlainF S.r1 S.r2 S.w p
  | _ => fun n c x => S.w[n]? = some p → SafeP c (rk S.r1 S.r2 p) (S.w.drop n) p x
def Kd.pl (S : Sce) (p : Bool) (n : Nat) (c : List Nat) : Kd → List Nat
  | .plan => pln (rk S.r1 S.r2 !p) (bestB (S.w.drop n) p c S.r1 S.r2)
  | _ => []
theorem okSafe : PyData.strOk ("safe" : Str) = true := by decide +kernel
theorem okBest : PyData.strOk ("best" : Str) = true := by decide +kernel
theorem Kd.shaped (S : Sce) (p : Bool) (kd : Kd) : SeqAt.shaped (kd.way S p) = true := by
  cases kd
  · exact shaped_intsT (ZN (bestB S.w p S.c S.r1 S.r2))
  · unfold SeqAt.shaped Kd.way; simp [PyData.canLay0, PyData.depth, okSafe, okBest]
  · unfold SeqAt.shaped Kd.way; simp [PyData.canLay0, PyData.depth, okSafe, okBest]
theorem sb_shaped : SeqAt.shaped (.tuple [.str "safe", .str "best"]) = true := by
  unfold SeqAt.shaped; simp [PyData.canLay0, PyData.depth, PyData.canLayAll0, PyData.depthAll, okSafe, okBest]
theorem Kd.inq (S : Sce) (p : Bool) (kd : Kd) : ([PyData.str "safe", .str "best"].any fun y => PyData.eqv y (kd.way S p)) = !kd.isPlan := by
  cases kd
  · rfl
  · rfl
  · rfl
theorem Kd.eqq (S : Sce) (p : Bool) (kd : Kd) : PyData.eqv (kd.way S p) (.str "safe") = kd.isSafe := by
  cases kd
  · rfl
  · rfl
  · rfl
abbrev teX (K : PySem.W.Frag) : TE := tOp (rIx K) (tVar 15) (tC (.int 0))
abbrev tPick (K : PySem.W.Frag) : TS := tSeq (tAsg (tOp (rI0 fun i j => .int (i - j)) (tOp (rIx K) (tVar 7) (teX K)) (tC (.int 1))) (gSub (tVar 7) (teX K) rSetL)) (tDrop (tBM K "list" rAppend (tVar 8) (tCons (teX K) tNil)))
section
variable [Tb] {M : Option Addr} {K : PySem.W.Frag} {Γ : List Slt} {P : Po} {c ks tl : List Nat} {x : Nat}
theorem ds_pick (h7 : Γ[7]? = some (.own (ownL K (LN c)))) (h8 : Γ[8]? = some (.own (ownL K (LN ks)))) (h15 : Γ[15]? = some (.val (dP K (.list (LN (x :: tl)))))) (hx : x < c.length) (h0 : 0 < c.getD x 0) (hz : ks.length < 1000)
    (hn : P.nx ((Γ.set 7 (.own (ownL K (LN (dec c x))))).set 8 (.own (ownL K (LN (ks ++ [x])))))) : Ds M (tPick K) Γ P := by
  have ex : ∀ {Γ : List Slt}, Γ[15]? = some (.val (dP K (.list (LN (x :: tl))))) → Ev M (teX K) Γ (dP K (nI x)) := fun {Γ} h => el_ix (sk := .l) (ds := LN (x :: tl)) (i := 0) (EvJ.q_l (ev_var h)) ev_int (LN_at (i := 0) (ns := x :: tl) (by simp))
  refine ds_seq (ds_store (K := K) (ds := LN c) (ix := (x : Int)) (k := x) (x := nI (c.getD x 0 - 1)) (el_subN (el_ixN (sk := .l) (ev_own h7) (ex h15) hx) (ev_eq ev_int rfl) (by omega)) h7 (ex h15) (by rw [LN_length]; exact ixN_nat hx) ?_)
  rw [LN_set]
  refine ds_append (K := K) (ds := LN ks) (x := nI x) (by rw [List.getElem?_set_ne (by decide)]; exact h8) (ex (by rw [List.getElem?_set_ne (by decide)]; exact h15)) (by rw [LN_length]; exact small1000 (by omega)) ?_
  have e : LN ks ++ [nI x] = LN (ks ++ [x]) := by rw [LN_append]; rfl
  rw [e]
  exact hn
end
section
variable {P : Program} {w : World} {K : PySem.W.Frag} {mg : Str → Option Value} {base : Heap} {pA oA C : Addr}
inductive gPlayed (K : PySem.W.Frag) : Option Addr → List Pd → Pd → Prop
  | mk (s : Addr) (S : Sce) (h : S.Ok) (p : Bool) (kd : Kd) : gPlayed K (some s) [cP (.ref s), plP K (LN S.c), lsP K S.r1 S.r2, dP K (.str (SW S.w)), dP K (pD p), dP K (kd.way S p)] (exP fun ks : { ks : List Nat // ks.length = S.w.length ∧ ∃ c, Run (kd.F S p) S.c ks c } => dP K (.list (LN ks.1)))
/-- one turn a block -/
def ones (w : List Bool) : List (List Bool × Nat) := w.map fun p => ([p], 1)
theorem flat_ones : ∀ w : List Bool, flat (ones w) = w
  | [] => rfl
  | p :: w => by
    show flat (([p], 1) :: ones w) = _
    rw [flat_cons, flat_ones w]
    rfl
theorem ones_ok {w : List Bool} (h : w.length ≤ 90) : BlOk (ones w) := by
  refine ⟨by simp [ones]; omega, fun b hb => ?_⟩
  obtain ⟨p, _, rfl⟩ := List.mem_map.mp hb
  exact ⟨by simp, by simp, by simp, by simp⟩
theorem sc_lplayed : FnScope ["_law_source_here", "_law_rest", "_law_rankings_here", "_law_word_here", "_law_me", "_law_way", "_law_side", "_law_left_over", "_law_found", "_law_plan", "_law_turns_used", "_law_one_here", "_law_many", "_law_index", "_law_letter", "_law_some", "_law_part"] ["_law_source_here", "_law_rest", "_law_rankings_here", "_law_word_here", "_law_me", "_law_way"] (defScope (top 98)) := ⟨rfl, rfl, rfl, by decide +kernel, rfl, by decide +kernel, by decide +kernel⟩
-- slots: 0 _law_source_here, 1 _law_rest, 2 _law_rankings_here, 3 _law_word_here, 4 _law_me, 5 _law_way, 6 _law_side, 7 _law_left_over*, 8 _law_found, 9 _law_plan, 10 _law_turns_used, 11 _law_one_here, 12 _law_many, 13 _law_index, 14 _law_letter, 15 _law_some, 16 _law_part
theorem w_lplayed [Tb] (B : Bi K mg pA oA) (D : FunG K mg "_law_played" "_law_played" (top 98)) (O_pick_order : Okd P w K mg base 6 "pick_order" ["counts", "ranking", "sequence", "player", "bundle"] (gOrder K)) (O__law_one : Okd P w K mg base 3 "_law_one" ["_law_source_here", "_law_some"] (gLOne K)) (O_safe_picks : Okd P w K mg base 6 "safe_picks" ["counts", "ranking", "sequence", "player"] (gSafe K)) : Okd P w K mg base 7 "_law_played" ["_law_source_here", "_law_rest", "_law_rankings_here", "_law_word_here", "_law_me", "_law_way"] (gPlayed K) := by
  obtain ⟨f, fd, F, m⟩ := D
  refine ⟨f, fd, F.ok sc_lplayed (fun vs H Q E h => SpF.len (fun M ds d hg => by cases hg; rfl) h) (fun cdv A outer s H vs Q E hr h => ⟨_, PSs.nox ((pss_cons (ps_set (i := 6) sc_lplayed.nd rfl (by first | exact Or.inl rfl | exact Or.inr rfl) (pe_bm PySem.F.plainAttrs_str PySem.F.slot_str_index PySem.F.type_str_index mt_sindex pe_str (pa_cons (pv 4) pa_nil)))
    (pss_cons (ps_asg (pe_tup (pa_cons (pe_callTy call_list_of rfl B.list (by decide +kernel) (pa_cons (pv 1) pa_nil)) (pa_cons (pe_lst pa_nil) pa_nil))) (pg_tup rfl (pgs_cons (pg_name (i := 7) sc_lplayed.nd rfl (by first | exact Or.inl rfl | exact Or.inr rfl)) (pgs_cons (pg_name (i := 8) sc_lplayed.nd rfl (by first | exact Or.inl rfl | exact Or.inr rfl)) pgs_nil))))
    (pss_cons (ps_set (i := 9) sc_lplayed.nd rfl (by first | exact Or.inl rfl | exact Or.inr rfl) (pe_lst pa_nil))
    (pss_cons (ps_if (pt_cmpR (op_notInT hr.units65) (pv 5) (pe_tup (pa_cons pe_str (pa_cons pe_str pa_nil))) (by rfl))
    (pss_cons (ps_setLc (i := 10) (own := [("_law_letter", 14)]) rfl sc_lplayed.nd rfl rfl (sw_true rfl rfl rfl (by decide +kernel)) (pi_src (pv 3)) (blkOk_by (own := [("_law_letter", 14)]) (N := ["_law_source_here", "_law_rest", "_law_rankings_here", "_law_word_here", "_law_me", "_law_way", "_law_side", "_law_left_over", "_law_found", "_law_plan", "_law_turns_used", "_law_one_here", "_law_many", "_law_index", "_law_letter", "_law_some", "_law_part"]) (sc := defScope (top 98)) (by decide +kernel)) (fun _ _ _ _ _ => (pg_name (i := 14) sc_lplayed.nd rfl (by first | exact Or.inl rfl | exact Or.inr rfl))) (fun _ _ _ _ _ => pts_nil) (fun _ _ _ _ _ => (pe_tup (pa_cons (pv 14) (pa_cons pe_int pa_nil)))))
    (pss_one (ps_for PassesOwn.never rfl (pi_src (pe_callO O_pick_order (hr.mono (by decide)) rfl (pa_cons (pv 1) (pa_cons (pe_ix ix_seq (pv 2) (pe_op op_sub pe_int (pv 6)) (fun _ _ => rfl)) (pa_cons (pv 10) (pa_cons (pv 4) (pa_cons (pv 5) pa_nil))))))) (pg_tup rfl (pgs_cons (pg_name (i := 11) sc_lplayed.nd rfl (by first | exact Or.inl rfl | exact Or.inr rfl)) (pgs_cons (pg_name (i := 12) sc_lplayed.nd rfl (by first | exact Or.inl rfl | exact Or.inr rfl)) pgs_nil)))
    (pss_one (ps_expr (pe_bm PySem.F.plainAttrs_list PySem.F.slot_list_extend PySem.F.type_list_extend mt_extend (pv 9) (pa_cons (pe_op op_rep (pe_lst (pa_cons (pv 11) pa_nil)) (pv 12)) pa_nil)))))))
    pss_nil)
    (pss_cons (ps_for PassesOwn.never rfl (pi_enumS rfl B.enumerate (pa_cons (pv 3) pa_nil)) (pg_tup rfl (pgs_cons (pg_name (i := 13) sc_lplayed.nd rfl (by first | exact Or.inl rfl | exact Or.inr rfl)) (pgs_cons (pg_name (i := 14) sc_lplayed.nd rfl (by first | exact Or.inl rfl | exact Or.inr rfl)) pgs_nil)))
    (pss_cons (ps_setLc (i := 15) (own := [("_law_one_here", 11)]) (tt := (tTest (tOp _ (tOp (rIx K) _ _) _))) rfl sc_lplayed.nd rfl rfl (sw_true rfl rfl rfl (by decide +kernel)) (pi_src (pe_ix ix_seq (pv 2) (pe_bm PySem.F.plainAttrs_str PySem.F.slot_str_index PySem.F.type_str_index mt_sindex pe_str (pa_cons (pv 14) pa_nil)) (fun _ _ => rfl))) (blkOk_by (own := [("_law_one_here", 11)]) (N := ["_law_source_here", "_law_rest", "_law_rankings_here", "_law_word_here", "_law_me", "_law_way", "_law_side", "_law_left_over", "_law_found", "_law_plan", "_law_turns_used", "_law_one_here", "_law_many", "_law_index", "_law_letter", "_law_some", "_law_part"]) (sc := defScope (top 98)) (by decide +kernel)) (fun _ _ _ _ _ => (pg_name (i := 11) sc_lplayed.nd rfl (by first | exact Or.inl rfl | exact Or.inr rfl))) (fun _ _ _ _ _ => (pts_one (pt_cmpR op_gt (pe_ix ix_seq (pv 7) (pv 11) (fun _ _ => rfl)) pe_int (nomark _)))) (fun _ _ _ _ _ => (pv 11)))
    (pss_cons (ps_if (PW.pt (pw_and (pt_cmpR op_ne (pv 14) (pv 4) (nomark _)) (pw_and1 (pt_cmpR (op_inT hr.units65) (pv 5) (pe_tup (pa_cons pe_str (pa_cons pe_str pa_nil))) (by rfl)))))
    (pss_one (ps_set (i := 15) sc_lplayed.nd rfl (by first | exact Or.inl rfl | exact Or.inr rfl) (pe_lst (pa_cons (pe_callO O__law_one (hr.mono (by decide)) rfl (pa_cons (pv 0) (pa_cons (pv 15) pa_nil))) pa_nil))))
    pss_nil)
    (pss_cons (ps_if (PW.pt (pw_and (pt_cmpR op_eq (pv 14) (pv 4) (nomark _)) (pw_and1 (pt_cmpR (op_eqD hr.units) (pv 5) pe_str (nomark _)))))
    (pss_cons (ps_setLc (i := 10) (own := [("_law_part", 16)]) rfl sc_lplayed.nd rfl rfl (sw_true rfl rfl rfl (by decide +kernel)) (pi_src (pe_slice sl_str (pv 3) (po_some (pv 13)) po_none)) (blkOk_by (own := [("_law_part", 16)]) (N := ["_law_source_here", "_law_rest", "_law_rankings_here", "_law_word_here", "_law_me", "_law_way", "_law_side", "_law_left_over", "_law_found", "_law_plan", "_law_turns_used", "_law_one_here", "_law_many", "_law_index", "_law_letter", "_law_some", "_law_part"]) (sc := defScope (top 98)) (by decide +kernel)) (fun _ _ _ _ _ => (pg_name (i := 16) sc_lplayed.nd rfl (by first | exact Or.inl rfl | exact Or.inr rfl))) (fun _ _ _ _ _ => pts_nil) (fun _ _ _ _ _ => (pe_tup (pa_cons (pv 16) (pa_cons pe_int pa_nil)))))
    (pss_one (ps_set (i := 15) sc_lplayed.nd rfl (by first | exact Or.inl rfl | exact Or.inr rfl) (pe_lst (pa_cons (pe_callO O__law_one (hr.mono (by decide)) rfl (pa_cons (pv 0) (pa_cons (pe_callO O_safe_picks (hr.mono (by decide)) rfl (pa_cons (pe_callTy call_tupX rfl B.tuple (by decide +kernel) (pa_cons (pv 7) pa_nil)) (pa_cons (pe_ix ix_seq (pv 2) (pv 6) (fun _ _ => rfl)) (pa_cons (pv 10) (pa_cons (pv 4) pa_nil))))) pa_nil))) pa_nil)))))
    pss_nil)
    (pss_cons (ps_if (PW.pt (pw_and (pt_cmpR op_eq (pv 14) (pv 4) (nomark _)) (pw_and1 (pt_cmpR (op_notInT hr.units65) (pv 5) (pe_tup (pa_cons pe_str (pa_cons pe_str pa_nil))) (by rfl)))))
    (pss_one (ps_set (i := 15) sc_lplayed.nd rfl (by first | exact Or.inl rfl | exact Or.inr rfl) (pe_lst (pa_cons (pe_bm PySem.F.plainAttrs_list PySem.F.slot_list_pop PySem.F.type_list_pop mt_popAt (pv 9) (pa_cons pe_int pa_nil)) pa_nil))))
    pss_nil)
    (pss_cons (ps_asg (pe_op op_sub (pe_ix ix_seq (pv 7) (pe_ix ix_seq (pv 15) pe_int (fun _ _ => rfl)) (fun _ _ => rfl)) pe_int) (pg_sub (pv 7) (pe_ix ix_seq (pv 15) pe_int (fun _ _ => rfl)) set_list))
    (pss_one (ps_expr (pe_bm PySem.F.plainAttrs_list PySem.F.slot_list_append PySem.F.type_list_append mt_append (pv 8) (pa_cons (pe_ix ix_seq (pv 15) pe_int (fun _ _ => rfl)) pa_nil))))))))))
    (pss_one (ps_ret (pv 8))))))))), body_of (fun M ds d hg => ?_) h⟩), m, F.kp, F.bindsN (fun _ _ _ _ _ _ us hl => match us, hl with | [_, _, _, _, _, _], _ => rfl)⟩
  cases hg with
  | mk s S h p kd =>
  refine ⟨by simp, ?_⟩
  walk_at "go"
  have hw10 : S.w.length ≤ 10 := by rw [h.len]; exact h.s10
  have hc6 := h.c6
  generalize hWy : kd.way S p = Wy at *
  refine dq_setV (d := dP K (nI (if p then 0 else 1))) (el_sidx (ev_var rfl)) ?_
  simp only [List.set_cons_zero, List.set_cons_succ]
  refine ds_seq (ds_parT (c := .own (ownL K (LN S.c))) (c2 := .own (ownL K (LN []))) (el_list (sk := .t) (EvJ.q_t (ev_pl (ev_var rfl)))) (evc_lst (ds := []) eva_nil (Nat.zero_le _)) (by decide) ?_)
  simp only [List.set_cons_zero, List.set_cons_succ]
  refine dq_set (c := .own (ownL K (LN []))) (evc_lst (ds := []) eva_nil (Nat.zero_le _)) ?_
  simp only [List.set_cons_zero, List.set_cons_succ]
  have tupE : ∀ {Γ : List Slt}, EvJ (some s) (tTup (tCons (tC (.str "safe")) (tCons (tC (.str "best")) tNil))) Γ (jD K (.tuple [.str "safe", .str "best"])) := fun {Γ} => evj (ev_tupD (ds := [.str "safe", .str "best"]) (eva_cons ev_str (eva_cons ev_str eva_nil)) (by show 2 ≤ sizeLine; decide))
  have hsh : SeqAt.shaped Wy = true := by rw [← hWy]; exact Kd.shaped S p kd
  have hin : ∀ {Γ : List Slt}, Γ[5]? = some (.val (dP K Wy)) → Ev (some s) (tOp (rInT K) (tVar 5) (tTup (tCons (tC (.str "safe")) (tCons (tC (.str "best")) tNil)))) Γ (dP K (.bool (!kd.isPlan))) := fun {Γ} e => ev_eq (ev_op (evj (ev_var e)) tupE (oj_inT hsh sb_shaped)) (by rw [← hWy, Kd.inq])
  have hnin : ∀ {Γ : List Slt}, Γ[5]? = some (.val (dP K Wy)) → Ev (some s) (tOp (rNotInT K) (tVar 5) (tTup (tCons (tC (.str "safe")) (tCons (tC (.str "best")) tNil)))) Γ (dP K (.bool kd.isPlan)) := fun {Γ} e => ev_eq (ev_op (evj (ev_var e)) tupE (oj_notInT hsh sb_shaped)) (by rw [← hWy, Kd.inq, Bool.not_not])
  have heq : ∀ {Γ : List Slt}, Γ[5]? = some (.val (dP K Wy)) → Ev (some s) (tOp (rEqD K) (tVar 5) (tC (.str "safe"))) Γ (dP K (.bool kd.isSafe)) := fun {Γ} e => ev_eq (ev_op (evj (ev_var e)) (evj ev_str) (oj_eqD toD_d toD_d hsh (by unfold SeqAt.shaped; simp [PyData.canLay0, PyData.depth, okSafe, okBest]))) (by rw [← hWy, Kd.eqq])
  have hRo := rk_ok h.h1 h.h2 (!p)
  have hR := rk_ok h.h1 h.h2 p
  -- the plan
  refine dq_join (α := Unit) (fun _ => True) (fun _ => [.val (cP (.ref s)), .val (plP K (LN S.c)), .val (lsP K S.r1 S.r2), .val (dP K (.str (SW S.w))), .val (dP K (pD p)), .val (dP K Wy), .val (dP K (nI (if p then 0 else 1))), .own (ownL K (LN S.c)), .own (ownL K (LN [])), .own (ownL K (LN (kd.pl S p 0 S.c))), .un, .un, .un, .un, .un, .un, .un]) ?_ (fun _ _ => ?_)
  · refine ds_ifB (b := kd.isPlan) (evt_test (K := K) (hnin rfl)) (fun hp => ?_) (fun hp => ds_next ⟨(), trivial, ?_⟩)
    · cases kd with
      | safe => cases hp
      | best => cases hp
      | plan =>
      have hWe : Wy = .tuple (LN (bestB S.w p S.c S.r1 S.r2)) := hWy.symm
      refine dq_set (c := .own (ownL K (BD (ones S.w)))) (evc_eqL (evc_mapF (K := K) (evi_src (ds := sgn (SW S.w)) (ev_var rfl) itd_s) (fun i => bD ([S.w.getD i true], 1)) (by simp [sgn_SW]; omega) fun i hi => ?_) ?_) ?_
      · have hi' : i < S.w.length := by simpa [sgn_SW] using hi
        have e2 : (sgn (SW S.w)).getD i .none = pD (S.w.getD i true) := by rw [sgn_SW, List.getD_eq_getElem?_getD, List.getD_eq_getElem?_getD]; simp [hi']
        rw [e2]
        exact ⟨_, gt1, ev_tupD (ds := [pD (S.w.getD i true), nI 1]) (eva_cons (ev_var rfl) (eva_cons (ev_eq ev_int rfl) eva_nil)) (by show 2 ≤ sizeLine; decide)⟩
      · have e : (sgn (SW S.w)).length = S.w.length := by simp [sgn_SW]
        rw [e, map_range_get S.w _ (fun p => bD ([p], 1)) fun i hi => by rw [List.getD_eq_getElem?_getD, List.getElem?_eq_getElem hi]; rfl]
        simp [BD, ones]
      simp only [List.set_cons_zero, List.set_cons_succ]
      refine ds_frz 10 (K := K) (ds := BD (ones S.w)) rfl ?_
      simp only [List.set_cons_zero, List.set_cons_succ]
      have F := best_cert h.h1 h.h2 rfl S.w p
      have hsum := best_sum h.h1 h.h2 rfl p S.w (Nat.le_of_eq h.len)
      have hbl : (bestB S.w p S.c S.r1 S.r2).length = S.c.length := bestB_length
      have hord : Ev (some s) (tCall (SpF (gOrder K)) [] E0 (tCons (tVar 1) (tCons (tOp (rIx K) (tVar 2) (tOp (rI0 fun i j => .int (i - j)) (tC (.int 1)) (tVar 6))) (tCons (tVar 10) (tCons (tVar 4) (tCons (tVar 5) tNil)))))) [.val (cP (.ref s)), .val (plP K (LN S.c)), .val (lsP K S.r1 S.r2), .val (dP K (.str (SW S.w))), .val (dP K (pD p)), .val (dP K Wy), .val (dP K (nI (if p then 0 else 1))), .own (ownL K (LN S.c)), .own (ownL K (LN [])), .own (ownL K (LN [])), .val (dP K (.list (BD (ones S.w)))), .un, .un, .un, .un, .un, .un] (dP K (.list ((order (rk S.r1 S.r2 !p) (bestB S.w p S.c S.r1 S.r2)).map prD'))) := by
        refine ev_call (eva_cons (ev_pl (ev_var rfl)) (eva_cons (ev_pl (el_ixP (d := plP K (LN (rk S.r1 S.r2 !p))) (i := ((if (!p) then 0 else 1 : Nat) : Int)) (ev_var rfl) (ev_eq (el_i (f := fun i j => i - j) ev_int (ev_var rfl)) (by cases p <;> rfl)) (plP_if (!p)))) (eva_cons (ev_aL (ev_var rfl)) (eva_cons (ev_var rfl) (eva_cons (ev_eq (ev_var rfl) hWe) eva_nil))))) (gOrder.mk S.c (rk S.r1 S.r2 !p) (bestB S.w p S.c S.r1 S.r2) (ones S.w) p hRo hbl (fun i _ => F.le i) (ones_ok (by omega)) (by rw [flat_ones]; exact hsum) (by rw [flat_ones, h.len]; exact Nat.le_refl _) ?_) (.inl rfl)
        intro i hi
        rw [flat_ones]
        exact F.room i hi
      generalize hB : bestB S.w p S.c S.r1 S.r2 = Bb at *
      refine ds_forL (evi_src hord itd_l) (fun i => True) (fun i => [.val (cP (.ref s)), .val (plP K (LN S.c)), .val (lsP K S.r1 S.r2), .val (dP K (.str (SW S.w))), .val (dP K (pD p)), .val (dP K Wy), .val (dP K (nI (if p then 0 else 1))), .own (ownL K (LN S.c)), .own (ownL K (LN [])), .own (ownL K (LN ((((order (rk S.r1 S.r2 !p) Bb).take i).map fun z => List.replicate z.2 z.1).flatten))), .val (dP K (.list (BD (ones S.w)))), .un, .un, .un, .un, .un, .un]) ⟨trivial, by walk_at "le"⟩ (fun i hi _ => ?_) (fun _ Γ' hl => ⟨(), trivial, ?_⟩)
      · have hi' : i < (order (rk S.r1 S.r2 !p) Bb).length := by simpa using hi
        have e2 : ((order (rk S.r1 S.r2 !p) Bb).map prD').getD i .none = prD' (order (rk S.r1 S.r2 !p) Bb)[i] := by rw [List.getD_eq_getElem?_getD]; simp [hi']
        rw [e2]
        have htk : (order (rk S.r1 S.r2 !p) Bb).take (i + 1) = (order (rk S.r1 S.r2 !p) Bb).take i ++ [(order (rk S.r1 S.r2 !p) Bb)[i]] := by rw [List.take_add_one, List.getElem?_eq_getElem hi']; rfl
        have htot : (((order (rk S.r1 S.r2 !p) Bb).take (i + 1)).map fun z => List.replicate z.2 z.1).flatten.length ≤ 10 := by
          have a1 := pln_len (r := rk S.r1 S.r2 !p) (b := Bb) hRo.nd (fun z hz => by rw [hbl]; exact hRo.lt hz)
          rw [hRo.length, PSm_all hRo hbl, hsum] at a1
          have a2 : pln (rk S.r1 S.r2 !p) Bb = (((order (rk S.r1 S.r2 !p) Bb).take (i + 1)).map fun z => List.replicate z.2 z.1).flatten ++ (((order (rk S.r1 S.r2 !p) Bb).drop (i + 1)).map fun z => List.replicate z.2 z.1).flatten := by
            unfold pln
            rw [← List.flatten_append, ← List.map_append, List.take_append_drop]
          have a3 := congrArg List.length a2
          rw [List.length_append] at a3
          have a4 : S.w.count p ≤ S.w.length := List.count_le_length
          omega
        rw [htk, List.map_append, List.flatten_append] at htot ⊢
        generalize (((order (rk S.r1 S.r2 !p) Bb).take i).map fun z => List.replicate z.2 z.1).flatten = A at *
        generalize (order (rk S.r1 S.r2 !p) Bb)[i] = z at *
        obtain ⟨x, n⟩ := z
        have e3 : ([(x, n)].map fun z => List.replicate z.2 z.1).flatten = List.replicate n x := by simp
        rw [e3] at htot ⊢
        rw [List.length_append, List.length_replicate] at htot
        refine ⟨_, _, gt2, ?_⟩
        simp only [List.set_cons_zero, List.set_cons_succ]
        refine ds_extend (K := K) (i := 9) (ds := LN A) (es := LN (List.replicate n x)) rfl (evc_eqL (el_repL (ds := [nI x]) (n := n) (evc_lst (K := K) (ds := [nI x]) (eva_cons (ev_var rfl) eva_nil) (by show 1 ≤ sizeLine; decide)) (ev_var rfl) (by simp; omega) (by omega)) (LN_rep _ _)) (by rw [LN_length, LN_length, List.length_replicate]; exact Nat.le_of_lt (small1000 (by omega))) ⟨trivial, ?_⟩
        rw [← LN_append]
        walk_at "le"
      · have e : ((order (rk S.r1 S.r2 !p) Bb).map prD').length = (order (rk S.r1 S.r2 !p) Bb).length := by simp
        rw [e, List.take_length] at hl
        have e2 : Kd.plan.pl S p 0 S.c = pln (rk S.r1 S.r2 !p) Bb := by show pln _ (bestB (S.w.drop 0) p S.c S.r1 S.r2) = _; rw [List.drop_zero, hB]
        rw [e2]
        exact hl.trans (by walk_at "le")
    · cases kd with
      | plan => cases hp
      | safe => walk_at "le"
      | best => walk_at "le"
  · refine dq_for (evi_enum (ds := sgn (SW S.w)) (ev_var rfl) itd_s) (fun i Γ' => ∃ ks c, ks.length = i ∧ Run (kd.F S p) S.c ks c ∧ Le Γ' [.val (cP (.ref s)), .val (plP K (LN S.c)), .val (lsP K S.r1 S.r2), .val (dP K (.str (SW S.w))), .val (dP K (pD p)), .val (dP K Wy), .val (dP K (nI (if p then 0 else 1))), .own (ownL K (LN c)), .own (ownL K (LN ks)), .own (ownL K (LN (kd.pl S p i c))), .un, .un, .un, .un, .un, .un, .un]) ⟨[], S.c, rfl, .nil, by walk_at "le"⟩ (fun i Γ' hi hI => ?_) (fun Γ' hI => ?_)
    · obtain ⟨ks, c, hks, R, hle⟩ := hI
      have hi' : i < S.w.length := by simpa [sgn_SW] using hi
      have e2 : (sgn (SW S.w)).getD i .none = pD S.w[i] := by rw [sgn_SW, List.getD_eq_getElem?_getD]; simp [hi']
      rw [e2]
      refine ⟨_, _, fun B O0 O σ H x E hx Q q => gt2 B O0 O σ H x (E.le hle) hx Q q, ?_⟩
      simp only [List.set_cons_zero, List.set_cons_succ, Int.zero_add]
      have hlen : c.length = S.c.length := R.len
      have hsum := R.sum
      have hq? : S.w[i]? = some S.w[i] := List.getElem?_eq_getElem hi'
      have hdrop : S.w.drop i = S.w[i] :: S.w.drop (i + 1) := List.drop_eq_getElem_cons hi'
      have hcs : (S.w.drop i).length = c.sum := by rw [List.length_drop]; have := h.len; omega
      have hcp : 0 < c.sum := by rw [← hcs, List.length_drop]; omega
      generalize hq : S.w[i] = q at *
      have hRq := rk_ok h.h1 h.h2 q
      have hz : ks.length ≤ 10 := by omega
      have hexq := ex_left hRq hlen hcp
      have hS0 : ∃ tl, (rk S.r1 S.r2 q).filter (fun x => decide (0 < c.getD x 0)) = bl c (rk S.r1 S.r2 q) :: tl := by
        obtain ⟨x, hx1, hx2⟩ := hexq
        have hm : x ∈ (rk S.r1 S.r2 q).filter fun x => decide (0 < c.getD x 0) := List.mem_filter.mpr ⟨hx1, by simpa using hx2⟩
        unfold bl
        cases hf : (rk S.r1 S.r2 q).filter fun x => decide (0 < c.getD x 0) with
        | nil => rw [hf] at hm; cases hm
        | cons y l => exact ⟨l, rfl⟩
      obtain ⟨tl0, hS0⟩ := hS0
      obtain ⟨b1, b2, _⟩ := bl_spec hexq
      have hblq : bl c (rk S.r1 S.r2 q) < c.length := by rw [hlen]; exact hRq.lt b1
      -- the comprehension
      refine dq_setV (d := dP K (.list (LN (bl c (rk S.r1 S.r2 q) :: tl0)))) (ev_frz (evc_eqL (evc_filF (K := K) (evi_src (ds := LN (rk S.r1 S.r2 q)) (d := plP K (LN (rk S.r1 S.r2 q))) (el_ixP (i := ((if q then 0 else 1 : Nat) : Int)) (ev_var rfl) (el_sidx (ev_var rfl)) (plP_if q)) itd_p) (fun i => decide (0 < c.getD ((rk S.r1 S.r2 q).getD i 0) 0)) (fun i => nI ((rk S.r1 S.r2 q).getD i 0)) (by rw [LN_length, hRq.length]; omega) fun j hj => ?_) ?_)) ?_
      · rw [LN_length] at hj
        rw [LN_getD hj]
        have hx : (rk S.r1 S.r2 q).getD j 0 < c.length := by rw [getD_of hj, hlen]; exact hRq.lt (List.getElem_mem hj)
        exact ⟨_, gt1, evt_eq (b := decide ((0 : Int) < (c.getD ((rk S.r1 S.r2 q).getD j 0) 0 : Nat))) (evt_test (el_b (el_ixN (sk := .l) (ev_own rfl) (ev_var rfl) hx) ev_int)) (by simp), fun _ => ev_var rfl⟩
      · rw [LN_length, filter_range_map (rk S.r1 S.r2 q) _ _ (fun x => decide (0 < c.getD x 0)) (fun x => nI x) fun i hi => by rw [getD_of hi]; exact ⟨rfl, rfl⟩, hS0]
        simp only [LN, List.map_map]
        rfl
      simp only [List.set_cons_zero, List.set_cons_succ]
      have fin : ∀ (P0 : Po), (∀ Γ', (∃ ks c, ks.length = i + 1 ∧ Run (kd.F S p) S.c ks c ∧ Le Γ' [.val (cP (.ref s)), .val (plP K (LN S.c)), .val (lsP K S.r1 S.r2), .val (dP K (.str (SW S.w))), .val (dP K (pD p)), .val (dP K Wy), .val (dP K (nI (if p then 0 else 1))), .own (ownL K (LN c)), .own (ownL K (LN ks)), .own (ownL K (LN (kd.pl S p (i + 1) c))), .un, .un, .un, .un, .un, .un, .un]) → P0.nx Γ') →
          ∀ (x : Nat) (tl pl' : List Nat) (a10 a11 a12 a13 a14 a16 : Slt), x < c.length → 0 < c.getD x 0 → kd.F S p i c x → pl' = kd.pl S p (i + 1) (dec c x) →
          Ds (some s) (tPick K) [.val (cP (.ref s)), .val (plP K (LN S.c)), .val (lsP K S.r1 S.r2), .val (dP K (.str (SW S.w))), .val (dP K (pD p)), .val (dP K Wy), .val (dP K (nI (if p then 0 else 1))), .own (ownL K (LN c)), .own (ownL K (LN ks)), .own (ownL K (LN pl')), a10, a11, a12, a13, a14, .val (dP K (.list (LN (x :: tl)))), a16] P0 := fun P0 hP x tl pl' a10 a11 a12 a13 a14 a16 hx h0 hF hpl => by
        refine ds_pick (K := K) (c := c) (ks := ks) (tl := tl) (x := x) rfl rfl rfl hx h0 (by omega) (hP _ ⟨ks ++ [x], dec c x, by simp [hks], .snoc R hx h0 (by rw [hks]; exact hF), ?_⟩)
        subst hpl
        walk_at "le"
      have hne : Ev (some s) (tOp rNe (tVar 14) (tVar 4)) [.val (cP (.ref s)), .val (plP K (LN S.c)), .val (lsP K S.r1 S.r2), .val (dP K (.str (SW S.w))), .val (dP K (pD p)), .val (dP K Wy), .val (dP K (nI (if p then 0 else 1))), .own (ownL K (LN c)), .own (ownL K (LN ks)), .own (ownL K (LN (kd.pl S p i c))), .un, .un, .un, .val (dP K (nI i)), .val (dP K (pD q)), .val (dP K (.list (LN (bl c (rk S.r1 S.r2 q) :: tl0)))), .un] (dP K (.bool (!decide (q = p)))) := ev_eq (el_neS (ev_var rfl) (ev_var rfl)) (by rw [SW_eq]; simp)
      by_cases hqp : q = p
      · subst hqp
        refine dq_guard (b := !decide (q = q) && !kd.isPlan) (evt_and (evt_test (K := K) hne) fun _ => evt_test (K := K) (hin rfl)) (by simp) ?_
        have heqq : ∀ {Γ : List Slt}, Γ[14]? = some (.val (dP K (pD q))) → Γ[4]? = some (.val (dP K (pD q))) → Ev (some s) (tOp rEq (tVar 14) (tVar 4)) Γ (dP K (.bool true)) := fun {Γ} e1 e2 => ev_eq (el_eqS (ev_var e1) (ev_var e2)) (by simp)
        refine dq_join (α := List Nat) (fun l => ∃ x tl, l = x :: tl ∧ x < c.length ∧ 0 < c.getD x 0 ∧ (kd = .plan ∨ kd.F S q i c x)) (fun l => [.val (cP (.ref s)), .val (plP K (LN S.c)), .val (lsP K S.r1 S.r2), .val (dP K (.str (SW S.w))), .val (dP K (pD q)), .val (dP K Wy), .val (dP K (nI (if q then 0 else 1))), .own (ownL K (LN c)), .own (ownL K (LN ks)), .own (ownL K (LN (kd.pl S q i c))), .un, .un, .un, .un, .val (dP K (pD q)), .val (dP K (.list (LN l))), .un]) ?_ (fun l hl => ?_)
        · refine ds_ifB (b := true && kd.isSafe) (evt_and (evt_test (K := K) (heqq rfl rfl)) fun _ => evt_test (K := K) (heq rfl)) (fun hb => ?_) (fun hb => ds_next ⟨_, ⟨_, _, rfl, hblq, b2, ?_⟩, by walk_at "le"⟩)
          · cases kd with
            | plan => cases hb
            | best => cases hb
            | safe =>
            refine dq_set (c := .own (ownL K (BD (ones (S.w.drop i))))) (evc_eqL (evc_mapF (K := K) (evi_src (ds := sgn (SW (S.w.drop i))) (ev_eq (el_slW (ev_var rfl) (evo_N (K := K) (n := i) (ev_var rfl)) evo_none (by omega)) (by rw [cut_drop])) itd_s) (fun j => bD ([(S.w.drop i).getD j true], 1)) (by simp [sgn_SW]; omega) fun j hj => ?_) ?_) ?_
            · have hj' : j < (S.w.drop i).length := by simpa [sgn_SW] using hj
              have e2 : (sgn (SW (S.w.drop i))).getD j .none = pD ((S.w.drop i).getD j true) := by rw [sgn_SW, List.getD_eq_getElem?_getD, List.getD_eq_getElem?_getD, List.getElem?_map, List.getElem?_eq_getElem hj']; rfl
              rw [e2]
              exact ⟨_, gt1, ev_tupD (ds := [pD ((S.w.drop i).getD j true), nI 1]) (eva_cons (ev_var rfl) (eva_cons (ev_eq ev_int rfl) eva_nil)) (by show 2 ≤ sizeLine; decide)⟩
            · have e : (sgn (SW (S.w.drop i))).length = (S.w.drop i).length := by rw [sgn_SW, List.length_map]
              rw [e, map_range_get (S.w.drop i) _ (fun p => bD ([p], 1)) fun j hj => by rw [List.getD_eq_getElem?_getD, List.getElem?_eq_getElem hj]; rfl]
              unfold BD ones
              rw [List.map_map]
              rfl
            simp only [List.set_cons_zero, List.set_cons_succ]
            refine ds_frz 10 (K := K) (ds := BD (ones (S.w.drop i))) rfl ?_
            simp only [List.set_cons_zero, List.set_cons_succ]
            have hfl := flat_ones (S.w.drop i)
            have hwl : (S.w.drop i).length ≤ 10 := by rw [List.length_drop]; omega
            refine ds_setVX (ev_lone1 (K := K) (l := safeK c (rk S.r1 S.r2 q) (S.w.drop i) q) (harm_ne hexq) ?_ (ev_var rfl) ?_) fun x => ?_
            · have a1 := harm_len (c := c) (b := fun n => decide (cntw (S.w.drop i) q n < cntw (S.w.drop i) q (n + 1))) (r := rk S.r1 S.r2 q) (T := 0) (f := [])
              rw [hRq.length] at a1
              show (harmF _ _ _ _ _).length < 1000
              simp only [List.length_nil] at a1
              omega
            · have hs := gSafe.mk (K := K) c (rk S.r1 S.r2 q) (ones (S.w.drop i)) q (S.w.drop (i + 1)) (by rw [hlen]; exact hRq) (ones_ok (by omega)) (by rw [hfl, hcs]; exact Nat.le_refl _) (by rw [hfl]; exact hdrop)
              rw [hfl] at hs
              exact ev_call (eva_cons (ev_pl (el_tup (ev_own rfl))) (eva_cons (ev_pl (el_ixP (i := ((if q then 0 else 1 : Nat) : Int)) (ev_var rfl) (ev_var rfl) (plP_if q))) (eva_cons (ev_aL (ev_var rfl)) (eva_cons (ev_var rfl) eva_nil)))) hs (.inl rfl)
            · simp only [List.set_cons_zero, List.set_cons_succ]
              obtain ⟨x, hx⟩ := x
              obtain ⟨m1, m2, m3⟩ := safe_mem hx
              exact ⟨[x], ⟨x, [], rfl, by rw [hlen]; exact hRq.lt m1, m2, .inr fun _ => m3⟩, by walk_at "le"⟩
          · cases kd with
            | plan => exact .inl rfl
            | safe => cases hb
            | best => exact .inr fun _ => bl_safe hRq.nd hexq
        · obtain ⟨x, tl, rfl, hx1, hx2, hx3⟩ := hl
          refine dq_join (α := List Nat × List Nat) (fun l => ∃ x tl, l.1 = x :: tl ∧ x < c.length ∧ 0 < c.getD x 0 ∧ kd.F S q i c x ∧ l.2 = kd.pl S q (i + 1) (dec c x)) (fun l => [.val (cP (.ref s)), .val (plP K (LN S.c)), .val (lsP K S.r1 S.r2), .val (dP K (.str (SW S.w))), .val (dP K (pD q)), .val (dP K Wy), .val (dP K (nI (if q then 0 else 1))), .own (ownL K (LN c)), .own (ownL K (LN ks)), .own (ownL K (LN l.2)), .un, .un, .un, .un, .un, .val (dP K (.list (LN l.1))), .un]) ?_ (fun l hl => ?_)
          · refine ds_ifB (b := true && kd.isPlan) (evt_and (evt_test (K := K) (heqq rfl rfl)) fun _ => evt_test (K := K) (hnin rfl)) (fun hb => ?_) (fun hb => ds_next ⟨(x :: tl, kd.pl S q i c), ⟨x, tl, rfl, hx1, hx2, ?_, ?_⟩, by walk_at "le"⟩)
            · cases kd with
              | safe => cases hb
              | best => cases hb
              | plan =>
              have hbx := best_ex h.h1 h.h2 hlen q (S.w.drop (i + 1)) (by rw [← hdrop, hcs]; exact Nat.le_refl _)
              have hown := best_own h.h1 h.h2 hlen q (S.w.drop (i + 1)) hbx
              have F := best_cert h.h1 h.h2 hlen (q :: S.w.drop (i + 1)) q
              have hlB : (bestB (q :: S.w.drop (i + 1)) q c S.r1 S.r2).length = S.c.length := by rw [bestB_length, hlen]
              have hpn := pln_next (r := rk S.r1 S.r2 !q) hRo.nd (fun z hz => by rw [hlB]; exact hRo.lt hz) hbx
              obtain ⟨g1, g2, _⟩ := bl_spec hbx
              have hpl : Kd.plan.pl S q i c = bl (bestB (q :: S.w.drop (i + 1)) q c S.r1 S.r2) (rk S.r1 S.r2 !q) :: Kd.plan.pl S q (i + 1) (dec c (bl (bestB (q :: S.w.drop (i + 1)) q c S.r1 S.r2) (rk S.r1 S.r2 !q))) := by
                show pln _ (bestB (S.w.drop i) q c S.r1 S.r2) = _ :: pln _ (bestB (S.w.drop (i + 1)) q _ S.r1 S.r2)
                rw [hown, hdrop, hpn]
              rw [hpl]
              have hFx : Kd.plan.F S q i c (bl (bestB (q :: S.w.drop (i + 1)) q c S.r1 S.r2) (rk S.r1 S.r2 !q)) := by
                show PlainF S.r1 S.r2 S.w q i c _
                unfold PlainF
                rw [if_pos hq?, hdrop]
              have hle := F.le (bl (bestB (q :: S.w.drop (i + 1)) q c S.r1 S.r2) (rk S.r1 S.r2 !q))
              have hxk : bl (bestB (q :: S.w.drop (i + 1)) q c S.r1 S.r2) (rk S.r1 S.r2 !q) < c.length := by rw [hlen]; exact hRo.lt g1
              generalize hX : bl (bestB (q :: S.w.drop (i + 1)) q c S.r1 S.r2) (rk S.r1 S.r2 !q) = y at *
              refine ds_setPop (K := K) (j := 9) (x := nI y) (rest := LN (Kd.plan.pl S q (i + 1) (dec c y))) rfl (by decide) ?_ ?_
              · have a1 := congrArg List.length hpl
                have a2 := pln_len (r := rk S.r1 S.r2 !q) (b := bestB (S.w.drop i) q c S.r1 S.r2) hRo.nd (fun z hz => by rw [bestB_length, hlen]; exact hRo.lt hz)
                rw [hRo.length, PSm_all hRo (by rw [bestB_length, hlen]), best_sum h.h1 h.h2 hlen q (S.w.drop i) (Nat.le_of_eq hcs)] at a2
                have a3 : (S.w.drop i).count q ≤ (S.w.drop i).length := List.count_le_length
                have a4 : (S.w.drop i).length ≤ 10 := by rw [List.length_drop]; omega
                have a5 : (Kd.plan.pl S q i c).length = (pln (rk S.r1 S.r2 !q) (bestB (S.w.drop i) q c S.r1 S.r2)).length := rfl
                rw [List.length_cons] at a1
                rw [LN_length]
                omega
              · simp only [List.set_cons_zero, List.set_cons_succ]
                exact ⟨([y], Kd.plan.pl S q (i + 1) (dec c y)), ⟨y, [], rfl, hxk, by omega, hFx, rfl⟩, by walk_at "le"⟩
            · cases kd with
              | plan => cases hb
              | safe => exact hx3.resolve_left (by simp)
              | best => exact hx3.resolve_left (by simp)
            · cases kd with
              | plan => cases hb
              | safe => rfl
              | best => rfl
          · obtain ⟨y, tl2, e1, hy1, hy2, hy3, hy4⟩ := hl
            obtain ⟨l1, l2⟩ := l
            simp only at e1 hy4
            subst e1
            exact fin _ (fun Γ' h => h) y tl2 l2 _ _ _ _ _ _ hy1 hy2 hy3 hy4
      · have e' := not_eq_opp hqp
        have hF0 : ∀ x, kd ≠ .plan → kd.F S p i c x := fun x hk => by
          cases kd with
          | plan => exact absurd rfl hk
          | safe => exact fun z => by rw [hq?] at z; exact absurd (Option.some.inj z) hqp
          | best => exact fun z => by rw [hq?] at z; exact absurd (Option.some.inj z) hqp
        refine dq_join (α := List Nat) (fun l => ∃ x tl, l = x :: tl ∧ x < c.length ∧ 0 < c.getD x 0 ∧ kd.F S p i c x ∧ kd.pl S p i c = kd.pl S p (i + 1) (dec c x)) (fun l => [.val (cP (.ref s)), .val (plP K (LN S.c)), .val (lsP K S.r1 S.r2), .val (dP K (.str (SW S.w))), .val (dP K (pD p)), .val (dP K Wy), .val (dP K (nI (if p then 0 else 1))), .own (ownL K (LN c)), .own (ownL K (LN ks)), .own (ownL K (LN (kd.pl S p i c))), .un, .un, .un, .un, .val (dP K (pD q)), .val (dP K (.list (LN l))), .un]) ?_ (fun l hl => ?_)
        · refine ds_ifB (b := !decide (q = p) && !kd.isPlan) (evt_and (evt_test (K := K) hne) fun _ => evt_test (K := K) (hin rfl)) (fun hb => ?_) (fun hb => ds_next ⟨_, ⟨_, _, rfl, hblq, b2, ?_, ?_⟩, by walk_at "le"⟩)
          · have hkd : kd ≠ .plan := fun e => by rw [e] at hb; simp [Kd.isPlan] at hb
            refine ds_setVX (ev_lone1 (K := K) (l := bl c (rk S.r1 S.r2 q) :: tl0) (by simp) ?_ (ev_var rfl) (ev_var rfl)) fun x => ?_
            · have a1 := List.length_filter_le (fun x => decide (0 < c.getD x 0)) (rk S.r1 S.r2 q)
              rw [hS0, hRq.length] at a1
              omega
            · simp only [List.set_cons_zero, List.set_cons_succ]
              obtain ⟨x, hx⟩ := x
              rw [← hS0] at hx
              obtain ⟨m1, m2⟩ := List.mem_filter.mp hx
              refine ⟨[x], ⟨x, [], rfl, by rw [hlen]; exact hRq.lt m1, of_decide_eq_true m2, hF0 x hkd, ?_⟩, by walk_at "le"⟩
              cases kd with
              | plan => exact absurd rfl hkd
              | safe => rfl
              | best => rfl
          · cases kd with
            | plan =>
              show PlainF S.r1 S.r2 S.w p i c (bl c (rk S.r1 S.r2 q))
              unfold PlainF
              rw [if_neg (by rw [hq?]; exact fun z => hqp (Option.some.inj z)), e']
            | safe => simp [Kd.isPlan, hqp] at hb
            | best => simp [Kd.isPlan, hqp] at hb
          · cases kd with
            | plan =>
              show pln _ (bestB (S.w.drop i) p c S.r1 S.r2) = pln _ (bestB (S.w.drop (i + 1)) p (dec c (bl c (rk S.r1 S.r2 q))) S.r1 S.r2)
              rw [hdrop, e', (best_opp h.h1 h.h2 hlen p (S.w.drop (i + 1)) hcp).1]
            | safe => rfl
            | best => rfl
        · obtain ⟨x, tl, rfl, hx1, hx2, hx3, hx4⟩ := hl
          have heqf : ∀ {Γ : List Slt}, Γ[14]? = some (.val (dP K (pD q))) → Γ[4]? = some (.val (dP K (pD p))) → Ev (some s) (tOp rEq (tVar 14) (tVar 4)) Γ (dP K (.bool false)) := fun {Γ} e1 e2 => ev_eq (el_eqS (ev_var e1) (ev_var e2)) (by rw [SW_eq]; simp [hqp])
          refine dq_guard (b := false && kd.isSafe) (evt_and (evt_test (K := K) (heqf rfl rfl)) fun z => by cases z) rfl ?_
          refine dq_guard (b := false && kd.isPlan) (evt_and (evt_test (K := K) (heqf rfl rfl)) fun z => by cases z) rfl ?_
          exact fin _ (fun Γ' h => h) x tl _ _ _ _ _ _ _ hx1 hx2 hx3 hx4
    · obtain ⟨ks, c, hks, R, hle⟩ := hI
      refine ds_le hle ?_
      refine ds_frz 8 (K := K) (ds := LN ks) rfl ?_
      simp only [List.set_cons_zero, List.set_cons_succ]
      exact ds_retS (d' := dP K (.list (LN ks))) (d := exP fun ks : { ks : List Nat // ks.length = S.w.length ∧ ∃ c, Run (kd.F S p) S.c ks c } => dP K (.list (LN ks.1))) (ev_var rfl) fun F v hv => ⟨⟨ks, by rw [hks]; simp [sgn_SW], c, R⟩, hv⟩
end
end TPE
end
section
set_option maxHeartbeats 400000
namespace TPE
open PySem PySem.Spec PyProof.Rows L2 TPI TPZ RT
local macro_rules | `(tactic| walk_at "go") => `(tactic| (try dsimp only [cxK, cxKB, cxK2]); (try dsimp [Gam]); (try simp only [List.map_cons, List.map_nil, List.cons_append, List.nil_append]))
local macro_rules | `(tactic| walk_at "ev") => `(tactic| first
  | ((with_reducible apply ev_var); exact rfl)
  | with_reducible exact ev_int
  | with_reducible exact ev_str
  | with_reducible exact ev_bl
  | with_reducible exact ev_non
  | with_reducible exact ev_c
  | ((with_reducible apply el_i) <;> walk_at "ev")
  | ((with_reducible apply el_b) <;> walk_at "ev")
  | ((with_reducible apply el_eqI); (walk_at "ev"); (walk_at "ev"))
  | ((with_reducible apply el_neI); (walk_at "ev"); (walk_at "ev"))
  | ((with_reducible apply el_eqS); (walk_at "ev"); (walk_at "ev"))
  | ((with_reducible apply el_neS); (walk_at "ev"); (walk_at "ev"))
  | ((with_reducible apply ev_notV) <;> walk_at "ev")
  | ((with_reducible apply el_isi); (walk_at "ev"); exact rfl)
  | ((with_reducible apply el_len) <;> walk_at "ej")
  | (((with_reducible apply ev_aT); (walk_at "ev")))
  | (((with_reducible apply ev_aL); (walk_at "ev")))
  | (((with_reducible apply ev_aP); (walk_at "ev")))
  | (((with_reducible apply ev_pl); (walk_at "ev"))))
local macro_rules | `(tactic| walk_at "ej") => `(tactic| first
  | ((with_reducible apply ev_own); exact rfl)
  | ((with_reducible apply EvJ.q_s); walk_at "ev")
  | ((with_reducible apply EvJ.q_l); walk_at "ev")
  | ((with_reducible apply EvJ.q_t); walk_at "ev")
  | ((with_reducible apply evj); walk_at "ev"))
local macro_rules | `(tactic| walk_at "ea") => `(tactic| first
  | with_reducible exact eva_nil
  | ((with_reducible apply eva_cons); (walk_at "ev"); (walk_at "ea")))
local macro_rules | `(tactic| walk_at "et") => `(tactic| first
  | ((with_reducible apply evt_or); (walk_at "et"); (intro _; walk_at "et"))
  | ((with_reducible apply evt_and); (walk_at "et"); (intro _; walk_at "et"))
  | ((with_reducible apply evt_not); (walk_at "et"))
  | ((with_reducible apply evt_test); (walk_at "ev"))
  | ((with_reducible apply evt_tB); (walk_at "ev")))
local macro_rules | `(tactic| walk_at "le") => `(tactic| ((try simp only [List.set_cons_zero, List.set_cons_succ]); repeat' (first | exact Le.nil | (with_reducible apply Le.un) | (apply Le.eq rfl) | apply Le.eq)))
section
variable {P : Program} {w : World} {K : PySem.W.Frag} {mg : Str → Option Value} {base : Heap} {pA oA C : Addr}
theorem ev_lone0 [Tb] {Γ : List Slt} {te ts : TE} {E' : XK} {s : Addr} {l : List Nat} (h0 : l ≠ []) (hz : l.length < 1000) (h : Ev (some s) ts Γ (cP (.ref s))) (he : Ev (some s) te Γ (dP K (.list (LN l)))) : Ev (some s) (tCall (SpF (gLOne K)) [] E' (tCons ts (tCons te tNil))) Γ (exP fun x : { x : Nat // x ∈ l } => dP K (nI x.1)) := by
  have hl : (LN l).length = l.length := LN_length l
  have hp : 0 < l.length := List.length_pos_iff.mpr h0
  refine ev_sub (ev_call (eva_cons h (eva_cons he eva_nil)) (gLOne.mk s (LN l) (by omega) (by omega)) (.inr rfl)) fun F v hv => ?_
  obtain ⟨r, h1⟩ := hv
  have hr : r.1 < l.length := by rw [← hl]; exact r.2
  refine ⟨⟨l[r.1], List.getElem_mem hr⟩, ?_⟩
  have h2 : Dp K F _ (LN l)[r.1] := h1
  have e : (LN l)[r.1] = nI l[r.1] := by simp [LN]
  rw [e] at h2
  exact h2
inductive gThought (K : PySem.W.Frag) : Option Addr → List Pd → Pd → Prop
  | mk (s : Addr) (S : Sce) (h : S.Ok) : gThought K (some s) [cP (.ref s), plP K (LN S.c), lsP K S.r1 S.r2, dP K (.str (SW S.w))] (exP fun ks : { ks : List Nat // ks.length = S.w.length ∧ ∃ c, Run (ThinkF S.r1 S.r2 S.w) S.c ks c } => dP K (.list (LN ks.1)))
theorem sc_lthought : FnScope ["_law_source_here", "_law_rest", "_law_rankings_here", "_law_word_here", "_law_left_over", "_law_found", "_law_index", "_law_turns_used", "_law_one_here", "_law_part"] ["_law_source_here", "_law_rest", "_law_rankings_here", "_law_word_here"] (defScope (top 99)) := ⟨rfl, rfl, rfl, by decide +kernel, rfl, by decide +kernel, by decide +kernel⟩
-- slots: 0 _law_source_here, 1 _law_rest, 2 _law_rankings_here, 3 _law_word_here, 4 _law_left_over, 5 _law_found, 6 _law_index, 7 _law_turns_used, 8 _law_one_here, 9 _law_part
theorem w_lthought [Tb] (B : Bi K mg pA oA) (D : FunG K mg "_law_thought" "_law_thought" (top 99)) (O__law_one : Okd P w K mg base 3 "_law_one" ["_law_source_here", "_law_some"] (gLOne K)) (O_best_first_picks : Okd P w K mg base 7 "best_first_picks" ["counts", "lists", "sequence"] (gBF1 K)) : Okd P w K mg base 8 "_law_thought" ["_law_source_here", "_law_rest", "_law_rankings_here", "_law_word_here"] (gThought K) := by
  obtain ⟨f, fd, F, m⟩ := D
  refine ⟨f, fd, F.ok sc_lthought (fun vs H Q E h => SpF.len (fun M ds d hg => by cases hg; rfl) h) (fun cdv A outer s H vs Q E hr h => ⟨_, PSs.nox ((pss_cons (ps_par (i := 4) (j := 5) rfl sc_lthought.nd rfl rfl (by decide) rfl rfl (pa_cons (pe_callTy call_list_of rfl B.list (by decide +kernel) (pa_cons (pv 1) pa_nil)) (pa_cons (pe_lst pa_nil) pa_nil)) rfl)
    (pss_cons (ps_for PassesOwn.never rfl (pi_range1 rfl B.range (pa_cons (pe_callB call_len rfl B.len (by decide +kernel) (pa_cons (pv 3) pa_nil)) pa_nil)) (pg_name (i := 6) sc_lthought.nd rfl (by first | exact Or.inl rfl | exact Or.inr rfl))
    (pss_cons (ps_setLc (i := 7) (own := [("_law_part", 9)]) rfl sc_lthought.nd rfl rfl (sw_true rfl rfl rfl (by decide +kernel)) (pi_src (pe_slice sl_str (pv 3) (po_some (pv 6)) po_none)) (blkOk_by (own := [("_law_part", 9)]) (N := ["_law_source_here", "_law_rest", "_law_rankings_here", "_law_word_here", "_law_left_over", "_law_found", "_law_index", "_law_turns_used", "_law_one_here", "_law_part"]) (sc := defScope (top 99)) (by decide +kernel)) (fun _ _ _ _ _ => (pg_name (i := 9) sc_lthought.nd rfl (by first | exact Or.inl rfl | exact Or.inr rfl))) (fun _ _ _ _ _ => pts_nil) (fun _ _ _ _ _ => (pe_tup (pa_cons (pv 9) (pa_cons pe_int pa_nil)))))
    (pss_cons (ps_set (i := 8) sc_lthought.nd rfl (by first | exact Or.inl rfl | exact Or.inr rfl) (pe_callO O__law_one (hr.mono (by decide)) rfl (pa_cons (pv 0) (pa_cons (pe_callO O_best_first_picks (hr.mono (by decide)) rfl (pa_cons (pe_callTy call_tupX rfl B.tuple (by decide +kernel) (pa_cons (pv 4) pa_nil)) (pa_cons (pv 2) (pa_cons (pv 7) pa_nil)))) pa_nil))))
    (pss_cons (ps_asg (pe_op op_sub (pe_ix ix_seq (pv 4) (pv 8) (fun _ _ => rfl)) pe_int) (pg_sub (pv 4) (pv 8) set_list))
    (pss_one (ps_expr (pe_bm PySem.F.plainAttrs_list PySem.F.slot_list_append PySem.F.type_list_append mt_append (pv 5) (pa_cons (pv 8) pa_nil))))))))
    (pss_one (ps_ret (pv 5)))))), body_of (fun M ds d hg => ?_) h⟩), m, F.kp, F.bindsN (fun _ _ _ _ _ _ us hl => match us, hl with | [_, _, _, _], _ => rfl)⟩
  cases hg with
  | mk s S h =>
  refine ⟨by simp, ?_⟩
  walk_at "go"
  have hw10 : S.w.length ≤ 10 := by rw [h.len]; exact h.s10
  have hc6 := h.c6
  refine dq_par (c := .own (ownL K (LN S.c))) (c2 := .own (ownL K (LN []))) (el_list (sk := .t) (EvJ.q_t (ev_pl (ev_var rfl)))) (evc_lst (ds := []) eva_nil (Nat.zero_le _)) (by decide) ?_
  simp only [List.set_cons_zero, List.set_cons_succ]
  refine dq_for (evi_range1 (K := K) (k := ((S.w.length : Nat) : Int)) (el_lenW (ev_var rfl) (by omega)) (by omega) (by omega)) (fun i Γ' => ∃ ks c, ks.length = i ∧ Run (ThinkF S.r1 S.r2 S.w) S.c ks c ∧ Le Γ' [.val (cP (.ref s)), .val (plP K (LN S.c)), .val (lsP K S.r1 S.r2), .val (dP K (.str (SW S.w))), .own (ownL K (LN c)), .own (ownL K (LN ks)), .un, .un, .un, .un]) ⟨[], S.c, rfl, .nil, by walk_at "le"⟩ (fun i Γ' hi hI => ?_) (fun Γ' hI => ?_)
  · obtain ⟨ks, c, hks, R, hle⟩ := hI
    have hi' : i < S.w.length := by simpa using hi
    refine ⟨_, _, fun B O0 O σ H x E hx Q q => gt1 B O0 O σ H x (E.le hle) hx Q q, ?_⟩
    simp only [List.set_cons_zero, List.set_cons_succ]
    have hlen : c.length = S.c.length := R.len
    have hsum := R.sum
    have hdrop : S.w.drop i = S.w[i] :: S.w.drop (i + 1) := List.drop_eq_getElem_cons hi'
    have hcs : (S.w.drop i).length = c.sum := by rw [List.length_drop]; have := h.len; omega
    have hz : ks.length ≤ 10 := by omega
    generalize hq : S.w[i] = q at *
    have hwl : (S.w.drop i).length ≤ 10 := by rw [List.length_drop]; omega
    have hfl := flat_ones (S.w.drop i)
    refine dq_set (c := .own (ownL K (BD (ones (S.w.drop i))))) (evc_eqL (evc_mapF (K := K) (evi_src (ds := sgn (SW (S.w.drop i))) (ev_eq (el_slW (ev_var rfl) (evo_N (K := K) (n := i) (ev_var rfl)) evo_none (by omega)) (by rw [cut_drop])) itd_s) (fun j => bD ([(S.w.drop i).getD j true], 1)) (by simp [sgn_SW]; omega) fun j hj => ?_) ?_) ?_
    · have hj' : j < (S.w.drop i).length := by simpa [sgn_SW] using hj
      have e2 : (sgn (SW (S.w.drop i))).getD j .none = pD ((S.w.drop i).getD j true) := by rw [sgn_SW, List.getD_eq_getElem?_getD, List.getD_eq_getElem?_getD, List.getElem?_map, List.getElem?_eq_getElem hj']; rfl
      rw [e2]
      exact ⟨_, gt1, ev_tupD (ds := [pD ((S.w.drop i).getD j true), nI 1]) (eva_cons (ev_var rfl) (eva_cons (ev_eq ev_int rfl) eva_nil)) (by show 2 ≤ sizeLine; decide)⟩
    · have e : (sgn (SW (S.w.drop i))).length = (S.w.drop i).length := by rw [sgn_SW, List.length_map]
      rw [e, map_range_get (S.w.drop i) _ (fun p => bD ([p], 1)) fun j hj => by rw [List.getD_eq_getElem?_getD, List.getElem?_eq_getElem hj]; rfl]
      unfold BD ones
      rw [List.map_map]
      rfl
    simp only [List.set_cons_zero, List.set_cons_succ]
    refine ds_frz 7 (K := K) (ds := BD (ones (S.w.drop i))) rfl ?_
    simp only [List.set_cons_zero, List.set_cons_succ]
    have hs := gBF1.mk (K := K) c S.r1 S.r2 (ones (S.w.drop i)) q (S.w.drop (i + 1)) (by rw [hlen]; exact h.h1) (by rw [hlen]; exact h.h2) (ones_ok (by omega)) (by simp [ones]; omega) (by rw [hfl, hcs]) (by rw [hfl]; omega) (by rw [hfl]; exact hdrop)
    rw [hfl] at hs
    have hne : bfp S.r1 S.r2 c (S.w.drop i) q ≠ [] := by rw [hdrop]; exact bf_ex h.h1 h.h2 hlen (by rw [← hdrop]; exact hcs)
    have hbl : (bfp S.r1 S.r2 c (S.w.drop i) q).length < 1000 := by
      have a1 := List.length_filter_le (isBf S.r1 S.r2 c (S.w.drop i) q) (rk S.r1 S.r2 q)
      rw [(rk_ok h.h1 h.h2 q).length] at a1
      show (List.filter _ _).length < 1000
      omega
    refine ds_seq (ds_setVX (ev_lone0 (K := K) (l := bfp S.r1 S.r2 c (S.w.drop i) q) hne hbl (ev_var rfl) (ev_call (eva_cons (ev_pl (el_tup (ev_own rfl))) (eva_cons (ev_sub (ev_var rfl) fun F v => lsP_d (K := K) (r1 := S.r1) (r2 := S.r2)) (eva_cons (ev_aL (ev_var rfl)) eva_nil))) hs (.inl rfl))) fun x => ?_)
    simp only [List.set_cons_zero, List.set_cons_succ]
    obtain ⟨x, hx⟩ := x
    obtain ⟨m1, m2, m3⟩ := bf_mem hx
    have hxc : x < c.length := by rw [hlen]; exact (rk_ok h.h1 h.h2 q).lt m1
    refine ds_seq (ds_store (K := K) (ds := LN c) (ix := (x : Int)) (k := x) (x := nI (c.getD x 0 - 1)) (el_subN (el_ixN (sk := .l) (ev_own rfl) (ev_var rfl) hxc) (ev_eq ev_int rfl) (by omega)) rfl (ev_var rfl) (by rw [LN_length]; exact ixN_nat hxc) ?_)
    rw [LN_set]
    simp only [List.set_cons_zero, List.set_cons_succ]
    refine ds_append (K := K) (ds := LN ks) (x := nI x) rfl (ev_var rfl) (by rw [LN_length]; exact small1000 (by omega)) ⟨ks ++ [x], dec c x, by simp [hks], .snoc R hxc m3 ?_, ?_⟩
    · intro p hp
      rw [hks] at hp ⊢
      rw [List.getElem?_eq_getElem hi', hq] at hp
      rw [← Option.some.inj hp]
      exact m2
    · have e : LN ks ++ [nI x] = LN (ks ++ [x]) := by rw [LN_append]; rfl
      rw [e]
      walk_at "le"
  · obtain ⟨ks, c, hks, R, hle⟩ := hI
    refine ds_le hle ?_
    refine ds_frz 5 (K := K) (ds := LN ks) rfl ?_
    simp only [List.set_cons_zero, List.set_cons_succ]
    exact ds_retS (d' := dP K (.list (LN ks))) (d := exP fun ks : { ks : List Nat // ks.length = S.w.length ∧ ∃ c, Run (ThinkF S.r1 S.r2 S.w) S.c ks c } => dP K (.list (LN ks.1))) (ev_var rfl) fun F v hv => ⟨⟨ks, by rw [hks]; simp, c, R⟩, hv⟩
end
end TPE
end
section
set_option maxHeartbeats 400000
namespace TPE
open PySem PySem.Spec PyProof.Rows L2 TPI TPZ RT
abbrev gmOf (S : Sce) (bs : List (List Bool × Nat)) (ks : List Nat) : Gm := ⟨S.c, S.r1, S.r2, bs, ks⟩
theorem cut_ok {w : List Bool} {bs : List (List Bool × Nat)} (h : Cut w bs) (hw : w.length ≤ 10) : BlOk bs := by
  refine ⟨by have := h.few; omega, fun b hb => ?_⟩
  obtain ⟨a, b, c, d⟩ := h.ok b hb
  exact ⟨a, by omega, c, by omega⟩
theorem sce_ok {S : Sce} (h : S.Ok) {bs : List (List Bool × Nat)} (hc : Cut S.w bs) {ks : List Nat} (hl : ks.length = S.w.length) {F : Nat → List Nat → Nat → Prop} {c : List Nat} (R : Run F S.c ks c) : (gmOf S bs ks).Ok := by
  have hw : S.w.length ≤ 10 := by rw [h.len]; exact h.s10
  exact ⟨h.h1, h.h2, cut_ok hc hw, by show bs.length ≤ 90; have := hc.few; omega, by show ks.length = (flat bs).length; rw [hc.word, hl], by show (flat bs).length = S.c.sum; rw [hc.word, h.len], by show ks.length ≤ 100; omega, R.lt, fun x => by have := R.get x; show ks.count x ≤ S.c.getD x 0; omega⟩
section
variable [Tb] {M : Option Addr} {K : PySem.W.Frag} {Γ : List Slt} {tr : TA} {C : Addr} {c r1 r2 : List Nat} {bs : List (List Bool × Nat)} {Z : List Nat → Prop} {ds : List Pd}
theorem ev_makeX {E' : XK} {α : Type} {g : α → Gm} (hG : ∀ a, (g a).Ok) (ha : EvA M tr Γ ds) (k : ∀ F vs, Hs F ds vs → ∃ a, Hs F ((g a).as K) vs) : Ev M (tMake C (SpI K C) [] E' tr) Γ (exP fun a => recP C ((g a).fl K)) := fun B O0 O σ H E Q q => by
  refine ha B O0 O σ H E _ fun vs O1 H1 s hvs x dx hx hdx hne => ?_
  rw [List.append_nil]
  obtain ⟨a, hvs⟩ := k _ _ hvs
  have E1 := E.step s
  have at_ : ∀ a o, H1 a = some o → upd (upd H1 dx (.own x)) x (.ins C dx []) a = some o := fun a o h => by
    rw [upd_ne (ne_of_none h hx), upd_ne (ne_of_none h hdx)]; exact h
  have nx : ¬ O1 x := fun z => s.live x z hx
  refine ⟨O1, x, dx, vs, g a, hG a, rfl, upd_same, nx, Hs.same (wo_same fun a o g1 g2 => ⟨fun z => z.elim g1 fun e => (by rw [e, hx] at g2; cases g2), at_ a o g2⟩) hvs, fun a h => ?_, fun y e => ⟨(E1.src y e.up).1.non.same fun a o h => at_ a o h, (E1.srcO y e.up).1⟩, fun H' dx' fs k1 k2 k3 k4 => ⟨rfl, ?_⟩⟩
  · cases z : H1 a with
    | none => exact absurd z (s.live a h)
    | some o => rw [at_ a o z]; exact fun z => nomatch z
  · have r : Rl none H1 H' := ⟨fun a o hM h => k1 a o hM (ne_of_none h hx) (at_ a o h), fun y e _ => k2 y e⟩
    exact q _ O1 H' (s.trans (.of_rl E1 (.up (fun y e => (E1.src y e).1) r))) ⟨a, x, dx', fs, rfl, by rw [wo_out nx]; exact k3, k4⟩
/-- Record(..) of picks that are known by their form -/
theorem ev_makeK {E' : XK} (ha : EvA M tr Γ [plP K (LN c), lsP K r1 r2, dP K (.list (BD bs)), exP fun ks : { ks : List Nat // Z ks } => dP K (.list (LN ks.1))]) (hok : ∀ ks, Z ks → (Gm.mk c r1 r2 bs ks).Ok) :
    Ev M (tMake C (SpI K C) [] E' tr) Γ (exP fun ks : { ks : List Nat // Z ks } => recP C ((Gm.mk c r1 r2 bs ks.1).fl K)) := by
  refine ev_makeX (g := fun ks : { ks : List Nat // Z ks } => Gm.mk c r1 r2 bs ks.1) (fun ks => hok ks.1 ks.2) ha fun F vs hvs => ?_
  cases hvs with
  | cons a1 t => cases t with
    | cons a2 t => cases t with
      | cons a3 t => cases t with
        | cons a4 t =>
          cases t
          obtain ⟨ks, a4⟩ := a4
          exact ⟨ks, .cons (plP_d a1) (.cons a2 (.cons a3 (.cons a4 .nil)))⟩
end
theorem enumAB (i : Nat) (hi : i < 2) : (sgn (SW [true, false])).getD i .none = pD (i == 0) := by
  match i, hi with
  | 0, _ => rfl
  | 1, _ => rfl
end TPE
end
section
set_option maxHeartbeats 400000
namespace TPE
open PySem PySem.Spec PyProof.Rows L2 TPI TPZ RT
local macro_rules | `(tactic| walk_at "go") => `(tactic| (try dsimp only [cxK, cxKB, cxK2]); (try dsimp [Gam]); (try simp only [List.map_cons, List.map_nil, List.cons_append, List.nil_append]))
local macro_rules | `(tactic| walk_at "ev") => `(tactic| first
  | ((with_reducible apply ev_var); exact rfl)
  | with_reducible exact ev_int
  | with_reducible exact ev_str
  | with_reducible exact ev_bl
  | with_reducible exact ev_non
  | with_reducible exact ev_c
  | ((with_reducible apply el_i) <;> walk_at "ev")
  | ((with_reducible apply el_b) <;> walk_at "ev")
  | ((with_reducible apply el_eqI); (walk_at "ev"); (walk_at "ev"))
  | ((with_reducible apply el_neI); (walk_at "ev"); (walk_at "ev"))
  | ((with_reducible apply el_eqS); (walk_at "ev"); (walk_at "ev"))
  | ((with_reducible apply el_neS); (walk_at "ev"); (walk_at "ev"))
  | ((with_reducible apply ev_notV) <;> walk_at "ev")
  | ((with_reducible apply el_isi); (walk_at "ev"); exact rfl)
  | ((with_reducible apply el_len) <;> walk_at "ej")
  | (((with_reducible apply ev_aT); (walk_at "ev")))
  | (((with_reducible apply ev_aL); (walk_at "ev")))
  | (((with_reducible apply ev_aP); (walk_at "ev")))
  | (((with_reducible apply ev_pl); (walk_at "ev"))))
local macro_rules | `(tactic| walk_at "ej") => `(tactic| first
  | ((with_reducible apply ev_own); exact rfl)
  | ((with_reducible apply EvJ.q_s); walk_at "ev")
  | ((with_reducible apply EvJ.q_l); walk_at "ev")
  | ((with_reducible apply EvJ.q_t); walk_at "ev")
  | ((with_reducible apply evj); walk_at "ev"))
local macro_rules | `(tactic| walk_at "ea") => `(tactic| first
  | with_reducible exact eva_nil
  | ((with_reducible apply eva_cons); (walk_at "ev"); (walk_at "ea")))
local macro_rules | `(tactic| walk_at "et") => `(tactic| first
  | ((with_reducible apply evt_or); (walk_at "et"); (intro _; walk_at "et"))
  | ((with_reducible apply evt_and); (walk_at "et"); (intro _; walk_at "et"))
  | ((with_reducible apply evt_not); (walk_at "et"))
  | ((with_reducible apply evt_test); (walk_at "ev"))
  | ((with_reducible apply evt_tB); (walk_at "ev")))
local macro_rules | `(tactic| walk_at "le") => `(tactic| ((try simp only [List.set_cons_zero, List.set_cons_succ]); repeat' (first | exact Le.nil | (with_reducible apply Le.un) | (apply Le.eq rfl) | apply Le.eq)))
theorem shaped_two (a b : List Nat) : SeqAt.shaped (lsD a b) = true := by
  unfold SeqAt.shaped
  simp [PyData.canLay0, PyData.canLayAll0, PyData.depth, PyData.depthAll, LN_eq, lay_ints, depth_ints]
theorem eqv_two (a b : List Nat) : PyData.eqv (lsD a b) (lsD a b) = true := by
  show (PyData.eqv (.tuple (LN a)) (.tuple (LN a)) && (PyData.eqv (.tuple (LN b)) (.tuple (LN b)) && true)) = true
  rw [LN_eq, LN_eq, eqv_intsT, eqv_intsT]
  simp
section
variable {P : Program} {w : World} {K : PySem.W.Frag} {mg : Str → Option Value} {base : Heap} {pA oA C : Addr}
inductive gRight (K : PySem.W.Frag) : Option Addr → List Pd → Pd → Prop
  | mk (s : Addr) (S : Sce) (h : S.Ok) (bs : List (List Bool × Nat)) (hc : Cut S.w bs) : gRight K (some s) [cP (.ref s), plP K (LN S.c), lsP K S.r1 S.r2, dP K (.str (SW S.w)), dP K (.list (BD bs))] (dP K (.bool true))
theorem sc_lright : FnScope ["_law_source_here", "_law_rest", "_law_rankings_here", "_law_word_here", "_law_turns_used", "_law_side", "_law_me", "_law_best", "_law_game", "_law_sure", "_law_way", "_law_had", "_law_a", "_law_b"] ["_law_source_here", "_law_rest", "_law_rankings_here", "_law_word_here", "_law_turns_used"] (defScope (top 101)) := ⟨rfl, rfl, rfl, by decide +kernel, rfl, by decide +kernel, by decide +kernel⟩
-- slots: 0 _law_source_here, 1 _law_rest, 2 _law_rankings_here, 3 _law_word_here, 4 _law_turns_used, 5 _law_side, 6 _law_me, 7 _law_best, 8 _law_game, 9 _law_sure, 10 _law_way, 11 _law_had, 12 _law_a, 13 _law_b
theorem w_lright [Tb] (B : Bi K mg pA oA) (D : FunG K mg "_law_right" "_law_right" (top 101)) (R : RecC K mg C) (O_best_bundle : Okd P w K mg base 5 "best_bundle" ["counts", "lists", "sequence", "player"] (gBest K)) (O_sure_counts : Okd P w K mg base 6 "sure_counts" ["counts", "ranking", "sequence", "player"] (gSure K)) (O__law_thought : Okd P w K mg base 8 "_law_thought" ["_law_source_here", "_law_rest", "_law_rankings_here", "_law_word_here"] (gThought K)) (O_end_of : Okd P w K mg base 7 "end_of" ["counts", "lists", "sequence"] (gEndOf K)) (O__law_played : Okd P w K mg base 7 "_law_played" ["_law_source_here", "_law_rest", "_law_rankings_here", "_law_word_here", "_law_me", "_law_way"] (gPlayed K)) (O__law_prefixes : Okd P w K mg base 1 "_law_prefixes" ["_law_bundle_of", "_law_ranking_of"] (gLPre K)) (O__law_no_loss : Okd P w K mg base 13 "_law_no_loss" ["_law_game", "_law_me", "_law_foe"] (gNoLoss K C)) (OM_bundles : OkM P w K mg base C 2 "bundles" ["self"] (gBun K C)) (OI : OkI P w K mg base C 6) : Okd P w K mg base 14 "_law_right" ["_law_source_here", "_law_rest", "_law_rankings_here", "_law_word_here", "_law_turns_used"] (gRight K) := by
  obtain ⟨f, fd, F, m⟩ := D
  refine ⟨f, fd, F.ok sc_lright (fun vs H Q E h => SpF.len (fun M ds d hg => by cases hg; rfl) h) (fun cdv A outer s H vs Q E hr h => ⟨_, PSs.nox ((pss_cons (ps_for PassesOwn.never rfl (pi_enumS rfl B.enumerate (pa_cons pe_str pa_nil)) (pg_tup rfl (pgs_cons (pg_name (i := 5) sc_lright.nd rfl (by first | exact Or.inl rfl | exact Or.inr rfl)) (pgs_cons (pg_name (i := 6) sc_lright.nd rfl (by first | exact Or.inl rfl | exact Or.inr rfl)) pgs_nil)))
    (pss_cons (ps_set (i := 7) sc_lright.nd rfl (by first | exact Or.inl rfl | exact Or.inr rfl) (pe_callO O_best_bundle (hr.mono (by decide)) rfl (pa_cons (pv 1) (pa_cons (pv 2) (pa_cons (pv 4) (pa_cons (pv 6) pa_nil))))))
    (pss_cons (ps_set (i := 8) sc_lright.nd rfl (by first | exact Or.inl rfl | exact Or.inr rfl) (pe_makeO OI (hr.mono (by decide)) rfl (pa_cons (pv 1) (pa_cons (pv 2) (pa_cons (pv 4) (pa_cons (pe_callO O__law_played (hr.mono (by decide)) rfl (pa_cons (pv 0) (pa_cons (pv 1) (pa_cons (pv 2) (pa_cons (pv 3) (pa_cons (pv 6) (pa_cons (pv 7) pa_nil))))))) pa_nil))))))
    (pss_cons (ps_if (PW.pt (pw_or (pt_not (pt_val (pe_callO O__law_no_loss (hr.mono (by decide)) rfl (pa_cons (pv 8) (pa_cons (pv 6) (pa_cons pe_str pa_nil)))))) (pw_or1 (pt_cmpR (op_neD hr.units) (pe_ix ix_seq (pe_methO0 (pv 8) R.cls OM_bundles (hr.mono (by decide))) (pv 5) (fun _ _ => rfl)) (pv 7) (nomark _)))))
    (pss_one (ps_ret pe_bl))
    pss_nil)
    (pss_cons (ps_set (i := 9) sc_lright.nd rfl (by first | exact Or.inl rfl | exact Or.inr rfl) (pe_callO O_sure_counts (hr.mono (by decide)) rfl (pa_cons (pv 1) (pa_cons (pe_ix ix_seq (pv 2) (pv 5) (fun _ _ => rfl)) (pa_cons (pv 4) (pa_cons (pv 6) pa_nil))))))
    (pss_one (ps_for PassesOwn.never rfl (pi_src (pe_lst (pa_cons pe_str (pa_cons pe_str pa_nil)))) (pg_name (i := 10) sc_lright.nd rfl (by first | exact Or.inl rfl | exact Or.inr rfl))
    (pss_cons (ps_set (i := 8) sc_lright.nd rfl (by first | exact Or.inl rfl | exact Or.inr rfl) (pe_makeO OI (hr.mono (by decide)) rfl (pa_cons (pv 1) (pa_cons (pv 2) (pa_cons (pv 4) (pa_cons (pe_callO O__law_played (hr.mono (by decide)) rfl (pa_cons (pv 0) (pa_cons (pv 1) (pa_cons (pv 2) (pa_cons (pv 3) (pa_cons (pv 6) (pa_cons (pv 10) pa_nil))))))) pa_nil))))))
    (pss_cons (ps_set (i := 11) sc_lright.nd rfl (by first | exact Or.inl rfl | exact Or.inr rfl) (pe_callO O__law_prefixes (hr.mono (by decide)) rfl (pa_cons (pe_ix ix_seq (pe_methO0 (pv 8) R.cls OM_bundles (hr.mono (by decide))) (pv 5) (fun _ _ => rfl)) (pa_cons (pe_ix ix_seq (pv 2) (pv 5) (fun _ _ => rfl)) pa_nil))))
    (pss_one (ps_if (PW.pt (pw_or (pt_not (pt_val (pe_callO O__law_no_loss (hr.mono (by decide)) rfl (pa_cons (pv 8) (pa_cons (pv 6) (pa_cons pe_str pa_nil)))))) (pw_or1 (pt_not (pt_val (pe_callB (cr_all rfl) rfl B.all (by decide +kernel) (pa_cons (pe_lc (own := [("_law_a", 12), ("_law_b", 13)]) (g := (gTup K 2 (gCons (gName 12) (gCons (gName 13) gNil)))) rfl sc_lright.nd (pi_zipZ (pz_zip rfl B.zip (pa_cons (pv 11) (pa_cons (pv 9) pa_nil)))) (blkOk_by (own := [("_law_a", 12), ("_law_b", 13)]) (N := ["_law_source_here", "_law_rest", "_law_rankings_here", "_law_word_here", "_law_turns_used", "_law_side", "_law_me", "_law_best", "_law_game", "_law_sure", "_law_way", "_law_had", "_law_a", "_law_b"]) (sc := defScope (top 101)) (by decide +kernel)) (fun _ _ _ _ _ => (pg_tup rfl (pgs_cons (pg_name (i := 12) sc_lright.nd rfl (by first | exact Or.inl rfl | exact Or.inr rfl)) (pgs_cons (pg_name (i := 13) sc_lright.nd rfl (by first | exact Or.inl rfl | exact Or.inr rfl)) pgs_nil)))) (fun _ _ _ _ _ => pts_nil) (fun _ _ _ _ _ => (pe_cmpR op_ge (pv 12) (pv 13) (nomark _)))) pa_nil)))))))
    (pss_one (ps_ret pe_bl))
    pss_nil)))))))))))
    (pss_cons (ps_set (i := 8) sc_lright.nd rfl (by first | exact Or.inl rfl | exact Or.inr rfl) (pe_makeO OI (hr.mono (by decide)) rfl (pa_cons (pv 1) (pa_cons (pv 2) (pa_cons (pv 4) (pa_cons (pe_callO O__law_thought (hr.mono (by decide)) rfl (pa_cons (pv 0) (pa_cons (pv 1) (pa_cons (pv 2) (pa_cons (pv 3) pa_nil))))) pa_nil))))))
    (pss_cons (ps_if (PW.pt (pw_or (pt_not (pt_val (pe_callO O__law_no_loss (hr.mono (by decide)) rfl (pa_cons (pv 8) (pa_cons pe_str (pa_cons pe_str pa_nil)))))) (pw_or1 (pt_not (pt_val (pe_callO O__law_no_loss (hr.mono (by decide)) rfl (pa_cons (pv 8) (pa_cons pe_str (pa_cons pe_str pa_nil)))))))))
    (pss_one (ps_ret pe_bl))
    pss_nil)
    (pss_one (ps_ret (pe_cmpR (op_eqD hr.units) (pe_methO0 (pv 8) R.cls OM_bundles (hr.mono (by decide))) (pe_callO O_end_of (hr.mono (by decide)) rfl (pa_cons (pv 1) (pa_cons (pv 2) (pa_cons (pv 4) pa_nil)))) (nomark _)))))))), body_of (fun M ds d hg => ?_) h⟩), m, F.kp, F.bindsN (fun _ _ _ _ _ _ us hl => match us, hl with | [_, _, _, _, _], _ => rfl)⟩
  cases hg with
  | mk s S h bs hc =>
  refine ⟨by simp, ?_⟩
  walk_at "go"
  have hw10 : S.w.length ≤ 10 := by rw [h.len]; exact h.s10
  have hbk := cut_ok hc hw10
  have hfl := hc.word
  have hfc : (flat bs).length = S.c.sum := by rw [hfl, h.len]
  refine dq_forL (evi_enum (ds := sgn (SW [true, false])) (ev_eq ev_str rfl) itd_s) (fun i => True) (fun i => [.val (cP (.ref s)), .val (plP K (LN S.c)), .val (lsP K S.r1 S.r2), .val (dP K (.str (SW S.w))), .val (dP K (.list (BD bs))), .un, .un, .un, .un, .un, .un, .un, .un, .un]) ⟨trivial, by walk_at "le"⟩ (fun i hi _ => ?_) (fun _ => ?_)
  · have hi' : i < 2 := hi
    rw [enumAB i hi']
    refine ⟨_, _, gt2, ?_⟩
    simp only [List.set_cons_zero, List.set_cons_succ, Int.zero_add]
    have hside : i = if (i == 0) then 0 else 1 := by
      match i, hi' with
      | 0, _ => rfl
      | 1, _ => rfl
    generalize (i == 0) = p at *
    subst hside
    have hR := rk_ok h.h1 h.h2 p
    have hbun : ∀ {Γ : List Slt} {t : TE} {G : Gm}, Ev (some s) t Γ (plP K (G.buns G.ks.length)) → ∀ {ts : TE}, Ev (some s) ts Γ (dP K (nI (if p then 0 else 1))) → Ev (some s) (tOp (rIx K) t ts) Γ (dP K (.tuple (LN (G.bun G.ks.length p)))) := fun {Γ t G} ht ts hs => el_ix (ds := G.buns G.ks.length) (i := ((if p then 0 else 1 : Nat) : Int)) (EvJ.q_t (ev_pl ht)) hs (by cases p <;> rfl)
    have hbest := gBest.mk (K := K) S.c S.r1 S.r2 bs p h.h1 h.h2 hbk (Nat.le_of_eq hfc)
    rw [hfl] at hbest
    refine dq_setV (d := plP K (LN (bestB S.w p S.c S.r1 S.r2))) (ev_call (eva_cons (ev_pl (ev_var rfl)) (eva_cons (ev_var rfl) (eva_cons (ev_aL (ev_var rfl)) (eva_cons (ev_var rfl) eva_nil)))) hbest (.inl rfl)) ?_
    simp only [List.set_cons_zero, List.set_cons_succ]
    -- the player with the best bundle
    refine ds_seq (ds_setVX (ev_makeK (K := K) (C := C) (c := S.c) (r1 := S.r1) (r2 := S.r2) (bs := bs) (Z := fun ks => ks.length = S.w.length ∧ ∃ c, Run (Kd.plan.F S p) S.c ks c) (eva_cons (ev_var rfl) (eva_cons (ev_var rfl) (eva_cons (ev_var rfl) (eva_cons (ev_call (eva_cons (ev_var rfl) (eva_cons (ev_var rfl) (eva_cons (ev_var rfl) (eva_cons (ev_var rfl) (eva_cons (ev_var rfl) (eva_cons (ev_pl (ev_var rfl)) eva_nil)))))) (gPlayed.mk s S h p .plan) (.inr rfl)) eva_nil)))) fun ks hk => sce_ok h hc hk.1 hk.2.choose_spec) fun ks => ?_)
    obtain ⟨ks, hk, cE, R⟩ := ks
    simp only [List.set_cons_zero, List.set_cons_succ]
    have G1 := sce_ok h hc hk R
    have R1 : Run (PlainF S.r1 S.r2 (flat bs) p) S.c ks cE := by rw [hfl]; exact R
    refine dq_guard (b := !true || !decide ((gmOf S bs ks).bun ks.length p = bestB S.w p S.c S.r1 S.r2)) (evt_or (evt_not (evt_tB (K := K) (ev_call (eva_cons (ev_var rfl) (eva_cons (ev_var rfl) (eva_cons ev_str eva_nil))) (gNoLoss.mk (gmOf S bs ks) G1 p "plain" (by decide) (Gm.plain_noFall G1 p R1)) (.inl rfl)))) fun _ => evt_test (K := K) (el_neT (hbun (G := gmOf S bs ks) (ev_meth (ev_var rfl) rfl eva_nil (gBun.mk (gmOf S bs ks) G1) (.inl rfl)) (ev_var rfl)) (ev_pl (ev_var rfl)))) ?_ ?_
    · have e := Gm.plain_end G1 p R1
      have e : (gmOf S bs ks).bun ks.length p = bestB (flat bs) p S.c S.r1 S.r2 := e
      rw [hfl] at e
      rw [e]
      simp
    have hsure := gSure.mk (K := K) S.c (rk S.r1 S.r2 p) bs p hR hbk (Nat.le_of_eq hfc)
    refine dq_setV (d := dP K (.list (LN (caps (flat bs) p S.c (rk S.r1 S.r2 p))))) (ev_call (eva_cons (ev_pl (ev_var rfl)) (eva_cons (ev_pl (el_ixP (i := ((if p then 0 else 1 : Nat) : Int)) (ev_var rfl) (ev_var rfl) (plP_if p))) (eva_cons (ev_aL (ev_var rfl)) (eva_cons (ev_var rfl) eva_nil)))) hsure (.inl rfl)) ?_
    simp only [List.set_cons_zero, List.set_cons_succ]
    refine ds_forL (evi_src (ds := [.str "safe", .str "best"]) (ev_frz (evc_lst (K := K) (ds := [.str "safe", .str "best"]) (eva_cons ev_str (eva_cons ev_str eva_nil)) (by show 2 ≤ sizeLine; decide))) itd_l) (fun i => True) (fun i => [.val (cP (.ref s)), .val (plP K (LN S.c)), .val (lsP K S.r1 S.r2), .val (dP K (.str (SW S.w))), .val (dP K (.list (BD bs))), .val (dP K (nI (if p then 0 else 1))), .val (dP K (pD p)), .un, .un, .val (dP K (.list (LN (caps (flat bs) p S.c (rk S.r1 S.r2 p))))), .un, .un, .un, .un]) ⟨trivial, by walk_at "le"⟩ (fun j hj _ => ?_) (fun _ Γ' hl => ⟨trivial, hl.trans (by walk_at "le")⟩)
    have hkd : ∃ kd : Kd, ([PyData.str "safe", .str "best"]).getD j .none = kd.way S p ∧ kd.F S p = fun n c x => S.w[n]? = some p → SafeP c (rk S.r1 S.r2 p) (S.w.drop n) p x := by
      match j, hj with
      | 0, _ => exact ⟨.safe, rfl, rfl⟩
      | 1, _ => exact ⟨.best, rfl, rfl⟩
    obtain ⟨kd, e1, e2⟩ := hkd
    rw [e1]
    refine ⟨_, _, gt1, ?_⟩
    simp only [List.set_cons_zero, List.set_cons_succ]
    refine ds_seq (ds_setVX (ev_makeK (K := K) (C := C) (c := S.c) (r1 := S.r1) (r2 := S.r2) (bs := bs) (Z := fun ks => ks.length = S.w.length ∧ ∃ c, Run (kd.F S p) S.c ks c) (eva_cons (ev_var rfl) (eva_cons (ev_var rfl) (eva_cons (ev_var rfl) (eva_cons (ev_call (eva_cons (ev_var rfl) (eva_cons (ev_var rfl) (eva_cons (ev_var rfl) (eva_cons (ev_var rfl) (eva_cons (ev_var rfl) (eva_cons (ev_var rfl) eva_nil)))))) (gPlayed.mk s S h p kd) (.inr rfl)) eva_nil)))) fun ks hk => sce_ok h hc hk.1 hk.2.choose_spec) fun ks => ?_)
    clear R R1 G1 hk
    obtain ⟨ks, hk, cE, R⟩ := ks
    simp only [List.set_cons_zero, List.set_cons_succ]
    have G1 := sce_ok h hc hk R
    have R1 : Run (fun n c x => (gmOf S bs ks).w[n]? = some p → SafeP c (rk S.r1 S.r2 p) ((gmOf S bs ks).w.drop n) p x) S.c ks cE := by
      rw [e2] at R
      show Run (fun n c x => (flat bs)[n]? = some p → SafeP c (rk S.r1 S.r2 p) ((flat bs).drop n) p x) S.c ks cE
      rw [hfl]
      exact R
    have hbl : ((gmOf S bs ks).bun ks.length p).length = S.c.length := Gm.bun_len _ _
    have hrl := hR.length
    have hc6 := h.c6
    refine dq_setV (d := dP K (.list (LN (psums ((gmOf S bs ks).bun ks.length p) (rk S.r1 S.r2 p))))) (ev_call (eva_cons (hbun (G := gmOf S bs ks) (ev_meth (ev_var rfl) rfl eva_nil (gBun.mk (gmOf S bs ks) G1) (.inl rfl)) (ev_var rfl)) (eva_cons (ev_pl (el_ixP (i := ((if p then 0 else 1 : Nat) : Int)) (ev_var rfl) (ev_var rfl) (plP_if p))) eva_nil)) (gLPre.mk ((gmOf S bs ks).bun ks.length p) (rk S.r1 S.r2 p) (fun x hx => by rw [hbl]; exact hR.lt hx) (by omega)) (.inl rfl)) ?_
    simp only [List.set_cons_zero, List.set_cons_succ]
    refine dq_guardL (b := !true || !true) (evt_or (evt_not (evt_tB (K := K) (ev_call (eva_cons (ev_var rfl) (eva_cons (ev_var rfl) (eva_cons ev_str eva_nil))) (gNoLoss.mk (gmOf S bs ks) G1 p "hostile" (by decide) (Gm.host_noFall G1 p R1)) (.inl rfl)))) fun _ => evt_not (evt_tB (K := K) (ev_eq (el_all (bs := List.replicate S.c.length true) (evc_eqL (evc_mapF (K := K) (evi_zip (K := K) (ds1 := LN (psums ((gmOf S bs ks).bun ks.length p) (rk S.r1 S.r2 p))) (ds2 := LN (caps (flat bs) p S.c (rk S.r1 S.r2 p))) (d1 := dP K (.list (LN (psums ((gmOf S bs ks).bun ks.length p) (rk S.r1 S.r2 p))))) (d2 := dP K (.list (LN (caps (flat bs) p S.c (rk S.r1 S.r2 p))))) (eva_cons (ev_var rfl) (eva_cons (ev_var rfl) eva_nil)) itd_l itd_l (fun e => by cases e)) (fun _ => .bool true) (by rw [LN_length, LN_length, psums_length, caps_length]; omega) fun m hm => ?_) ?_)) (by simp)))) rfl ⟨trivial, by walk_at "le"⟩
    · rw [LN_length, LN_length, psums_length, caps_length, Nat.min_self, hrl] at hm
      rw [LN_getD (by rw [psums_length]; omega), LN_getD (by rw [caps_length]; omega)]
      have hle := Gm.host_end G1 p R1 hm
      have hle : (caps (flat bs) p S.c (rk S.r1 S.r2 p)).getD m 0 ≤ (psums ((gmOf S bs ks).bun ks.length p) (rk S.r1 S.r2 p)).getD m 0 := hle
      exact ⟨_, gt2, ev_eq (el_b (ev_var rfl) (ev_var rfl)) (by rw [decide_eq_true (by omega)])⟩
    · rw [LN_length, LN_length, psums_length, caps_length, Nat.min_self, hrl]
      simp [List.map_const']
  · have e2 : (sgn (SW [true, false])).length = 2 := rfl
    refine ds_seq (ds_setVX (ev_makeK (K := K) (C := C) (c := S.c) (r1 := S.r1) (r2 := S.r2) (bs := bs) (Z := fun ks => ks.length = S.w.length ∧ ∃ c, Run (ThinkF S.r1 S.r2 S.w) S.c ks c) (eva_cons (ev_var rfl) (eva_cons (ev_var rfl) (eva_cons (ev_var rfl) (eva_cons (ev_call (eva_cons (ev_var rfl) (eva_cons (ev_var rfl) (eva_cons (ev_var rfl) (eva_cons (ev_var rfl) eva_nil)))) (gThought.mk s S h) (.inr rfl)) eva_nil)))) fun ks hk => sce_ok h hc hk.1 hk.2.choose_spec) fun ks => ?_)
    obtain ⟨ks, hk, cE, R⟩ := ks
    simp only [List.set_cons_zero, List.set_cons_succ]
    have G1 := sce_ok h hc hk R
    have R1 : Run (ThinkF S.r1 S.r2 (flat bs)) S.c ks cE := by rw [hfl]; exact R
    have hA : ∀ {Γ : List Slt}, Ev (some s) (tC (.str "A")) Γ (dP K (pD true)) := ev_eq ev_str rfl
    have hB : ∀ {Γ : List Slt}, Ev (some s) (tC (.str "B")) Γ (dP K (pD false)) := ev_eq ev_str rfl
    refine dq_guard (b := !true || !true) (evt_or (evt_not (evt_tB (K := K) (ev_call (eva_cons (ev_var rfl) (eva_cons hA (eva_cons ev_str eva_nil))) (gNoLoss.mk (gmOf S bs ks) G1 true "thinking" (by decide) (Gm.think_noFall G1 R1 true)) (.inl rfl)))) fun _ => evt_not (evt_tB (K := K) (ev_call (eva_cons (ev_var rfl) (eva_cons hB (eva_cons ev_str eva_nil))) (gNoLoss.mk (gmOf S bs ks) G1 false "thinking" (by decide) (Gm.think_noFall G1 R1 false)) (.inl rfl)))) rfl ?_
    have hend := gEndOf.mk (K := K) S.c S.r1 S.r2 bs h.h1 h.h2 hbk hfc (by rw [hfl]; omega)
    have t1 : (gmOf S bs ks).bun ks.length true = endB S.r1 S.r2 S.c (flat bs) true := Gm.think_end G1 R1 true
    have t2 : (gmOf S bs ks).bun ks.length false = endB S.r1 S.r2 S.c (flat bs) false := Gm.think_end G1 R1 false
    have hb : Ev (some s) (tMeth C "bundles" (SpF (gBun K C)) [] E0 (tVar 8) tNil) [.val (cP (.ref s)), .val (plP K (LN S.c)), .val (lsP K S.r1 S.r2), .val (dP K (.str (SW S.w))), .val (dP K (.list (BD bs))), .un, .un, .un, .val (recP C ((gmOf S bs ks).fl K)), .un, .un, .un, .un, .un] (dP K (lsD (endB S.r1 S.r2 S.c (flat bs) true) (endB S.r1 S.r2 S.c (flat bs) false))) := by
      have := ev_pl (K := K) (M := some s) (ev_meth (m := "bundles") (E' := E0) (M' := none) (M := some s) (Γ := [.val (cP (.ref s)), .val (plP K (LN S.c)), .val (lsP K S.r1 S.r2), .val (dP K (.str (SW S.w))), .val (dP K (.list (BD bs))), .un, .un, .un, .val (recP C ((gmOf S bs ks).fl K)), .un, .un, .un, .un, .un]) (ta := tVar 8) (ev_var rfl) rfl eva_nil (gBun.mk (gmOf S bs ks) G1) (.inl rfl))
      have e : (gmOf S bs ks).buns (gmOf S bs ks).ks.length = [.tuple (LN (endB S.r1 S.r2 S.c (flat bs) true)), .tuple (LN (endB S.r1 S.r2 S.c (flat bs) false))] := by
        rw [← t1, ← t2]
      rw [e] at this
      exact this
    refine ds_retR (ev_eq (ev_op (evj hb) (evj (ev_sub (ev_call (eva_cons (ev_pl (ev_var rfl)) (eva_cons (ev_sub (ev_var rfl) fun F v => lsP_d (K := K) (r1 := S.r1) (r2 := S.r2)) (eva_cons (ev_aL (ev_var rfl)) eva_nil))) hend (.inl rfl)) fun F v => lsP_d (K := K) (r1 := endB S.r1 S.r2 S.c (flat bs) true) (r2 := endB S.r1 S.r2 S.c (flat bs) false))) (oj_eqD toD_d toD_d (shaped_two _ _) (shaped_two _ _))) (by rw [eqv_two]))
end
end TPE
end
section
set_option maxHeartbeats 400000
namespace TPE
open PySem PySem.Spec PyProof.Rows L2 TPI TPZ RT
local macro_rules | `(tactic| walk_at "go") => `(tactic| (try dsimp only [cxK, cxKB, cxK2]); (try dsimp [Gam]); (try simp only [List.map_cons, List.map_nil, List.cons_append, List.nil_append]))
local macro_rules | `(tactic| walk_at "ev") => `(tactic| first
  | ((with_reducible apply ev_var); exact rfl)
  | with_reducible exact ev_int
  | with_reducible exact ev_str
  | with_reducible exact ev_bl
  | with_reducible exact ev_non
  | with_reducible exact ev_c
  | ((with_reducible apply el_i) <;> walk_at "ev")
  | ((with_reducible apply el_b) <;> walk_at "ev")
  | ((with_reducible apply el_eqI); (walk_at "ev"); (walk_at "ev"))
  | ((with_reducible apply el_neI); (walk_at "ev"); (walk_at "ev"))
  | ((with_reducible apply el_eqS); (walk_at "ev"); (walk_at "ev"))
  | ((with_reducible apply el_neS); (walk_at "ev"); (walk_at "ev"))
  | ((with_reducible apply ev_notV) <;> walk_at "ev")
  | ((with_reducible apply el_isi); (walk_at "ev"); exact rfl)
  | ((with_reducible apply el_len) <;> walk_at "ej")
  | (((with_reducible apply ev_aT); (walk_at "ev")))
  | (((with_reducible apply ev_aL); (walk_at "ev")))
  | (((with_reducible apply ev_aP); (walk_at "ev")))
  | (((with_reducible apply ev_pl); (walk_at "ev"))))
local macro_rules | `(tactic| walk_at "ej") => `(tactic| first
  | ((with_reducible apply ev_own); exact rfl)
  | ((with_reducible apply EvJ.q_s); walk_at "ev")
  | ((with_reducible apply EvJ.q_l); walk_at "ev")
  | ((with_reducible apply EvJ.q_t); walk_at "ev")
  | ((with_reducible apply evj); walk_at "ev"))
local macro_rules | `(tactic| walk_at "ea") => `(tactic| first
  | with_reducible exact eva_nil
  | ((with_reducible apply eva_cons); (walk_at "ev"); (walk_at "ea")))
local macro_rules | `(tactic| walk_at "et") => `(tactic| first
  | ((with_reducible apply evt_or); (walk_at "et"); (intro _; walk_at "et"))
  | ((with_reducible apply evt_and); (walk_at "et"); (intro _; walk_at "et"))
  | ((with_reducible apply evt_not); (walk_at "et"))
  | ((with_reducible apply evt_test); (walk_at "ev"))
  | ((with_reducible apply evt_tB); (walk_at "ev")))
local macro_rules | `(tactic| walk_at "le") => `(tactic| ((try simp only [List.set_cons_zero, List.set_cons_succ]); repeat' (first | exact Le.nil | (with_reducible apply Le.un) | (apply Le.eq rfl) | apply Le.eq)))
section
variable {P : Program} {w : World} {K : PySem.W.Frag} {mg : Str → Option Value} {base : Heap} {pA oA C : Addr}
inductive gLaw (K : PySem.W.Frag) : Option Addr → List Pd → Pd → Prop
  | mk (ns : List Int) (hz : ns.length ≤ 63) : gLaw K none [dP K (.list (ns.map PyData.int))] (dP K (.bool true))
theorem int_getD {ns : List Int} {i : Nat} (h : i < (ns.map PyData.int).length) : (ns.map PyData.int).getD i .none = .int (ns.getD i 0) := by
  have h' : i < ns.length := by simpa using h
  rw [List.getD_eq_getElem?_getD, List.getD_eq_getElem?_getD, List.getElem?_map, List.getElem?_eq_getElem h']
  rfl
theorem sc_law : FnScope ["_law_script", "_law_cell", "_law_source_here", "_law_rest", "_law_rankings_here", "_law_word_here"] ["_law_script"] (defScope (top 102)) := ⟨rfl, rfl, rfl, by decide +kernel, rfl, by decide +kernel, by decide +kernel⟩
-- slots: 0 _law_script, 1 _law_cell, 2 _law_source_here, 3 _law_rest, 4 _law_rankings_here, 5 _law_word_here
theorem w_law [Tb] (B : Bi K mg pA oA) {f : Addr} {fd : FuncData} (F : FunD K "law" "law" (defArgs (top 102)) (defBody (top 102)) (defScope (top 102)) [] [] f fd) (O__law_scene : Okd P w K mg base 5 "_law_scene" ["_law_source_here", "_law_kinds_most", "_law_items_most", "_law_whole"] (gScene K)) (O__law_right : Okd P w K mg base 14 "_law_right" ["_law_source_here", "_law_rest", "_law_rankings_here", "_law_word_here", "_law_turns_used"] (gRight K)) (O__law_blocks : Okd P w K mg base 3 "_law_blocks" ["_law_source_here", "_law_word_here"] (gBlocks K)) (OS_law_source : OkS P w K mg base 1 "_law_source" ["_law_cell"] spSrc) : FnOk P w K mg base CX0 15 f fd ["_law_script"] (SpF (gLaw K)) := by
  refine F.ok sc_law (fun vs H Q E h => SpF.len (fun M ds d hg => by cases hg; rfl) h) (fun cdv A outer s H vs Q E hr h => ⟨_, PSs.nox ((pss_cons (ps_for PassesOwn.never rfl (pi_src (pe_slice sl_list (pe_op op_catL (pv 0) (pe_lst (pa_cons pe_int pa_nil))) po_none (po_some pe_int))) (pg_name (i := 1) sc_law.nd rfl (by first | exact Or.inl rfl | exact Or.inr rfl))
    (pss_cons (ps_set (i := 2) sc_law.nd rfl (by first | exact Or.inl rfl | exact Or.inr rfl) (pe_callS OS_law_source (hr.mono (by decide)) rfl (pa_cons (pv 1) pa_nil)))
    (pss_cons (ps_asg (pe_callO O__law_scene (hr.mono (by decide)) rfl (pa_cons (pv 2) (pa_cons pe_int (pa_cons pe_int (pa_cons pe_bl pa_nil))))) (pg_tup rfl (pgs_cons (pg_name (i := 3) sc_law.nd rfl (by first | exact Or.inl rfl | exact Or.inr rfl)) (pgs_cons (pg_name (i := 4) sc_law.nd rfl (by first | exact Or.inl rfl | exact Or.inr rfl)) (pgs_cons (pg_name (i := 5) sc_law.nd rfl (by first | exact Or.inl rfl | exact Or.inr rfl)) pgs_nil)))))
    (pss_one (ps_if (pt_not (pt_val (pe_callO O__law_right (hr.mono (by decide)) rfl (pa_cons (pv 2) (pa_cons (pv 3) (pa_cons (pv 4) (pa_cons (pv 5) (pa_cons (pe_callO O__law_blocks (hr.mono (by decide)) rfl (pa_cons (pv 2) (pa_cons (pv 5) pa_nil))) pa_nil))))))))
    (pss_one (ps_ret pe_bl))
    pss_nil)))))
    (pss_one (ps_ret pe_bl)))), body_of (fun M ds d hg => ?_) h⟩)
  cases hg with
  | mk ns hz =>
  refine ⟨by simp, ?_⟩
  walk_at "go"
  have hcat : ns.map PyData.int ++ [.int 0] = (ns ++ [0]).map PyData.int := by simp
  have hcut : cutD ((ns ++ [0]).map PyData.int) none (some ((4 : Nat) : Int)) = ((ns ++ [0]).take 4).map PyData.int := by rw [cut_take, List.map_take]
  refine dq_forL (evi_src (ds := ((ns ++ [0]).take 4).map PyData.int) (ev_frz (evc_eqL (el_slL (ds := (ns ++ [0]).map PyData.int) (EvJ.q_l (ev_frz (evc_eqL (el_catL (ds := ns.map PyData.int) (es := [.int 0]) (EvJ.q_l (ev_var rfl)) (EvJ.q_l (ev_frz (evc_lst (K := K) (ds := [.int 0]) (eva_cons ev_int eva_nil) (by show 1 ≤ sizeLine; decide)))) (by simp; omega)) hcat))) evo_none (evo_N (K := K) (n := 4) (ev_eq ev_int rfl))) hcut)) itd_l) (fun i => True) (fun i => [.val (dP K (.list (ns.map PyData.int))), .un, .un, .un, .un, .un]) ⟨trivial, by walk_at "le"⟩ (fun i hi _ => ?_) (fun _ => ?_)
  · rw [int_getD hi]
    generalize ((ns ++ [0]).take 4).getD i 0 = n
    refine ⟨_, _, gt1, ?_⟩
    simp only [List.set_cons_zero, List.set_cons_succ]
    refine dq_set (c := .own (ownL K [.int n, .int n, .int 0])) (ev_newsrc (ev_var rfl) _) ?_
    simp only [List.set_cons_zero, List.set_cons_succ]
    refine ds_switch (K := K) (x := n) (c := n) (n := 0) 2 rfl fun s => ?_
    simp only [List.set_cons_zero, List.set_cons_succ]
    refine ds_asgX (p := fun S : { S : Sce // S.Ok } => S.1.pd K) (ev_call (eva_cons (ev_var rfl) (eva_cons (ev_eq ev_int rfl) (eva_cons (ev_eq ev_int rfl) (eva_cons ev_bl eva_nil)))) (gScene.mk s) (.inr rfl)) fun S => ?_
    obtain ⟨S, hS⟩ := S
    refine ⟨[3, 4, 5], _, gt_tup (gts_cons (gt_name (by simp)) (gts_cons (gt_name (by simp)) (gts_cons (gt_name (by simp)) gts_nil))) rfl, ?_⟩
    simp only [List.set_cons_zero, List.set_cons_succ]
    have hw10 : S.w.length ≤ 10 := by rw [hS.len]; exact hS.s10
    refine dq_guardL (b := !true) (evt_not (evt_tB (K := K) (ev_callX (ds := [cP (.ref s), plP K (LN S.c), lsP K S.r1 S.r2, dP K (.str (SW S.w)), exP fun r : { bs : List (List Bool × Nat) // Cut S.w bs } => dP K (.list (BD r.1))]) (eva_cons (ev_var rfl) (eva_cons (ev_var rfl) (eva_cons (ev_var rfl) (eva_cons (ev_var rfl) (eva_cons (ev_call (eva_cons (ev_var rfl) (eva_cons (ev_var rfl) eva_nil)) (gBlocks.mk s S.w (by omega)) (.inr rfl)) eva_nil))))) (fun F vs hs => ?_) (.inr rfl)))) rfl ⟨trivial, by walk_at "le"⟩
    cases hs with
    | cons h1 t => cases t with
      | cons h2 t => cases t with
        | cons h3 t => cases t with
          | cons h4 t => cases t with
            | cons h5 t =>
              cases t
              obtain ⟨bs, h5⟩ := h5
              exact ⟨_, _, .cons h1 (.cons h2 (.cons h3 (.cons h4 (.cons h5 .nil)))), gRight.mk s S hS bs.1 bs.2, Sub.refl _⟩
  · exact ds_retR ev_bl
end
end TPE
end
section
set_option maxHeartbeats 0
namespace TP
open PySem PySem.Spec PyProof.Rows L2
def top (i : Nat) : Stmt := PySem.Challenge.pw_turnpicks_k60_whole_players_without_loss.main.body.getD i (.Pass ⟨0, 0, 0, 0⟩)

def d0 : He.DefD := ⟨("is_integer", none), "is_integer", "is_integer", defArgs (top 21), defBody (top 21), defScope (top 21), [], []⟩
def d1 : He.DefD := ⟨("is_at_least", none), "is_at_least", "is_at_least", defArgs (top 22), defBody (top 22), defScope (top 22), [], []⟩
def d2 : He.DefD := ⟨("is_between", none), "is_between", "is_between", defArgs (top 23), defBody (top 23), defScope (top 23), [], []⟩
def d3 : He.DefD := ⟨("is_bundle", none), "is_bundle", "is_bundle", defArgs (top 24), defBody (top 24), defScope (top 24), [], []⟩
def d4 : He.DefD := ⟨("is_list", none), "is_list", "is_list", defArgs (top 25), defBody (top 25), defScope (top 25), [], []⟩
def d5 : He.DefD := ⟨("is_turns", none), "is_turns", "is_turns", defArgs (top 26), defBody (top 26), defScope (top 26), [], []⟩
def d6 : He.DefD := ⟨("is_block", none), "is_block", "is_block", defArgs (top 27), defBody (top 27), defScope (top 27), [], []⟩
def d7 : He.DefD := ⟨("require_counts", none), "require_counts", "require_counts", defArgs (top 28), defBody (top 28), defScope (top 28), [], []⟩
def d8 : He.DefD := ⟨("require_list", none), "require_list", "require_list", defArgs (top 29), defBody (top 29), defScope (top 29), [], []⟩
def d9 : He.DefD := ⟨("require_lists", none), "require_lists", "require_lists", defArgs (top 30), defBody (top 30), defScope (top 30), [], []⟩
def d10 : He.DefD := ⟨("require_sequence", none), "require_sequence", "require_sequence", defArgs (top 31), defBody (top 31), defScope (top 31), [], []⟩
def d11 : He.DefD := ⟨("require_player", none), "require_player", "require_player", defArgs (top 32), defBody (top 32), defScope (top 32), [], []⟩
def d12 : He.DefD := ⟨("picks_of", none), "picks_of", "picks_of", defArgs (top 33), defBody (top 33), defScope (top 33), [], []⟩
def d13 : He.DefD := ⟨("require_fits", none), "require_fits", "require_fits", defArgs (top 34), defBody (top 34), defScope (top 34), [], []⟩
def d14 : He.DefD := ⟨("prefix_sums", none), "prefix_sums", "prefix_sums", defArgs (top 35), defBody (top 35), defScope (top 35), [], []⟩
def d15 : He.DefD := ⟨("other_player", none), "other_player", "other_player", defArgs (top 36), defBody (top 36), defScope (top 36), [], []⟩
def d16 : He.DefD := ⟨("own_list", none), "own_list", "own_list", defArgs (top 37), defBody (top 37), defScope (top 37), [], []⟩
def d17 : He.DefD := ⟨("count_turns", none), "count_turns", "count_turns", defArgs (top 39), defBody (top 39), defScope (top 39), [], []⟩
def d18 : He.DefD := ⟨("rest_of", none), "rest_of", "rest_of", defArgs (top 40), defBody (top 40), defScope (top 40), [], []⟩
def d19 : He.DefD := ⟨("require_setting", none), "require_setting", "require_setting", defArgs (top 42), defBody (top 42), defScope (top 42), [], []⟩
def d20 : He.DefD := ⟨("caps_of", none), "caps_of", "caps_of", defArgs (top 43), defBody (top 43), defScope (top 43), [], []⟩
def d21 : He.DefD := ⟨("own_turns", none), "own_turns", "own_turns", defArgs (top 44), defBody (top 44), defScope (top 44), [], []⟩
def d22 : He.DefD := ⟨("bundle_fault", none), "bundle_fault", "bundle_fault", defArgs (top 45), defBody (top 45), defScope (top 45), [], []⟩
def d23 : He.DefD := ⟨("require_items", none), "require_items", "require_items", defArgs (top 46), defBody (top 46), defScope (top 46), [], []⟩
def d24 : He.DefD := ⟨("too_full", none), "too_full", "too_full", defArgs (top 47), defBody (top 47), defScope (top 47), [], []⟩
def d25 : He.DefD := ⟨("filled_up", none), "filled_up", "filled_up", defArgs (top 48), defBody (top 48), defScope (top 48), [], []⟩
def d26 : He.DefD := ⟨("best_bundle", none), "best_bundle", "best_bundle", defArgs (top 49), defBody (top 49), defScope (top 49), [], []⟩
def d27 : He.DefD := ⟨("require_had", none), "require_had", "require_had", defArgs (top 50), defBody (top 50), defScope (top 50), [], []⟩
def d28 : He.DefD := ⟨("pick_order", none), "pick_order", "pick_order", defArgs (top 51), defBody (top 51), defScope (top 51), [], []⟩
def d29 : He.DefD := ⟨("require_side", none), "require_side", "require_side", defArgs (top 53), defBody (top 53), defScope (top 53), [], []⟩
def d30 : He.DefD := ⟨("sure_of", none), "sure_of", "sure_of", defArgs (top 54), defBody (top 54), defScope (top 54), [], []⟩
def d31 : He.DefD := ⟨("sure_counts", none), "sure_counts", "sure_counts", defArgs (top 55), defBody (top 55), defScope (top 55), [], []⟩
def d32 : He.DefD := ⟨("has_turn", none), "has_turn", "has_turn", defArgs (top 56), defBody (top 56), defScope (top 56), [], []⟩
def d33 : He.DefD := ⟨("require_first", none), "require_first", "require_first", defArgs (top 57), defBody (top 57), defScope (top 57), [], []⟩
def d34 : He.DefD := ⟨("harmless_picks", none), "harmless_picks", "harmless_picks", defArgs (top 58), defBody (top 58), defScope (top 58), [], []⟩
def d35 : He.DefD := ⟨("safe_picks", none), "safe_picks", "safe_picks", defArgs (top 59), defBody (top 59), defScope (top 59), [], []⟩
def d36 : He.DefD := ⟨("best_left", none), "best_left", "best_left", defArgs (top 61), defBody (top 61), defScope (top 61), [], []⟩
def d37 : He.DefD := ⟨("one_repetition", none), "one_repetition", "one_repetition", defArgs (top 62), defBody (top 62), defScope (top 62), [], []⟩
def d38 : He.DefD := ⟨("like_repetitions", none), "like_repetitions", "like_repetitions", defArgs (top 63), defBody (top 63), defScope (top 63), [], []⟩
def d39 : He.DefD := ⟨("plain_rows", none), "plain_rows", "plain_rows", defArgs (top 64), defBody (top 64), defScope (top 64), [], []⟩
def d40 : He.DefD := ⟨("bundles_of", none), "bundles_of", "bundles_of", defArgs (top 65), defBody (top 65), defScope (top 65), [], []⟩
def d41 : He.DefD := ⟨("require_game", none), "require_game", "require_game", defArgs (top 66), defBody (top 66), defScope (top 66), [], []⟩
def d42 : He.DefD := ⟨("require_whole_thinking", none), "require_whole", "require_whole", defArgs (top 68), defBody (top 68), defScope (top 68), [], []⟩
def d43 : He.DefD := ⟨("turned_lists", none), "turned_lists", "turned_lists", defArgs (top 70), defBody (top 70), defScope (top 70), [], []⟩
def d44 : He.DefD := ⟨("turned_rows", none), "turned_rows", "turned_rows", defArgs (top 71), defBody (top 71), defScope (top 71), [], []⟩
def d45 : He.DefD := ⟨("end_bundles", none), "end_bundles", "end_bundles", defArgs (top 72), defBody (top 72), defScope (top 72), [], []⟩
def d46 : He.DefD := ⟨("end_of", none), "end_of", "end_of", defArgs (top 73), defBody (top 73), defScope (top 73), [], []⟩
def d47 : He.DefD := ⟨("without_first", none), "without_first", "without_first", defArgs (top 74), defBody (top 74), defScope (top 74), [], []⟩
def d48 : He.DefD := ⟨("with_item", none), "with_item", "with_item", defArgs (top 75), defBody (top 75), defScope (top 75), [], []⟩
def d49 : He.DefD := ⟨("best_first_picks", none), "best_first_picks", "best_first_picks", defArgs (top 76), defBody (top 76), defScope (top 76), [], []⟩
def d50 : He.DefD := ⟨("require_opponent", none), "require_opponent", "require_opponent", defArgs (top 80), defBody (top 80), defScope (top 80), [], []⟩
def d51 : He.DefD := ⟨("require_whole_records", none), "require_whole", "require_whole", defArgs (top 81), defBody (top 81), defScope (top 81), [], []⟩
def d52 : He.DefD := ⟨("require_picks", none), "require_picks", "require_picks", defArgs (top 83), defBody (top 83), defScope (top 83), [], []⟩
def d53 : He.DefD := ⟨("owner_of", none), "owner_of", "owner_of", defArgs (top 84), defBody (top 84), defScope (top 84), [], []⟩
def d54 : He.DefD := ⟨("Record", some "__init__"), "__init__", "Record.__init__", defArgs (inClass (top 85) 0), defBody (inClass (top 85) 0), defScope (inClass (top 85) 0), [], []⟩
def d55 : He.DefD := ⟨("Record", some "bundles_after"), "bundles_after", "Record.bundles_after", defArgs (inClass (top 85) 1), defBody (inClass (top 85) 1), defScope (inClass (top 85) 1), [], []⟩
def d56 : He.DefD := ⟨("Record", some "left_after"), "left_after", "Record.left_after", defArgs (inClass (top 85) 2), defBody (inClass (top 85) 2), defScope (inClass (top 85) 2), [], []⟩
def d57 : He.DefD := ⟨("Record", some "bundles"), "bundles", "Record.bundles", defArgs (inClass (top 85) 3), defBody (inClass (top 85) 3), defScope (inClass (top 85) 3), [], []⟩
def d58 : He.DefD := ⟨("Record", some "to_come"), "to_come", "Record.to_come", defArgs (inClass (top 85) 5), defBody (inClass (top 85) 5), defScope (inClass (top 85) 5), [], []⟩
def d59 : He.DefD := ⟨("Record", some "standing"), "standing", "Record.standing", defArgs (inClass (top 85) 6), defBody (inClass (top 85) 6), defScope (inClass (top 85) 6), [], []⟩
def d60 : He.DefD := ⟨("Record", some "standings"), "standings", "Record.standings", defArgs (inClass (top 85) 7), defBody (inClass (top 85) 7), defScope (inClass (top 85) 7), [], []⟩
def d61 : He.DefD := ⟨("Record", some "losses"), "losses", "Record.losses", defArgs (inClass (top 85) 8), defBody (inClass (top 85) 8), defScope (inClass (top 85) 8), [], []⟩
def d62 : He.DefD := ⟨("Record", some "first_loss"), "first_loss", "Record.first_loss", defArgs (inClass (top 85) 9), defBody (inClass (top 85) 9), defScope (inClass (top 85) 9), [], []⟩
def d63 : He.DefD := ⟨("_law_mixed", none), "_law_mixed", "_law_mixed", defArgs (top 87), defBody (top 87), defScope (top 87), [], []⟩
def d64 : He.DefD := ⟨("_law_source", none), "_law_source", "_law_source", defArgs (top 88), defBody (top 88), defScope (top 88), [], []⟩
def d65 : He.DefD := ⟨("_law_take", none), "_law_take", "_law_take", defArgs (top 89), defBody (top 89), defScope (top 89), [], []⟩
def d66 : He.DefD := ⟨("_law_one", none), "_law_one", "_law_one", defArgs (top 90), defBody (top 90), defScope (top 90), [], []⟩
def d67 : He.DefD := ⟨("_law_mixed_up", none), "_law_mixed_up", "_law_mixed_up", defArgs (top 91), defBody (top 91), defScope (top 91), [], []⟩
def d68 : He.DefD := ⟨("_law_kinds", none), "_law_kinds", "_law_kinds", defArgs (top 92), defBody (top 92), defScope (top 92), [], []⟩
def d69 : He.DefD := ⟨("_law_rankings", none), "_law_rankings", "_law_rankings", defArgs (top 93), defBody (top 93), defScope (top 93), [], []⟩
def d70 : He.DefD := ⟨("_law_word", none), "_law_word", "_law_word", defArgs (top 94), defBody (top 94), defScope (top 94), [], []⟩
def d71 : He.DefD := ⟨("_law_blocks", none), "_law_blocks", "_law_blocks", defArgs (top 95), defBody (top 95), defScope (top 95), [], []⟩
def d72 : He.DefD := ⟨("_law_prefixes", none), "_law_prefixes", "_law_prefixes", defArgs (top 96), defBody (top 96), defScope (top 96), [], []⟩
def d73 : He.DefD := ⟨("_law_scene", none), "_law_scene", "_law_scene", defArgs (top 97), defBody (top 97), defScope (top 97), [], []⟩
def d74 : He.DefD := ⟨("_law_played", none), "_law_played", "_law_played", defArgs (top 98), defBody (top 98), defScope (top 98), [], []⟩
def d75 : He.DefD := ⟨("_law_thought", none), "_law_thought", "_law_thought", defArgs (top 99), defBody (top 99), defScope (top 99), [], []⟩
def d76 : He.DefD := ⟨("_law_no_loss", none), "_law_no_loss", "_law_no_loss", defArgs (top 100), defBody (top 100), defScope (top 100), [], []⟩
def d77 : He.DefD := ⟨("_law_right", none), "_law_right", "_law_right", defArgs (top 101), defBody (top 101), defScope (top 101), [], []⟩
def d78 : He.DefD := ⟨("law", none), "law", "law", defArgs (top 102), defBody (top 102), defScope (top 102), [], []⟩
def fn0 : List He.DefD := [d0, d1, d2, d3, d4, d5, d6, d7, d8, d9, d10, d11, d12, d13, d14, d15, d16, d17, d18, d19]
def fn1 : List He.DefD := [d20, d21, d22, d23, d24, d25, d26, d27, d28, d29, d30, d31, d32, d33, d34, d35, d36, d37, d38, d39]
def fn2 : List He.DefD := [d40, d41, d42, d43, d44, d45, d46, d47, d48, d49, d50, d51, d52, d53, d54, d55, d56, d57, d58, d59]
def fn3 : List He.DefD := [d60, d61, d62, d63, d64, d65, d66, d67, d68, d69, d70, d71, d72, d73, d74, d75, d76, d77, d78]
def fn : List He.DefD := fn0 ++ (fn1 ++ (fn2 ++ (fn3)))
def fa0 : List He.Fa := [.glo "is_integer", .glo "is_at_least", .glo "is_between", .glo "is_bundle", .glo "is_list", .glo "is_turns", .glo "is_block", .glo "require_counts", .glo "require_list", .glo "require_lists", .glo "require_sequence", .glo "require_player", .glo "picks_of", .glo "require_fits", .glo "prefix_sums", .glo "other_player", .glo "own_list", .glo "count_turns", .glo "rest_of", .glo "require_setting"]
def fa1 : List He.Fa := [.glo "caps_of", .glo "own_turns", .glo "bundle_fault", .glo "require_items", .glo "too_full", .glo "filled_up", .glo "best_bundle", .glo "require_had", .glo "pick_order", .glo "require_side", .glo "sure_of", .glo "sure_counts", .glo "has_turn", .glo "require_first", .glo "harmless_picks", .glo "safe_picks", .glo "best_left", .glo "one_repetition", .glo "like_repetitions", .glo "plain_rows"]
def fa2 : List He.Fa := [.glo "bundles_of", .glo "require_game", .glo "require_whole_thinking", .glo "turned_lists", .glo "turned_rows", .glo "end_bundles", .glo "end_of", .glo "without_first", .glo "with_item", .glo "best_first_picks", .glo "require_opponent", .glo "require_whole_records", .glo "require_picks", .glo "owner_of", .glo "_law_mixed", .glo "_law_source", .glo "_law_take", .glo "_law_one", .glo "_law_mixed_up", .glo "_law_kinds"]
def fa3 : List He.Fa := [.glo "_law_rankings", .glo "_law_word", .glo "_law_blocks", .glo "_law_prefixes", .glo "_law_scene", .glo "_law_played", .glo "_law_thought", .glo "_law_no_loss", .glo "_law_right", .glo "law", .glo "Record", .glo "PLAYERS", .glo "OPPONENTS", .free "isinstance", .free "int", .free "bool", .free "tuple", .free "list", .free "str", .free "len"]
def fa4 : List He.Fa := [.free "all", .free "any", .free "sorted", .free "range", .free "sum", .free "min", .free "zip", .free "enumerate", .free "reversed", .int "MAX_KINDS" 60, .int "MAX_BLOCKS" 200, .int "MAX_TURNS" 20, .int "MAX_PICKS" 200, .cls "Record", .mkr "Record", .meth "Record" "bundles_after", .meth "Record" "left_after", .meth "Record" "bundles", .meth "Record" "to_come", .meth "Record" "standing"]
def fa5 : List He.Fa := [.meth "Record" "standings", .meth "Record" "losses", .meth "Record" "first_loss", .noat "Record" "counts", .noat "Record" "lists", .noat "Record" "sequence", .noat "Record" "picks", .noat "Record" "owners"]
def fa : List He.Fa := fa0 ++ (fa1 ++ (fa2 ++ (fa3 ++ (fa4 ++ (fa5)))))
/-! what the module's names reach: functions and their code, the class's names and its methods -/
def exX : Option Obj → List Addr
  | some ⟨_, _, .func fd, _⟩ => He.refV fd.code
  | some ⟨_, _, .dict es _, _⟩ => es.toList.flatMap fun e => He.refV e.val
  | _ => []
def exC : Option Obj → List Addr
  | some ⟨_, _, .cls cd, _⟩ => [cd.ns]
  | _ => []
def ddX : List Addr → Nat → List Addr → List Addr × Nat
  | [], m, acc => (acc, m)
  | a :: r, m, acc => match Nat.testBit m a with
    | true => ddX r m acc
    | false => ddX r (m ||| (1 <<< a)) (a :: acc)
def lvX (g : Addr → Option Obj) : Nat → List Addr → Nat → List Addr → List Addr
  | 0, _, _, acc => acc
  | n + 1, fr, m, acc => match ddX (fr.flatMap fun a => exX (g a)) m [] with
    | (new, m') => lvX g n new m' (new ++ acc)
def asX (g : Addr → Option Obj) : List Addr :=
  match He.ga (He.frG g [mainGlobals]) "Record" with
  | rc => match ddX (exX (g mainGlobals) ++ exC (g rc)) (1 <<< mainGlobals) [] with
    | (new, m) => lvX g 2 new m (mainGlobals :: new)
abbrev AlX : Type := Bool × List He.FnW
/-- a plain tuple -/
def plnB (K : PySem.W.Frag) (x : Str) : Bool := match K.lookup (He.ga K x) with
  | some ⟨.type c, none, _, _⟩ => decide (c = "tuple")
  | _ => false
def tb : List (Str × List He.Dv) := [("PLAYERS", [.str "A", .str "B"]), ("OPPONENTS", [.str "plain", .str "hostile", .str "thinking"])]
def tf : List He.Defn := [("safe_picks", none)]
abbrev kOf (g : Addr → Option Obj) : PySem.W.Frag := He.frT g (asX g)
def factsB (fa : List He.Fa) (fn : List He.DefD) (K : PySem.W.Frag) : Bool := (fa.all fun f => f.ok K) && ((fn.all fun d => d.ok K) && ((tb.all fun q => He.tupB K q.1 q.2) && plnB K "PLAYERS"))
def obsY (fa : List He.Fa) (fn : List He.DefD) (g : Addr → Option Obj) (K : PySem.W.Frag) : AlX := (factsB fa fn K && He.tabsB g tf K, fn.map fun d => He.fnW K d.at_)
structure SaysY (fa : List He.Fa) (fn : List He.DefD) (h : Heap) (K : PySem.W.Frag) : Prop where
  facts : factsB fa fn K = true
  fns : (fn.map fun d => He.fnW K d.at_) = fn.map He.DefD.val
  hd : PySem.W.codeHdIn K (He.cT K ("safe_picks", none)).1 (He.cT K ("safe_picks", none)).2 = true
  out : K.lookup (He.cT K ("safe_picks", none)).2 = none
  empty : h.get? (He.cT K ("safe_picks", none)).2 = some { cls := .none, data := .fields #[] }
theorem says_of {fa : List He.Fa} {fn : List He.DefD} {h : Heap} (e : obsY fa fn h.get? (kOf h.get?) = (true, fn.map He.DefD.val)) : SaysY fa fn h (kOf h.get?) := by
  have e1 : (factsB fa fn (kOf h.get?) && He.tabsB h.get? tf (kOf h.get?)) = true := congrArg (fun z : AlX => z.1) e
  have e2 : (fn.map fun d => He.fnW (kOf h.get?) d.at_) = fn.map He.DefD.val := congrArg (fun z : AlX => z.2) e
  obtain ⟨h1, h2⟩ := He.ba e1
  obtain ⟨h3, h4⟩ := He.ba (List.all_eq_true.mp h2 ("safe_picks", none) List.mem_cons_self)
  have h5 : ∃ o, h.get? (He.cT (kOf h.get?) ("safe_picks", none)).2 = some o ∧ He.emptyTab o = true := by
    cases q : h.get? (He.cT (kOf h.get?) ("safe_picks", none)).2 with
    | none => rw [q] at h4; cases h4
    | some o => rw [q] at h4; exact ⟨o, rfl, h4⟩
  obtain ⟨o, h6, h7⟩ := h5
  exact ⟨h1, e2, h3, He.frT_none h6 h7, by rw [h6, He.emptyTab_eq h7]⟩
def hookY (fa : List He.Fa) (fn : List He.DefD) : PySem.W.Hook where
  α := AlX
  obs := fun s => obsY fa fn s.heap.get? (kOf s.heap.get?)
  val := fun _ => (true, fn.map He.DefD.val)
  says := fun _ h => ∃ K : PySem.W.Frag, K.In h ∧ SaysY fa fn h K
  of := fun _ _ e => ⟨_, He.frT_in, says_of e⟩
  keeps := fun _ _ _ ⟨K, hK, c⟩ k => ⟨K, PySem.W.Frag.In.keeps hK k, ⟨c.facts, c.fns, c.hd, c.out, k _ _ c.empty⟩⟩
abbrev R : PySem.W.OpenRow := PySem.W.OpenLaw.row PySem.Challenge.rw_turnpicks_k60_whole_players_without_loss
abbrev hk : PySem.W.Hook := hookY fa fn
def ob (s : PySem.W.SharedT) : AlX := obsY fa fn (HandSHeadRun.getT s) (kOf (HandSHeadRun.getT s))
theorem ob_eq (s : PySem.W.SharedT) : ob s = hk.obs s.abs := by
  have e : HandSHeadRun.getT s = s.abs.heap.get? := funext (HandSHeadRun.getT_eq s)
  show obsY fa fn (HandSHeadRun.getT s) (kOf (HandSHeadRun.getT s)) = obsY fa fn s.abs.heap.get? (kOf s.abs.heap.get?)
  rw [e]

def nm0 : List Str := [("_wall" : Str), ("PickError" : Str), ("InvalidCounts" : Str), ("InvalidLists" : Str), ("InvalidList" : Str), ("InvalidSequence" : Str), ("InvalidPlayer" : Str), ("InvalidBundle" : Str), ("InvalidCourse" : Str), ("InvalidPicks" : Str), ("InvalidNumber" : Str), ("InvalidOpponent" : Str)]
def nm1 : List Str := [("Mismatch" : Str), ("CannotHave" : Str), ("TooLarge" : Str), ("PLAYERS" : Str), ("MAX_KINDS" : Str), ("MAX_BLOCKS" : Str), ("MAX_TURNS" : Str), ("is_integer" : Str), ("is_at_least" : Str), ("is_between" : Str), ("is_bundle" : Str), ("is_list" : Str)]
def nm2 : List Str := [("is_turns" : Str), ("is_block" : Str), ("require_counts" : Str), ("require_list" : Str), ("require_lists" : Str), ("require_sequence" : Str), ("require_player" : Str), ("picks_of" : Str), ("require_fits" : Str), ("prefix_sums" : Str), ("other_player" : Str), ("own_list" : Str)]
def nm3 : List Str := [("count_turns" : Str), ("rest_of" : Str), ("require_setting" : Str), ("caps_of" : Str), ("own_turns" : Str), ("bundle_fault" : Str), ("require_items" : Str), ("too_full" : Str), ("filled_up" : Str), ("best_bundle" : Str), ("require_had" : Str), ("pick_order" : Str)]
def nm4 : List Str := [("require_side" : Str), ("sure_of" : Str), ("sure_counts" : Str), ("has_turn" : Str), ("require_first" : Str), ("harmless_picks" : Str), ("safe_picks" : Str), ("best_left" : Str), ("one_repetition" : Str), ("like_repetitions" : Str), ("plain_rows" : Str), ("bundles_of" : Str)]
def nm5 : List Str := [("require_game" : Str), ("require_whole" : Str), ("require_whole_thinking" : Str), ("turned_lists" : Str), ("turned_rows" : Str), ("end_bundles" : Str), ("end_of" : Str), ("without_first" : Str), ("with_item" : Str), ("best_first_picks" : Str), ("OPPONENTS" : Str), ("MAX_PICKS" : Str)]
def nm6 : List Str := [("require_opponent" : Str), ("require_whole_records" : Str), ("require_picks" : Str), ("owner_of" : Str), ("Record" : Str), ("_law_mixed" : Str), ("_law_source" : Str), ("_law_take" : Str), ("_law_one" : Str), ("_law_mixed_up" : Str), ("_law_kinds" : Str), ("_law_rankings" : Str)]
def nm7 : List Str := [("_law_word" : Str), ("_law_blocks" : Str), ("_law_prefixes" : Str), ("_law_scene" : Str), ("_law_played" : Str), ("_law_thought" : Str), ("_law_no_loss" : Str), ("_law_right" : Str)]
def names : List Str := nm0 ++ nm1 ++ nm2 ++ nm3 ++ nm4 ++ nm5 ++ nm6 ++ nm7
theorem run (w : World) : HandSHeadRun.RunEq R (PySem.W.view R.prog [102]) hk ob 7000 names w := by
  intro os
  kernel_rfl
end TP
end
section
set_option maxHeartbeats 0
namespace TPE
open PySem PySem.Spec PyProof.Rows L2

theorem law_ok [Tb] {P : Program} {w : World} {K : PySem.W.Frag} {mg : Str → Option Value} {base : Heap} {pA oA C : Addr} (B : Bi K mg pA oA) (R : RecC K mg C)
    (D_is_integer : FunG K mg "is_integer" "is_integer" (top 21))
    (D_is_at_least : FunG K mg "is_at_least" "is_at_least" (top 22))
    (D_is_between : FunG K mg "is_between" "is_between" (top 23))
    (D_is_bundle : FunG K mg "is_bundle" "is_bundle" (top 24))
    (D_is_list : FunG K mg "is_list" "is_list" (top 25))
    (D_is_turns : FunG K mg "is_turns" "is_turns" (top 26))
    (D_is_block : FunG K mg "is_block" "is_block" (top 27))
    (D_require_counts : FunG K mg "require_counts" "require_counts" (top 28))
    (D_require_list : FunG K mg "require_list" "require_list" (top 29))
    (D_require_player : FunG K mg "require_player" "require_player" (top 32))
    (D_other_player : FunG K mg "other_player" "other_player" (top 36))
    (D_own_list : FunG K mg "own_list" "own_list" (top 37))
    (D_require_lists : FunG K mg "require_lists" "require_lists" (top 30))
    (D_require_sequence : FunG K mg "require_sequence" "require_sequence" (top 31))
    (D_picks_of : FunG K mg "picks_of" "picks_of" (top 33))
    (D_require_fits : FunG K mg "require_fits" "require_fits" (top 34))
    (D_prefix_sums : FunG K mg "prefix_sums" "prefix_sums" (top 35))
    (D_count_turns : FunG K mg "count_turns" "count_turns" (top 39))
    (D_caps_of : FunG K mg "caps_of" "caps_of" (top 43))
    (D_sure_of : FunG K mg "sure_of" "sure_of" (top 54))
    (D_own_turns : FunG K mg "own_turns" "own_turns" (top 44))
    (D_require_setting : FunG K mg "require_setting" "require_setting" (top 42))
    (D_require_side : FunG K mg "require_side" "require_side" (top 53))
    (D_sure_counts : FunG K mg "sure_counts" "sure_counts" (top 55))
    (D_has_turn : FunG K mg "has_turn" "has_turn" (top 56))
    (D_require_first : FunG K mg "require_first" "require_first" (top 57))
    (D_filled_up : FunG K mg "filled_up" "filled_up" (top 48))
    (D_bundle_fault : FunG K mg "bundle_fault" "bundle_fault" (top 45))
    (D_require_items : FunG K mg "require_items" "require_items" (top 46))
    (D_too_full : FunG K mg "too_full" "too_full" (top 47))
    (D_require_had : FunG K mg "require_had" "require_had" (top 50))
    (D_pick_order : FunG K mg "pick_order" "pick_order" (top 51))
    (D_best_bundle : FunG K mg "best_bundle" "best_bundle" (top 49))
    (D_best_left : FunG K mg "best_left" "best_left" (top 61))
    (D_one_repetition : FunG K mg "one_repetition" "one_repetition" (top 62))
    (D_like_repetitions : FunG K mg "like_repetitions" "like_repetitions" (top 63))
    (D_plain_rows : FunG K mg "plain_rows" "plain_rows" (top 64))
    (D_bundles_of : FunG K mg "bundles_of" "bundles_of" (top 65))
    (D_require_game : FunG K mg "require_game" "require_game" (top 66))
    (D_require_whole_thinking : FunG K mg "require_whole_thinking" "require_whole" (top 68))
    (D_turned_lists : FunG K mg "turned_lists" "turned_lists" (top 70))
    (D_turned_rows : FunG K mg "turned_rows" "turned_rows" (top 71))
    (D_end_bundles : FunG K mg "end_bundles" "end_bundles" (top 72))
    (D_end_of : FunG K mg "end_of" "end_of" (top 73))
    (D_without_first : FunG K mg "without_first" "without_first" (top 74))
    (D_with_item : FunG K mg "with_item" "with_item" (top 75))
    (D_best_first_picks : FunG K mg "best_first_picks" "best_first_picks" (top 76))
    (D_rest_of : FunG K mg "rest_of" "rest_of" (top 40))
    (D_require_opponent : FunG K mg "require_opponent" "require_opponent" (top 80))
    (D_require_whole_records : FunG K mg "require_whole_records" "require_whole" (top 81))
    (D_require_picks : FunG K mg "require_picks" "require_picks" (top 83))
    (D_owner_of : FunG K mg "owner_of" "owner_of" (top 84))
    (D_M_left_after : FunM K C "left_after" "Record.left_after" (inClass (top 85) 2))
    (D_M_bundles_after : FunM K C "bundles_after" "Record.bundles_after" (inClass (top 85) 1))
    (D_M_bundles : FunM K C "bundles" "Record.bundles" (inClass (top 85) 3))
    (D_M_to_come : FunM K C "to_come" "Record.to_come" (inClass (top 85) 5))
    (D_M_standing : FunM K C "standing" "Record.standing" (inClass (top 85) 6))
    (D_M_standings : FunM K C "standings" "Record.standings" (inClass (top 85) 7))
    (D_M_losses : FunM K C "losses" "Record.losses" (inClass (top 85) 8))
    (D_M_first_loss : FunM K C "first_loss" "Record.first_loss" (inClass (top 85) 9))
    (D__law_prefixes : FunG K mg "_law_prefixes" "_law_prefixes" (top 96))
    (D__law_no_loss : FunG K mg "_law_no_loss" "_law_no_loss" (top 100))
    (D__law_mixed : FunG K mg "_law_mixed" "_law_mixed" (top 87))
    (D__law_take : FunG K mg "_law_take" "_law_take" (top 89))
    (D__law_one : FunG K mg "_law_one" "_law_one" (top 90))
    (D__law_mixed_up : FunG K mg "_law_mixed_up" "_law_mixed_up" (top 91))
    (D__law_kinds : FunG K mg "_law_kinds" "_law_kinds" (top 92))
    (D__law_rankings : FunG K mg "_law_rankings" "_law_rankings" (top 93))
    (D__law_word : FunG K mg "_law_word" "_law_word" (top 94))
    (D__law_blocks : FunG K mg "_law_blocks" "_law_blocks" (top 95))
    (D__law_scene : FunG K mg "_law_scene" "_law_scene" (top 97))
    (D__law_source : FunG K mg "_law_source" "_law_source" (top 88))
    (D_safe : FunT K mg base "safe_picks" "safe_picks" (top 59))
    (D_harmless_picks : FunG K mg "harmless_picks" "harmless_picks" (top 58))
    (D_init : ∃ f fd, FunD K "__init__" "Record.__init__" (defArgs (inClass (top 85) 0)) (defBody (inClass (top 85) 0)) (defScope (inClass (top 85) 0)) [] [] f fd ∧ Mk K C f)
    (D__law_played : FunG K mg "_law_played" "_law_played" (top 98))
    (D__law_thought : FunG K mg "_law_thought" "_law_thought" (top 99))
    (D__law_right : FunG K mg "_law_right" "_law_right" (top 101))
    {f : Addr} {fd : FuncData} (F : FunD K "law" "law" (defArgs (top 102)) (defBody (top 102)) (defScope (top 102)) [] [] f fd) : FnOk P w K mg base CX0 15 f fd ["_law_script"] (SpF (gLaw K)) := by
  have O_is_integer : Okd P w K mg base 1 "is_integer" ["value"] (gIsInt K) := w_isint B D_is_integer
  have O_is_at_least : Okd P w K mg base 2 "is_at_least" ["value", "low"] (gAtLeast K) := w_atleast B D_is_at_least O_is_integer
  have O_is_between : Okd P w K mg base 2 "is_between" ["value", "low", "high"] (gBetween K) := w_between B D_is_between O_is_integer
  have O_is_bundle : Okd P w K mg base 3 "is_bundle" ["value", "many"] (gBundle K) := w_bundle B D_is_bundle O_is_at_least
  have O_is_list : Okd P w K mg base 3 "is_list" ["value", "many"] (gList K) := w_islist B D_is_list O_is_between
  have O_is_turns : Okd P w K mg base 1 "is_turns" ["value"] (gTurns K) := w_isturns B D_is_turns
  have O_is_block : Okd P w K mg base 3 "is_block" ["value"] (gBlock K) := w_isblock B D_is_block O_is_turns O_is_at_least
  have O_require_counts : Okd P w K mg base 4 "require_counts" ["counts"] (gRCounts K) := w_rcounts B D_require_counts O_is_bundle
  have O_require_list : Okd P w K mg base 4 "require_list" ["ranking", "many"] (gRList K) := w_rlist B D_require_list O_is_list
  have O_require_player : Okd P w K mg base 1 "require_player" ["player"] (gRPlayer K) := w_rplayer B D_require_player
  have O_other_player : Okd P w K mg base 1 "other_player" ["player"] (gOther K) := w_other B D_other_player
  have O_own_list : Okd P w K mg base 1 "own_list" ["lists", "player"] (gOwn K) := w_own B D_own_list
  have O_require_lists : Okd P w K mg base 4 "require_lists" ["lists", "many"] (gRLists K) := w_rlists B D_require_lists O_is_list
  have O_require_sequence : Okd P w K mg base 4 "require_sequence" ["sequence"] (gRSeq K) := w_rseq B D_require_sequence O_is_block
  have O_picks_of : Okd P w K mg base 1 "picks_of" ["sequence"] (gPicks K) := w_picksof B D_picks_of
  have O_require_fits : Okd P w K mg base 2 "require_fits" ["counts", "sequence"] (gFits K) := w_fits B D_require_fits O_picks_of
  have O_prefix_sums : Okd P w K mg base 1 "prefix_sums" ["counts", "ranking"] (gPS K) := w_psums B D_prefix_sums
  have O_count_turns : Okd P w K mg base 1 "count_turns" ["sequence", "player", "picks"] (gCT K) := w_ct B D_count_turns
  have O_caps_of : Okd P w K mg base 2 "caps_of" ["counts", "ranking", "sequence", "player"] (gCaps K) := w_caps B D_caps_of O_count_turns O_prefix_sums
  have O_sure_of : Okd P w K mg base 2 "sure_of" ["counts", "ranking", "sequence", "player"] (gCaps K) := w_sureof B D_sure_of O_count_turns O_prefix_sums
  have O_own_turns : Okd P w K mg base 2 "own_turns" ["sequence", "player"] (gOwnT K) := w_ownt B D_own_turns O_count_turns O_picks_of
  have O_require_setting : Okd P w K mg base 5 "require_setting" ["counts", "ranking", "sequence", "player"] (gSetting K) := w_setting B D_require_setting O_require_counts O_require_list O_require_sequence O_require_player O_require_fits
  have O_require_side : Okd P w K mg base 5 "require_side" ["counts", "ranking", "sequence", "player"] (gSide K) := w_side B D_require_side O_require_counts O_require_list O_require_sequence O_require_player
  have O_sure_counts : Okd P w K mg base 6 "sure_counts" ["counts", "ranking", "sequence", "player"] (gSure K) := w_sure B D_sure_counts O_require_side O_require_fits O_sure_of
  have O_has_turn : Okd P w K mg base 2 "has_turn" ["sequence", "player", "number"] (gHas K) := w_has B D_has_turn O_count_turns
  have O_require_first : Okd P w K mg base 3 "require_first" ["sequence", "player", "is_own"] (gFirst K) := w_first B D_require_first O_picks_of O_has_turn
  have O_filled_up : Okd P w K mg base 1 "filled_up" ["counts", "ranking", "limits", "kinds"] (gFill K) := w_fill B D_filled_up
  have O_bundle_fault : Okd P w K mg base 4 "bundle_fault" ["counts", "sequence", "player", "bundle"] (gBF K) := w_bfault B D_bundle_fault O_is_bundle O_own_turns
  have O_require_items : Okd P w K mg base 5 "require_items" ["counts", "sequence", "player", "bundle"] (gItems K) := w_items B D_require_items O_bundle_fault
  have O_too_full : Okd P w K mg base 2 "too_full" ["ranking", "limits", "bundle"] (gTooFull K) := w_toofull B D_too_full O_prefix_sums
  have O_require_had : Okd P w K mg base 3 "require_had" ["counts", "ranking", "sequence", "player", "bundle"] (gHad K) := w_had B D_require_had O_too_full O_caps_of
  have O_pick_order : Okd P w K mg base 6 "pick_order" ["counts", "ranking", "sequence", "player", "bundle"] (gOrder K) := w_order B D_pick_order O_require_setting O_require_items O_require_had
  have O_best_bundle : Okd P w K mg base 5 "best_bundle" ["counts", "lists", "sequence", "player"] (gBest K) := w_best B D_best_bundle O_require_counts O_require_lists O_require_sequence O_require_player O_require_fits O_own_list O_filled_up O_other_player O_caps_of
  have O_best_left : Okd P w K mg base 1 "best_left" ["left", "ranking"] (gBL K) := w_bestleft B D_best_left
  have O_one_repetition : Okd P w K mg base 2 "one_repetition" ["left", "lists", "turns"] (gOne K) := w_onerep B D_one_repetition O_best_left O_own_list
  have O_like_repetitions : Okd P w K mg base 1 "like_repetitions" ["left", "kinds", "times"] (gLike K) := w_like B D_like_repetitions
  have O_plain_rows : Okd P w K mg base 3 "plain_rows" ["counts", "lists", "sequence"] (gRows K) := w_rows B D_plain_rows O_one_repetition O_like_repetitions
  have O_bundles_of : Okd P w K mg base 1 "bundles_of" ["counts", "course"] (gBund K) := w_bund B D_bundles_of
  have O_require_game : Okd P w K mg base 5 "require_game" ["counts", "lists", "sequence"] (gGame K) := w_game B D_require_game O_require_counts O_require_lists O_require_sequence
  have O_require_whole_thinking : Okd P w K mg base 6 "require_whole_thinking" ["counts", "lists", "sequence"] (gWhole K) := w_whole B D_require_whole_thinking O_require_game O_picks_of
  have O_turned_lists : Okd P w K mg base 1 "turned_lists" ["lists"] (gTL K) := w_turnl B D_turned_lists
  have O_turned_rows : Okd P w K mg base 4 "turned_rows" ["counts", "lists", "blocks"] (gTR K) := w_turnr B D_turned_rows O_plain_rows O_turned_lists
  have O_end_bundles : Okd P w K mg base 5 "end_bundles" ["counts", "lists", "blocks"] (gEnd K) := w_ends B D_end_bundles O_bundles_of O_turned_rows
  have O_end_of : Okd P w K mg base 7 "end_of" ["counts", "lists", "sequence"] (gEndOf K) := w_endof B D_end_of O_require_whole_thinking O_end_bundles
  have O_without_first : Okd P w K mg base 1 "without_first" ["sequence"] (gWF K) := w_wf B D_without_first
  have O_with_item : Okd P w K mg base 1 "with_item" ["bundle", "kind", "number"] (gWith K) := w_with B D_with_item
  have O_best_first_picks : Okd P w K mg base 7 "best_first_picks" ["counts", "lists", "sequence"] (gBF1 K) := w_bfirst B D_best_first_picks O_require_whole_thinking O_own_list O_picks_of O_without_first O_end_bundles O_with_item
  have O_rest_of : Okd P w K mg base 5 "rest_of" ["sequence", "picks"] (gRest K) := w_rest B D_rest_of O_require_sequence O_is_between O_picks_of
  have O_require_opponent : Okd P w K mg base 1 "require_opponent" ["opponent"] (gROpp K) := w_ropp B D_require_opponent
  have O_require_whole_records : Okd P w K mg base 2 "require_whole_records" ["counts", "sequence", "opponent"] (gWholeR K) := w_wholer B D_require_whole_records O_picks_of
  have O_require_picks : Okd P w K mg base 3 "require_picks" ["counts", "sequence", "picks"] (gRPicks K) := w_rpicks B D_require_picks O_picks_of O_is_between
  have O_owner_of : Okd P w K mg base 2 "owner_of" ["sequence", "index"] (gOwner K) := w_owner B D_owner_of O_count_turns
  have OM_left_after : OkM P w K mg base C 1 "left_after" ["self", "picks"] (gLA K C) := w_lafter B D_M_left_after R
  have OM_bundles_after : OkM P w K mg base C 1 "bundles_after" ["self", "picks"] (gBA K C) := w_bafter B D_M_bundles_after R
  have OM_bundles : OkM P w K mg base C 2 "bundles" ["self"] (gBun K C) := w_bundles B D_M_bundles R OM_bundles_after
  have OM_to_come : OkM P w K mg base C 8 "to_come" ["self", "player", "opponent", "picks"] (gCome K C) := w_tocome B D_M_to_come R O_prefix_sums O_rest_of O_own_list O_sure_counts O_best_bundle O_end_of OM_left_after
  have OM_standing : OkM P w K mg base C 9 "standing" ["self", "player", "opponent", "picks"] (gStand K C) := w_stand B D_M_standing R O_prefix_sums O_own_list OM_to_come OM_bundles_after
  have OM_standings : OkM P w K mg base C 10 "standings" ["self", "player", "opponent"] (gStands K C) := w_stands B D_M_standings R O_require_player O_require_opponent O_require_whole_records OM_standing
  have OM_losses : OkM P w K mg base C 11 "losses" ["self", "player", "opponent"] (gLoss K C) := w_losses B D_M_losses R OM_standings
  have OM_first_loss : OkM P w K mg base C 12 "first_loss" ["self", "player", "opponent"] (gFL K C) := w_firstl B D_M_first_loss R OM_losses
  have O__law_prefixes : Okd P w K mg base 1 "_law_prefixes" ["_law_bundle_of", "_law_ranking_of"] (gLPre K) := w_lpre B D__law_prefixes
  have O__law_no_loss : Okd P w K mg base 13 "_law_no_loss" ["_law_game", "_law_me", "_law_foe"] (gNoLoss K C) := w_noloss B D__law_no_loss R OM_losses OM_first_loss
  have O__law_mixed : Okd P w K mg base 1 "_law_mixed" ["_law_cell", "_law_k"] (gMixed K) := w_lmixed B D__law_mixed
  have O__law_take : Okd P w K mg base 2 "_law_take" ["_law_source_here", "_law_many"] (gTake K) := w_ltake B D__law_take O__law_mixed
  have O__law_one : Okd P w K mg base 3 "_law_one" ["_law_source_here", "_law_some"] (gLOne K) := w_lone B D__law_one O__law_take
  have O__law_mixed_up : Okd P w K mg base 3 "_law_mixed_up" ["_law_source_here", "_law_items"] (gMixUp K) := w_lmixup B D__law_mixed_up O__law_take
  have O__law_kinds : Okd P w K mg base 3 "_law_kinds" ["_law_source_here", "_law_most", "_law_items_most"] (gKinds K) := w_lkinds B D__law_kinds O__law_take
  have O__law_rankings : Okd P w K mg base 4 "_law_rankings" ["_law_source_here", "_law_many"] (gRanks K) := w_lranks B D__law_rankings O__law_mixed_up O__law_one
  have O__law_word : Okd P w K mg base 4 "_law_word" ["_law_source_here", "_law_many"] (gWord K) := w_lword B D__law_word O__law_take O__law_one
  have O__law_blocks : Okd P w K mg base 3 "_law_blocks" ["_law_source_here", "_law_word_here"] (gBlocks K) := w_lblocks B D__law_blocks O__law_take
  have O__law_scene : Okd P w K mg base 5 "_law_scene" ["_law_source_here", "_law_kinds_most", "_law_items_most", "_law_whole"] (gScene K) := w_lscene B D__law_scene O__law_kinds O__law_rankings O__law_take O__law_word
  have OS_law_source : OkS P w K mg base 1 "_law_source" ["_law_cell"] spSrc := w_lsource D__law_source
  have O_safe_picks : Okd P w K mg base 6 "safe_picks" ["counts", "ranking", "sequence", "player"] (gSafe K) := w_safe B D_safe D_harmless_picks O_prefix_sums O_require_side O_require_fits O_require_first O_has_turn
  have OI : OkI P w K mg base C 6 := w_init B R D_init O_require_fits O_require_game O_require_picks O_owner_of
  have O__law_played : Okd P w K mg base 7 "_law_played" ["_law_source_here", "_law_rest", "_law_rankings_here", "_law_word_here", "_law_me", "_law_way"] (gPlayed K) := w_lplayed B D__law_played O_pick_order O__law_one O_safe_picks
  have O__law_thought : Okd P w K mg base 8 "_law_thought" ["_law_source_here", "_law_rest", "_law_rankings_here", "_law_word_here"] (gThought K) := w_lthought B D__law_thought O__law_one O_best_first_picks
  have O__law_right : Okd P w K mg base 14 "_law_right" ["_law_source_here", "_law_rest", "_law_rankings_here", "_law_word_here", "_law_turns_used"] (gRight K) := w_lright B D__law_right R O_best_bundle O_sure_counts O__law_thought O_end_of O__law_played O__law_prefixes O__law_no_loss OM_bundles OI
  have O_law : FnOk P w K mg base CX0 15 f fd ["_law_script"] (SpF (gLaw K)) := w_law B F O__law_scene O__law_right O__law_blocks OS_law_source
  exact O_law
/-! ### what the head tells -/
section
variable {K : PySem.W.Frag} {h : Heap} {mg : Str → Option Value}
theorem def_ok (c : TP.SaysY TP.fa TP.fn h K) (i : Nat) {d : He.DefD} (e : TP.fn[i]? = some d) : ∃ fd, FunD K d.name d.qual d.params d.body d.scope (d.dvs K) (d.kws K) (He.fAd K d.at_) fd := by
  obtain ⟨h1, h2⟩ := He.ba c.facts
  obtain ⟨h3, h4⟩ := He.ba h2
  have e2 : (TP.fn.map fun d => He.fnW K d.at_)[i]? = (TP.fn.map He.DefD.val)[i]? := by rw [c.fns]
  rw [List.getElem?_map, List.getElem?_map, e] at e2
  exact He.DefD.funD (Option.some.inj e2) (List.all_eq_true.mp h3 d (List.mem_of_getElem? e))
theorem fa_ok (c : TP.SaysY TP.fa TP.fn h K) (i : Nat) {f : He.Fa} (e : TP.fa[i]? = some f) : f.ok K = true := List.all_eq_true.mp (He.ba c.facts).1 f (List.mem_of_getElem? e)
theorem tb_ok (c : TP.SaysY TP.fa TP.fn h K) (i : Nat) {q : Str × List He.Dv} (e : TP.tb[i]? = some q) : He.tupB K q.1 q.2 = true := List.all_eq_true.mp (He.ba (He.ba (He.ba c.facts).2).2).1 q (List.mem_of_getElem? e)
theorem pln_ok (c : TP.SaysY TP.fa TP.fn h K) : ∃ o, K.lookup (He.ga K "PLAYERS") = some o ∧ o.cls = .type "tuple" ∧ o.dict = none := by
  have z : TP.plnB K "PLAYERS" = true := (He.ba (He.ba (He.ba c.facts).2).2).2
  unfold TP.plnB at z
  cases q : K.lookup (He.ga K "PLAYERS") with
  | none => rw [q] at z; cases z
  | some o =>
    obtain ⟨oc, od, dt, osl⟩ := o
    rw [q] at z
    cases oc with
    | type n =>
      cases od with
      | none =>
        have e : n = "tuple" := of_decide_eq_true z
        subst e
        exact ⟨_, rfl, rfl, rfl⟩
      | some d => cases z
    | _ => cases od <;> cases z

theorem bi_ok (KX : K.In h) (G : h.Ns mainGlobals mg) (c : TP.SaysY TP.fa TP.fn h K) : Bi K mg (He.ga K "PLAYERS") (He.ga K "OPPONENTS") where
  isinstance := He.free_ok KX G (fa_ok c 73 (f := .free "isinstance") rfl)
  len := He.free_ok KX G (fa_ok c 79 (f := .free "len") rfl)
  all := He.free_ok KX G (fa_ok c 80 (f := .free "all") rfl)
  any := He.free_ok KX G (fa_ok c 81 (f := .free "any") rfl)
  sum := He.free_ok KX G (fa_ok c 84 (f := .free "sum") rfl)
  min := He.free_ok KX G (fa_ok c 85 (f := .free "min") rfl)
  sorted := He.free_ok KX G (fa_ok c 82 (f := .free "sorted") rfl)
  list := He.free_ok KX G (fa_ok c 77 (f := .free "list") rfl)
  tuple := He.free_ok KX G (fa_ok c 76 (f := .free "tuple") rfl)
  range := He.free_ok KX G (fa_ok c 83 (f := .free "range") rfl)
  enumerate := He.free_ok KX G (fa_ok c 87 (f := .free "enumerate") rfl)
  zip := He.free_ok KX G (fa_ok c 86 (f := .free "zip") rfl)
  reversed := He.free_ok KX G (fa_ok c 88 (f := .free "reversed") rfl)
  int := He.free_ok KX G (fa_ok c 74 (f := .free "int") rfl)
  bool := He.free_ok KX G (fa_ok c 75 (f := .free "bool") rfl)
  str := He.free_ok KX G (fa_ok c 78 (f := .free "str") rfl)
  mPLAYERS := He.glo_ok KX G (fa_ok c 71 (f := .glo "PLAYERS") rfl)
  sPLAYERS := fun H => He.tupB_ok (tb_ok c 0 rfl) H
  oPLAYERS := pln_ok c
  mOPPONENTS := He.glo_ok KX G (fa_ok c 72 (f := .glo "OPPONENTS") rfl)
  sOPPONENTS := fun H => He.tupB_ok (tb_ok c 1 rfl) H
  mMAX_KINDS := He.int_ok KX G (fa_ok c 89 (f := .int "MAX_KINDS" 60) rfl)
  mMAX_BLOCKS := He.int_ok KX G (fa_ok c 90 (f := .int "MAX_BLOCKS" 200) rfl)
  mMAX_TURNS := He.int_ok KX G (fa_ok c 91 (f := .int "MAX_TURNS" 20) rfl)
  mMAX_PICKS := He.int_ok KX G (fa_ok c 92 (f := .int "MAX_PICKS" 200) rfl)
theorem rec_ok (KX : K.In h) (G : h.Ns mainGlobals mg) (c : TP.SaysY TP.fa TP.fn h K) : RecC K mg (He.ga K "Record") where
  cls := He.cls_ok (fa_ok c 93 (f := .cls "Record") rfl)
  glo := He.glo_ok KX G (fa_ok c 70 (f := .glo "Record") rfl)
  counts := He.noat_ok (fa_ok c 103 (f := .noat "Record" "counts") rfl)
  lists := He.noat_ok (fa_ok c 104 (f := .noat "Record" "lists") rfl)
  sequence := He.noat_ok (fa_ok c 105 (f := .noat "Record" "sequence") rfl)
  picks := He.noat_ok (fa_ok c 106 (f := .noat "Record" "picks") rfl)
  owners := He.noat_ok (fa_ok c 107 (f := .noat "Record" "owners") rfl)
theorem law_is {P : Program} {w : World} (KX : K.In h) (G : h.Ns mainGlobals mg) (c : TP.SaysY TP.fa TP.fn h K) {base : Heap} (TB : LamX.TabB base mg (He.cT K ("safe_picks", none)).1 (He.cT K ("safe_picks", none)).2) {f : Addr} {fd : FuncData} (F : FunD K "law" "law" (defArgs (top 102)) (defBody (top 102)) (defScope (top 102)) [] [] f fd) :
    FnOk P w K mg base CX0 15 f fd ["_law_script"] (@SpF ⟨(He.cT K ("safe_picks", none)).2⟩ (gLaw K)) := by
  letI : Tb := ⟨(He.cT K ("safe_picks", none)).2⟩
  refine law_ok (bi_ok KX G c) (rec_ok KX G c) (F := F)
    (D_is_integer := ?hD_is_integer)
    (D_is_at_least := ?hD_is_at_least)
    (D_is_between := ?hD_is_between)
    (D_is_bundle := ?hD_is_bundle)
    (D_is_list := ?hD_is_list)
    (D_is_turns := ?hD_is_turns)
    (D_is_block := ?hD_is_block)
    (D_require_counts := ?hD_require_counts)
    (D_require_list := ?hD_require_list)
    (D_require_player := ?hD_require_player)
    (D_other_player := ?hD_other_player)
    (D_own_list := ?hD_own_list)
    (D_require_lists := ?hD_require_lists)
    (D_require_sequence := ?hD_require_sequence)
    (D_picks_of := ?hD_picks_of)
    (D_require_fits := ?hD_require_fits)
    (D_prefix_sums := ?hD_prefix_sums)
    (D_count_turns := ?hD_count_turns)
    (D_caps_of := ?hD_caps_of)
    (D_sure_of := ?hD_sure_of)
    (D_own_turns := ?hD_own_turns)
    (D_require_setting := ?hD_require_setting)
    (D_require_side := ?hD_require_side)
    (D_sure_counts := ?hD_sure_counts)
    (D_has_turn := ?hD_has_turn)
    (D_require_first := ?hD_require_first)
    (D_filled_up := ?hD_filled_up)
    (D_bundle_fault := ?hD_bundle_fault)
    (D_require_items := ?hD_require_items)
    (D_too_full := ?hD_too_full)
    (D_require_had := ?hD_require_had)
    (D_pick_order := ?hD_pick_order)
    (D_best_bundle := ?hD_best_bundle)
    (D_best_left := ?hD_best_left)
    (D_one_repetition := ?hD_one_repetition)
    (D_like_repetitions := ?hD_like_repetitions)
    (D_plain_rows := ?hD_plain_rows)
    (D_bundles_of := ?hD_bundles_of)
    (D_require_game := ?hD_require_game)
    (D_require_whole_thinking := ?hD_require_whole_thinking)
    (D_turned_lists := ?hD_turned_lists)
    (D_turned_rows := ?hD_turned_rows)
    (D_end_bundles := ?hD_end_bundles)
    (D_end_of := ?hD_end_of)
    (D_without_first := ?hD_without_first)
    (D_with_item := ?hD_with_item)
    (D_best_first_picks := ?hD_best_first_picks)
    (D_rest_of := ?hD_rest_of)
    (D_require_opponent := ?hD_require_opponent)
    (D_require_whole_records := ?hD_require_whole_records)
    (D_require_picks := ?hD_require_picks)
    (D_owner_of := ?hD_owner_of)
    (D_M_left_after := ?hD_M_left_after)
    (D_M_bundles_after := ?hD_M_bundles_after)
    (D_M_bundles := ?hD_M_bundles)
    (D_M_to_come := ?hD_M_to_come)
    (D_M_standing := ?hD_M_standing)
    (D_M_standings := ?hD_M_standings)
    (D_M_losses := ?hD_M_losses)
    (D_M_first_loss := ?hD_M_first_loss)
    (D__law_prefixes := ?hD__law_prefixes)
    (D__law_no_loss := ?hD__law_no_loss)
    (D__law_mixed := ?hD__law_mixed)
    (D__law_take := ?hD__law_take)
    (D__law_one := ?hD__law_one)
    (D__law_mixed_up := ?hD__law_mixed_up)
    (D__law_kinds := ?hD__law_kinds)
    (D__law_rankings := ?hD__law_rankings)
    (D__law_word := ?hD__law_word)
    (D__law_blocks := ?hD__law_blocks)
    (D__law_scene := ?hD__law_scene)
    (D__law_source := ?hD__law_source)
    (D_safe := ?hD_safe)
    (D_harmless_picks := ?hD_harmless_picks)
    (D_init := ?hD_init)
    (D__law_played := ?hD__law_played)
    (D__law_thought := ?hD__law_thought)
    (D__law_right := ?hD__law_right)
  case hD_is_integer =>
    obtain ⟨fd, F⟩ := def_ok c 0 rfl
    exact ⟨_, fd, F, He.glo_ok KX G (fa_ok c 0 (f := .glo "is_integer") rfl)⟩
  case hD_is_at_least =>
    obtain ⟨fd, F⟩ := def_ok c 1 rfl
    exact ⟨_, fd, F, He.glo_ok KX G (fa_ok c 1 (f := .glo "is_at_least") rfl)⟩
  case hD_is_between =>
    obtain ⟨fd, F⟩ := def_ok c 2 rfl
    exact ⟨_, fd, F, He.glo_ok KX G (fa_ok c 2 (f := .glo "is_between") rfl)⟩
  case hD_is_bundle =>
    obtain ⟨fd, F⟩ := def_ok c 3 rfl
    exact ⟨_, fd, F, He.glo_ok KX G (fa_ok c 3 (f := .glo "is_bundle") rfl)⟩
  case hD_is_list =>
    obtain ⟨fd, F⟩ := def_ok c 4 rfl
    exact ⟨_, fd, F, He.glo_ok KX G (fa_ok c 4 (f := .glo "is_list") rfl)⟩
  case hD_is_turns =>
    obtain ⟨fd, F⟩ := def_ok c 5 rfl
    exact ⟨_, fd, F, He.glo_ok KX G (fa_ok c 5 (f := .glo "is_turns") rfl)⟩
  case hD_is_block =>
    obtain ⟨fd, F⟩ := def_ok c 6 rfl
    exact ⟨_, fd, F, He.glo_ok KX G (fa_ok c 6 (f := .glo "is_block") rfl)⟩
  case hD_require_counts =>
    obtain ⟨fd, F⟩ := def_ok c 7 rfl
    exact ⟨_, fd, F, He.glo_ok KX G (fa_ok c 7 (f := .glo "require_counts") rfl)⟩
  case hD_require_list =>
    obtain ⟨fd, F⟩ := def_ok c 8 rfl
    exact ⟨_, fd, F, He.glo_ok KX G (fa_ok c 8 (f := .glo "require_list") rfl)⟩
  case hD_require_player =>
    obtain ⟨fd, F⟩ := def_ok c 11 rfl
    exact ⟨_, fd, F, He.glo_ok KX G (fa_ok c 11 (f := .glo "require_player") rfl)⟩
  case hD_other_player =>
    obtain ⟨fd, F⟩ := def_ok c 15 rfl
    exact ⟨_, fd, F, He.glo_ok KX G (fa_ok c 15 (f := .glo "other_player") rfl)⟩
  case hD_own_list =>
    obtain ⟨fd, F⟩ := def_ok c 16 rfl
    exact ⟨_, fd, F, He.glo_ok KX G (fa_ok c 16 (f := .glo "own_list") rfl)⟩
  case hD_require_lists =>
    obtain ⟨fd, F⟩ := def_ok c 9 rfl
    exact ⟨_, fd, F, He.glo_ok KX G (fa_ok c 9 (f := .glo "require_lists") rfl)⟩
  case hD_require_sequence =>
    obtain ⟨fd, F⟩ := def_ok c 10 rfl
    exact ⟨_, fd, F, He.glo_ok KX G (fa_ok c 10 (f := .glo "require_sequence") rfl)⟩
  case hD_picks_of =>
    obtain ⟨fd, F⟩ := def_ok c 12 rfl
    exact ⟨_, fd, F, He.glo_ok KX G (fa_ok c 12 (f := .glo "picks_of") rfl)⟩
  case hD_require_fits =>
    obtain ⟨fd, F⟩ := def_ok c 13 rfl
    exact ⟨_, fd, F, He.glo_ok KX G (fa_ok c 13 (f := .glo "require_fits") rfl)⟩
  case hD_prefix_sums =>
    obtain ⟨fd, F⟩ := def_ok c 14 rfl
    exact ⟨_, fd, F, He.glo_ok KX G (fa_ok c 14 (f := .glo "prefix_sums") rfl)⟩
  case hD_count_turns =>
    obtain ⟨fd, F⟩ := def_ok c 17 rfl
    exact ⟨_, fd, F, He.glo_ok KX G (fa_ok c 17 (f := .glo "count_turns") rfl)⟩
  case hD_caps_of =>
    obtain ⟨fd, F⟩ := def_ok c 20 rfl
    exact ⟨_, fd, F, He.glo_ok KX G (fa_ok c 20 (f := .glo "caps_of") rfl)⟩
  case hD_sure_of =>
    obtain ⟨fd, F⟩ := def_ok c 30 rfl
    exact ⟨_, fd, F, He.glo_ok KX G (fa_ok c 30 (f := .glo "sure_of") rfl)⟩
  case hD_own_turns =>
    obtain ⟨fd, F⟩ := def_ok c 21 rfl
    exact ⟨_, fd, F, He.glo_ok KX G (fa_ok c 21 (f := .glo "own_turns") rfl)⟩
  case hD_require_setting =>
    obtain ⟨fd, F⟩ := def_ok c 19 rfl
    exact ⟨_, fd, F, He.glo_ok KX G (fa_ok c 19 (f := .glo "require_setting") rfl)⟩
  case hD_require_side =>
    obtain ⟨fd, F⟩ := def_ok c 29 rfl
    exact ⟨_, fd, F, He.glo_ok KX G (fa_ok c 29 (f := .glo "require_side") rfl)⟩
  case hD_sure_counts =>
    obtain ⟨fd, F⟩ := def_ok c 31 rfl
    exact ⟨_, fd, F, He.glo_ok KX G (fa_ok c 31 (f := .glo "sure_counts") rfl)⟩
  case hD_has_turn =>
    obtain ⟨fd, F⟩ := def_ok c 32 rfl
    exact ⟨_, fd, F, He.glo_ok KX G (fa_ok c 32 (f := .glo "has_turn") rfl)⟩
  case hD_require_first =>
    obtain ⟨fd, F⟩ := def_ok c 33 rfl
    exact ⟨_, fd, F, He.glo_ok KX G (fa_ok c 33 (f := .glo "require_first") rfl)⟩
  case hD_filled_up =>
    obtain ⟨fd, F⟩ := def_ok c 25 rfl
    exact ⟨_, fd, F, He.glo_ok KX G (fa_ok c 25 (f := .glo "filled_up") rfl)⟩
  case hD_bundle_fault =>
    obtain ⟨fd, F⟩ := def_ok c 22 rfl
    exact ⟨_, fd, F, He.glo_ok KX G (fa_ok c 22 (f := .glo "bundle_fault") rfl)⟩
  case hD_require_items =>
    obtain ⟨fd, F⟩ := def_ok c 23 rfl
    exact ⟨_, fd, F, He.glo_ok KX G (fa_ok c 23 (f := .glo "require_items") rfl)⟩
  case hD_too_full =>
    obtain ⟨fd, F⟩ := def_ok c 24 rfl
    exact ⟨_, fd, F, He.glo_ok KX G (fa_ok c 24 (f := .glo "too_full") rfl)⟩
  case hD_require_had =>
    obtain ⟨fd, F⟩ := def_ok c 27 rfl
    exact ⟨_, fd, F, He.glo_ok KX G (fa_ok c 27 (f := .glo "require_had") rfl)⟩
  case hD_pick_order =>
    obtain ⟨fd, F⟩ := def_ok c 28 rfl
    exact ⟨_, fd, F, He.glo_ok KX G (fa_ok c 28 (f := .glo "pick_order") rfl)⟩
  case hD_best_bundle =>
    obtain ⟨fd, F⟩ := def_ok c 26 rfl
    exact ⟨_, fd, F, He.glo_ok KX G (fa_ok c 26 (f := .glo "best_bundle") rfl)⟩
  case hD_best_left =>
    obtain ⟨fd, F⟩ := def_ok c 36 rfl
    exact ⟨_, fd, F, He.glo_ok KX G (fa_ok c 36 (f := .glo "best_left") rfl)⟩
  case hD_one_repetition =>
    obtain ⟨fd, F⟩ := def_ok c 37 rfl
    exact ⟨_, fd, F, He.glo_ok KX G (fa_ok c 37 (f := .glo "one_repetition") rfl)⟩
  case hD_like_repetitions =>
    obtain ⟨fd, F⟩ := def_ok c 38 rfl
    exact ⟨_, fd, F, He.glo_ok KX G (fa_ok c 38 (f := .glo "like_repetitions") rfl)⟩
  case hD_plain_rows =>
    obtain ⟨fd, F⟩ := def_ok c 39 rfl
    exact ⟨_, fd, F, He.glo_ok KX G (fa_ok c 39 (f := .glo "plain_rows") rfl)⟩
  case hD_bundles_of =>
    obtain ⟨fd, F⟩ := def_ok c 40 rfl
    exact ⟨_, fd, F, He.glo_ok KX G (fa_ok c 40 (f := .glo "bundles_of") rfl)⟩
  case hD_require_game =>
    obtain ⟨fd, F⟩ := def_ok c 41 rfl
    exact ⟨_, fd, F, He.glo_ok KX G (fa_ok c 41 (f := .glo "require_game") rfl)⟩
  case hD_require_whole_thinking =>
    obtain ⟨fd, F⟩ := def_ok c 42 rfl
    exact ⟨_, fd, F, He.glo_ok KX G (fa_ok c 42 (f := .glo "require_whole_thinking") rfl)⟩
  case hD_turned_lists =>
    obtain ⟨fd, F⟩ := def_ok c 43 rfl
    exact ⟨_, fd, F, He.glo_ok KX G (fa_ok c 43 (f := .glo "turned_lists") rfl)⟩
  case hD_turned_rows =>
    obtain ⟨fd, F⟩ := def_ok c 44 rfl
    exact ⟨_, fd, F, He.glo_ok KX G (fa_ok c 44 (f := .glo "turned_rows") rfl)⟩
  case hD_end_bundles =>
    obtain ⟨fd, F⟩ := def_ok c 45 rfl
    exact ⟨_, fd, F, He.glo_ok KX G (fa_ok c 45 (f := .glo "end_bundles") rfl)⟩
  case hD_end_of =>
    obtain ⟨fd, F⟩ := def_ok c 46 rfl
    exact ⟨_, fd, F, He.glo_ok KX G (fa_ok c 46 (f := .glo "end_of") rfl)⟩
  case hD_without_first =>
    obtain ⟨fd, F⟩ := def_ok c 47 rfl
    exact ⟨_, fd, F, He.glo_ok KX G (fa_ok c 47 (f := .glo "without_first") rfl)⟩
  case hD_with_item =>
    obtain ⟨fd, F⟩ := def_ok c 48 rfl
    exact ⟨_, fd, F, He.glo_ok KX G (fa_ok c 48 (f := .glo "with_item") rfl)⟩
  case hD_best_first_picks =>
    obtain ⟨fd, F⟩ := def_ok c 49 rfl
    exact ⟨_, fd, F, He.glo_ok KX G (fa_ok c 49 (f := .glo "best_first_picks") rfl)⟩
  case hD_rest_of =>
    obtain ⟨fd, F⟩ := def_ok c 18 rfl
    exact ⟨_, fd, F, He.glo_ok KX G (fa_ok c 18 (f := .glo "rest_of") rfl)⟩
  case hD_require_opponent =>
    obtain ⟨fd, F⟩ := def_ok c 50 rfl
    exact ⟨_, fd, F, He.glo_ok KX G (fa_ok c 50 (f := .glo "require_opponent") rfl)⟩
  case hD_require_whole_records =>
    obtain ⟨fd, F⟩ := def_ok c 51 rfl
    exact ⟨_, fd, F, He.glo_ok KX G (fa_ok c 51 (f := .glo "require_whole_records") rfl)⟩
  case hD_require_picks =>
    obtain ⟨fd, F⟩ := def_ok c 52 rfl
    exact ⟨_, fd, F, He.glo_ok KX G (fa_ok c 52 (f := .glo "require_picks") rfl)⟩
  case hD_owner_of =>
    obtain ⟨fd, F⟩ := def_ok c 53 rfl
    exact ⟨_, fd, F, He.glo_ok KX G (fa_ok c 53 (f := .glo "owner_of") rfl)⟩
  case hD_M_left_after =>
    obtain ⟨fd, F⟩ := def_ok c 56 rfl
    exact ⟨_, fd, F, He.meth_ok (fa_ok c 96 (f := .meth "Record" "left_after") rfl)⟩
  case hD_M_bundles_after =>
    obtain ⟨fd, F⟩ := def_ok c 55 rfl
    exact ⟨_, fd, F, He.meth_ok (fa_ok c 95 (f := .meth "Record" "bundles_after") rfl)⟩
  case hD_M_bundles =>
    obtain ⟨fd, F⟩ := def_ok c 57 rfl
    exact ⟨_, fd, F, He.meth_ok (fa_ok c 97 (f := .meth "Record" "bundles") rfl)⟩
  case hD_M_to_come =>
    obtain ⟨fd, F⟩ := def_ok c 58 rfl
    exact ⟨_, fd, F, He.meth_ok (fa_ok c 98 (f := .meth "Record" "to_come") rfl)⟩
  case hD_M_standing =>
    obtain ⟨fd, F⟩ := def_ok c 59 rfl
    exact ⟨_, fd, F, He.meth_ok (fa_ok c 99 (f := .meth "Record" "standing") rfl)⟩
  case hD_M_standings =>
    obtain ⟨fd, F⟩ := def_ok c 60 rfl
    exact ⟨_, fd, F, He.meth_ok (fa_ok c 100 (f := .meth "Record" "standings") rfl)⟩
  case hD_M_losses =>
    obtain ⟨fd, F⟩ := def_ok c 61 rfl
    exact ⟨_, fd, F, He.meth_ok (fa_ok c 101 (f := .meth "Record" "losses") rfl)⟩
  case hD_M_first_loss =>
    obtain ⟨fd, F⟩ := def_ok c 62 rfl
    exact ⟨_, fd, F, He.meth_ok (fa_ok c 102 (f := .meth "Record" "first_loss") rfl)⟩
  case hD__law_prefixes =>
    obtain ⟨fd, F⟩ := def_ok c 72 rfl
    exact ⟨_, fd, F, He.glo_ok KX G (fa_ok c 63 (f := .glo "_law_prefixes") rfl)⟩
  case hD__law_no_loss =>
    obtain ⟨fd, F⟩ := def_ok c 76 rfl
    exact ⟨_, fd, F, He.glo_ok KX G (fa_ok c 67 (f := .glo "_law_no_loss") rfl)⟩
  case hD__law_mixed =>
    obtain ⟨fd, F⟩ := def_ok c 63 rfl
    exact ⟨_, fd, F, He.glo_ok KX G (fa_ok c 54 (f := .glo "_law_mixed") rfl)⟩
  case hD__law_take =>
    obtain ⟨fd, F⟩ := def_ok c 65 rfl
    exact ⟨_, fd, F, He.glo_ok KX G (fa_ok c 56 (f := .glo "_law_take") rfl)⟩
  case hD__law_one =>
    obtain ⟨fd, F⟩ := def_ok c 66 rfl
    exact ⟨_, fd, F, He.glo_ok KX G (fa_ok c 57 (f := .glo "_law_one") rfl)⟩
  case hD__law_mixed_up =>
    obtain ⟨fd, F⟩ := def_ok c 67 rfl
    exact ⟨_, fd, F, He.glo_ok KX G (fa_ok c 58 (f := .glo "_law_mixed_up") rfl)⟩
  case hD__law_kinds =>
    obtain ⟨fd, F⟩ := def_ok c 68 rfl
    exact ⟨_, fd, F, He.glo_ok KX G (fa_ok c 59 (f := .glo "_law_kinds") rfl)⟩
  case hD__law_rankings =>
    obtain ⟨fd, F⟩ := def_ok c 69 rfl
    exact ⟨_, fd, F, He.glo_ok KX G (fa_ok c 60 (f := .glo "_law_rankings") rfl)⟩
  case hD__law_word =>
    obtain ⟨fd, F⟩ := def_ok c 70 rfl
    exact ⟨_, fd, F, He.glo_ok KX G (fa_ok c 61 (f := .glo "_law_word") rfl)⟩
  case hD__law_blocks =>
    obtain ⟨fd, F⟩ := def_ok c 71 rfl
    exact ⟨_, fd, F, He.glo_ok KX G (fa_ok c 62 (f := .glo "_law_blocks") rfl)⟩
  case hD__law_scene =>
    obtain ⟨fd, F⟩ := def_ok c 73 rfl
    exact ⟨_, fd, F, He.glo_ok KX G (fa_ok c 64 (f := .glo "_law_scene") rfl)⟩
  case hD__law_source =>
    obtain ⟨fd, F⟩ := def_ok c 64 rfl
    exact ⟨_, fd, F, He.glo_ok KX G (fa_ok c 55 (f := .glo "_law_source") rfl)⟩
  case hD_safe =>
    obtain ⟨fd, F⟩ := def_ok c 35 rfl
    refine ⟨_, fd, F, He.glo_ok KX G (fa_ok c 35 (f := .glo "safe_picks") rfl), ?_⟩
    obtain ⟨oc, od, dV, kV, doc, pm, an, cdv, ct, osl, rfl, lk, hcode, _, _⟩ := F.ex
    obtain ⟨c0, rfl⟩ := He.codeIn_ref hcode
    refine ⟨c0, rfl, ?_⟩
    have e : He.codeOf K ("safe_picks", none) = c0 := He.codeOf_eq lk rfl
    have e2 : (He.cT K ("safe_picks", none)).1 = c0 := e
    rw [e2] at TB
    exact TB
  case hD_harmless_picks =>
    obtain ⟨fd, F⟩ := def_ok c 34 rfl
    exact ⟨_, fd, F, He.glo_ok KX G (fa_ok c 34 (f := .glo "harmless_picks") rfl)⟩
  case hD_init =>
    obtain ⟨fd, F⟩ := def_ok c 54 rfl
    exact ⟨_, fd, F, He.mkr_ok (fa_ok c 94 (f := .mkr "Record") rfl)⟩
  case hD__law_played =>
    obtain ⟨fd, F⟩ := def_ok c 74 rfl
    exact ⟨_, fd, F, He.glo_ok KX G (fa_ok c 65 (f := .glo "_law_played") rfl)⟩
  case hD__law_thought =>
    obtain ⟨fd, F⟩ := def_ok c 75 rfl
    exact ⟨_, fd, F, He.glo_ok KX G (fa_ok c 66 (f := .glo "_law_thought") rfl)⟩
  case hD__law_right =>
    obtain ⟨fd, F⟩ := def_ok c 77 rfl
    exact ⟨_, fd, F, He.glo_ok KX G (fa_ok c 68 (f := .glo "_law_right") rfl)⟩
end
end TPE
end
section
set_option maxHeartbeats 0
namespace TPE
open PySem PySem.Spec PyProof.Rows L2
/-- the law's promise at a script -/
theorem law_sp {K : PySem.W.Frag} {P : Addr} {H : Hp} {a : Addr} {ns : List Int} (hz : ns.length ≤ 63) (hP : H P = some (.tbl #[])) (hS : SqL K H a (ns.map V.int)) : @SpF ⟨P⟩ (gLaw K) [.ref a] H (fun v _ => v = .bl true) fun _ _ _ => False := by
  letI : Tb := ⟨P⟩
  have hS' : SqL K (wo H fun x => x = P) a (ns.map V.int) := by
    rcases hS with (h | ⟨o, h⟩) | h
    · exact .inl (.inl (by rw [wo_out fun e => by rw [e, hP] at h; cases h]; exact h))
    · exact .inl (.inr ⟨o, by rw [wo_out fun e => by rw [e, hP] at h; cases h]; exact h⟩)
    · exact .inr h
  refine ⟨none, fun x => x = P, [dP K (.list (ns.map PyData.int))], dP K (.bool true), gLaw.mk ns hz, .cons (.lst hS' ints_dpAll) .nil, fun x e => by (rw [e, hP]; exact fun z => (nomatch z)), fun s m => ?_, fun v H' _ hv => ?_⟩
  · have e : s = P := m.elim (fun z => (nomatch z)) id
    exact ⟨⟨fun z => (nomatch z), fun _ => LamX.TabS.nil hP⟩, e⟩
  · have hv : Dp K _ v (.bool true) := hv
    cases hv
    rfl
end TPE
end
set_option maxHeartbeats 0
open PySem PySem.W PySem.Calls PyProof.Rows
theorem PySem.Challenge.cw_turnpicks_k60_whole_players_without_loss_holds : PySem.Challenge.rw_turnpicks_k60_whole_players_without_loss.Holds := by
  w_on; o_law
  refine HandSHeadRun.head_any (r := OpenLaw.row PySem.Challenge.rw_turnpicks_k60_whole_players_without_loss) (q := view (OpenLaw.row PySem.Challenge.rw_turnpicks_k60_whole_players_without_loss).prog [102]) (H := TP.hk) (ob := TP.ob) (M := 7000) (loose := TP.names) (d := HandSHeadRun.topDef (OpenLaw.row PySem.Challenge.rw_turnpicks_k60_whole_players_without_loss).prog 102) (kwd := []) TP.ob_eq
    (by kernel_rfl) (fun s => by kernel_rfl) TP.run (by kernel_rfl) (by kernel_rfl) (by kernel_rfl) (by rfl) (by first | assumption | decide +kernel) (by decide +kernel) ⟨rfl, rfl, rfl, rfl, rfl, by decide +kernel⟩ ?hw ?hc
  case hw => w_witness2
  case hc =>
    refine LamX.walk_ofTsE (l := PySem.Challenge.rw_turnpicks_k60_whole_players_without_loss) (n := 63) (k := 15) (x := "_law_script") (CX := fun _ => L2.CX0) rfl (by decide) (by kernel_rfl) ⟨rfl, by decide, by decide⟩ ?F (fun _ _ _ _ _ z => z)
    intro w mg fa h Y G hmg0
    obtain ⟨K, KX, c⟩ := Y
    have hmg : mg ("law" : PySem.Str) = some (.ref fa) := by
      have e : (HandSHeadRun.topDef (OpenLaw.row PySem.Challenge.rw_turnpicks_k60_whole_players_without_loss).prog 102).name = ("law" : PySem.Str) := by kernel_rfl
      rw [← e]
      exact hmg0
    obtain ⟨fd, F⟩ := TPE.def_ok c 78 rfl
    have hfa : fa = He.fAd K ("law", none) := by
      have z := hmg.symm.trans (He.glo_ok KX G (TPE.fa_ok c 69 (f := .glo "law") rfl))
      cases z
      rfl
    refine ⟨K, KX, fd, [He.cT K ("safe_picks", none)], @TPE.SpF ⟨(He.cT K ("safe_picks", none)).2⟩ (TPE.gLaw K), fun p hp => ?_, fun p hp => ?_, fun p hp => ?_, ?_, fun H a ns hl _ hT hS => ?_, fun base KB GB hTB => ?_⟩
    · rw [List.mem_singleton.mp hp]; exact c.empty
    · rw [List.mem_singleton.mp hp]; exact c.out
    · rw [List.mem_singleton.mp hp]; exact PySem.W.codeHd_of_K KX c.hd
    · have b := L2.FunD.bindsA (ps := ["_law_script"]) F fun _ _ _ _ _ _ us hl => match us, hl with | [_], _ => rfl
      exact fun s v => b s [v] rfl
    · exact TPE.law_sp hl (hT _ List.mem_cons_self) hS
    · rw [hfa]
      exact TPE.law_is (P := (PySem.Challenge.rw_turnpicks_k60_whole_players_without_loss).prog) (w := w) KX G c (base := base) (hTB _ List.mem_cons_self) F
