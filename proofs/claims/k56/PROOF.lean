import PyProof.Rows.All
import Wide.All
import OpenK.AllK
import Wide.FinOn
import KE.KItemsList
import KE.GoesMore
import KE.SortData
import KE.DataCmp
import HandS.ForMost
import HandS.ForExc
import HandS.Deep
import HandS.Walk
import HandS.IsInst
import HandS.StrMore
import HandS.TupAny
import HandS.TupMul
import HandS.Style
import HandS.CallSlots
import HandS.Defaults
import HandS.HeadHook2
import HandS.SortInts
import KE.DataMinMax
import KE.DataFind
import KE.DataIsa
import PyProof.StrBlock2
import HandS.SetFor
import HandS.Strs
import KE.GoesEnum
import KE.GoesZip
import HandS.Zip
import KE.KDictPairs
import HandS.SetKeys
import HandS.Sort
import HandS.ExcOwn
import HandS.HeadHook4
import HandS.HeadEnd
import HandS.Words
import PyProof.ExcBaseAll.ValueError
import KE.KStateDown
import HandS.Ends
import HandS.More
import HandS.WordsExc
import HandS.Head0
import HandS.Head1
import HandS.Head2
import HandS.HeadHook1
import PySem.Challenge.RW_verseends_k56_whole_faults
set_option Elab.async false
set_option linter.all false
set_option maxRecDepth 100000
set_option maxHeartbeats 0
namespace VE
open PySem PySem.Calls PyProof.Rows PySem.Spec PySem.W
/-- a zip whose last tuple is still held -/
abbrev IsZipO (h : Heap) (z TI TO T : Addr) (f : Bool) : Prop := h.get? z = some { cls := .type "zip", dict := none, data := .fields #[rawInt T, .bool f, .bool false, .ref TI, .ref TO], slots := #[] }
section
variable {prog : Program} {w : World} {A : Around} {E : Value → Shared → Prop} {s : Shared} {z TI TO i1 i2 T : Addr} {fp1 fp2 : List Addr} {n1 n2 i : Nat} {P1 P2 : Nat → Value → Prop} {St1 St2 : Nat → Heap → Prop} {f : Bool} {oT : Obj}
theorem zo_free {Q : Bool → Shared → Prop} (hz : IsZipO s.heap z TI TO T f) (hT : s.heap.get? T = some oT) (hQ : ∀ h', IsZipO h' z TI TO T true → Heap.SameBut z s.heap h' → Q false { s with heap := h' }) :
    wpAny (model prog w) A (Builtin.SmallTypes.ownedTupleIsFree (.ref z)) Q E s := by
  obtain ⟨hp, g, d, tk0, os⟩ := s
  unfold Builtin.SmallTypes.ownedTupleIsFree
  refine wpAny_bind (wpAny_field hz rfl (x := rawInt T) rfl ?_)
  show wpAny _ _ (loadIfAlive ((T : Int)).toNat >>= _) _ _ _
  rw [Int.toNat_natCast]
  refine wpAny_bind (kdx_alive hT ?_)
  simp only [Option.isNone_some, Bool.false_eq_true, if_false]
  refine wpAny_bind (wpAny_field hz rfl (x := .bool f) rfl ?_)
  cases f with
  | true =>
    refine wpAny_pure ?_
    exact hQ hp hz ⟨rfl, fun b _ => rfl⟩
  | false =>
    refine wpAny_bind (wpAny_setField_rec hz (by simp) fun g0 hz0 hs0 => wpAny_pure ?_)
    exact hQ g0 hz0 hs0
theorem zo_next_item {Q : Value → Shared → Prop} (S : ZipSep2 z TI TO i1 i2 fp1 fp2) (D1 : Draws prog w A i1 fp1 n1 P1 St1) (D2 : Draws prog w A i2 fp2 n2 P2 St2)
    (hz : IsZipO s.heap z TI TO T f) (hT : s.heap.get? T = some oT) (hTI : IsTupOf2 s.heap TI (.ref i1) (.ref i2)) (st1 : St1 i s.heap) (st2 : St2 i s.heap) (hlt1 : i < n1) (hlt2 : i < n2)
    (hQ : ∀ x1 x2 h' tk, P1 i x1 → P2 i x2 → IsZipO h' z TI TO T true → St1 (i + 1) h' → St2 (i + 1) h' → IsTupOf2 h' s.heap.objs.size x1 x2 → h'.objs.size = s.heap.objs.size + 1 →
      (∀ c o, c ≠ z → c ≠ i1 → c ≠ i2 → s.heap.get? c = some o → h'.get? c = some o) → Q (.ref s.heap.objs.size) { s with heap := h', toks := tk }) :
    wpAny (model prog w) A (Builtin.«zip.__next__» ⟨[.ref z], []⟩) (fun fin s' => ∃ v, fin = .done (.ret v) ∧ Q v s') E s := by
  obtain ⟨hp, g, d, tk0, os⟩ := s
  show wpAny _ _ (field (.ref z) 2 >>= _) _ _ _
  refine wpAny_bind (wpAny_field hz rfl (x := .bool false) rfl ?_)
  show wpAny _ _ (field (.ref z) 3 >>= _) _ _ _
  refine wpAny_bind (wpAny_field hz rfl (x := .ref TI) rfl ?_)
  refine wpAny_bind (wpAny_seqItems hTI rfl ?_)
  show wpAny _ _ (Builtin.SmallTypes.ownedTupleIsFree (.ref z) >>= _) _ _ _
  refine wpAny_bind (zo_free hz hT fun g0 hz0 hs0 => ?_)
  replace hs0 : Heap.SameBut z hp g0 := hs0
  simp only [Bool.false_eq_true, if_false]
  rw [← Array.forIn_toList]
  simp only [List.forIn_cons, List.forIn_nil]
  refine wpAny_bind (wpAny_bind (wpAny_bind (wpAny_holding ?_)))
  show wpAny _ _ (Builtin.SmallTypes.nextOf (.ref i1) >>= _) _ _ ⟨g0, g, d, tk0, os⟩
  refine wpAny_bind (D1.item i _ _ _ hlt1 (D1.over st1 hs0 S.zf1) fun x1 p1 tk1 hx1 sn1 hp1 => wpAny_pure (wpAny_pure ?_))
  replace hp1 : Heap.SameBut i1 g0 p1 := hp1
  refine wpAny_bind (wpAny_bind (wpAny_holding ?_))
  show wpAny _ _ (Builtin.SmallTypes.nextOf (.ref i2) >>= _) _ _ ⟨p1, g, d, tk1, os⟩
  refine wpAny_bind (D2.item i _ _ _ hlt2 (D2.over (D2.over st2 hs0 S.zf2) hp1 S.sep1_2) fun x2 p2 tk2 hx2 sn2 hp2 => wpAny_pure (wpAny_pure (wpAny_pure ?_)))
  replace hp2 : Heap.SameBut i2 p1 p2 := hp2
  have hsz : p2.objs.size = hp.objs.size := by rw [hp2.1, hp1.1, hs0.1]
  have hzz : IsZipO p2 z TI TO T true := hp2.extBut _ _ S.zi2 (hp1.extBut _ _ S.zi1 hz0)
  have hkk : ∀ c o, c ≠ z → c ≠ i1 → c ≠ i2 → hp.get? c = some o → p2.get? c = some o := fun c o cz c1 c2 e => hp2.extBut _ _ c2 (hp1.extBut _ _ c1 (hs0.extBut _ _ cz e))
  refine wpAny_bind (wpAny_newTuple (hsz := by show 2 ≤ sizeLine; decide) ?_)
  refine wpAny_pure ⟨_, rfl, ?_⟩
  show Q (.ref p2.objs.size) ⟨p2.push { cls := .type "tuple", data := .seq #[x1, x2] }, g, d, tk2, os⟩
  rw [hsz]
  have hT2 : IsTupOf2 (p2.push { cls := .type "tuple", data := .seq #[x1, x2] }) p2.objs.size x1 x2 := Heap.get?_push_size _ rfl
  rw [hsz] at hT2
  exact hQ x1 x2 _ tk2 hx1 hx2 (Heap.get?_push_of_some _ hzz) (D1.frame _ _ _ (D1.over sn1 hp2 S.sep2_1) fun b hb o e => Heap.get?_push_of_some _ e) (D2.frame _ _ _ sn2 fun b hb o e => Heap.get?_push_of_some _ e) hT2 (by rw [Heap.size_push, hsz]) fun c o cz c1 c2 e => Heap.get?_push_of_some _ (hkk c o cz c1 c2 e)
theorem zo_next_end {Q : Fin → Shared → Prop} (S : ZipSep2 z TI TO i1 i2 fp1 fp2) (D1 : Draws prog w A i1 fp1 n1 P1 St1) (D2 : Draws prog w A i2 fp2 n2 P2 St2)
    (hz : IsZipO s.heap z TI TO T f) (hT : s.heap.get? T = some oT) (hTI : IsTupOf2 s.heap TI (.ref i1) (.ref i2)) (st1 : St1 i s.heap) (st2 : St2 i s.heap) (hle1 : i ≤ n1) (hle2 : i ≤ n2) (hend : i = n1 ∨ i = n2)
    (hE : ∀ h' tk e, (∀ c o, c ≠ z → c ≠ TO → c ≠ i1 → c ≠ i2 → s.heap.get? c = some o → h'.get? c = some o) → (∃ o, h'.get? e = some o ∧ o.cls = .type "StopIteration") → E (.ref e) { s with heap := h', toks := tk }) :
    wpAny (model prog w) A (Builtin.«zip.__next__» ⟨[.ref z], []⟩) Q E s := by
  obtain ⟨hp, g, d, tk0, os⟩ := s
  show wpAny _ _ (field (.ref z) 2 >>= _) _ _ _
  refine wpAny_bind (wpAny_field hz rfl (x := .bool false) rfl ?_)
  show wpAny _ _ (field (.ref z) 3 >>= _) _ _ _
  refine wpAny_bind (wpAny_field hz rfl (x := .ref TI) rfl ?_)
  refine wpAny_bind (wpAny_seqItems hTI rfl ?_)
  show wpAny _ _ (Builtin.SmallTypes.ownedTupleIsFree (.ref z) >>= _) _ _ _
  refine wpAny_bind (zo_free hz hT fun g0 hz0 hs0 => ?_)
  replace hs0 : Heap.SameBut z hp g0 := hs0
  simp only [Bool.false_eq_true, if_false]
  rw [← Array.forIn_toList]
  simp only [List.forIn_cons, List.forIn_nil]
  refine wpAny_bind (wpAny_bind (wpAny_bind (wpAny_holding ?_)))
  show wpAny _ _ (Builtin.SmallTypes.nextOf (.ref i1) >>= _) _ _ ⟨g0, g, d, tk0, os⟩
  by_cases hlt1 : i < n1
  · refine wpAny_bind (D1.item i _ _ _ hlt1 (D1.over st1 hs0 S.zf1) fun x1 p1 tk1 hx1 sn1 hp1 => wpAny_pure (wpAny_pure ?_))
    replace hp1 : Heap.SameBut i1 g0 p1 := hp1
    have hi2 : i = n2 := by omega
    refine wpAny_bind (wpAny_bind (wpAny_holding ?_))
    show wpAny _ _ (Builtin.SmallTypes.nextOf (.ref i2) >>= _) _ _ ⟨p1, g, d, tk1, os⟩
    refine wpAny_bind (D2.done ⟨p1, g, d, tk1, os⟩ _ _ (by rw [← hi2]; exact D2.over (D2.over st2 hs0 S.zf2) hp1 S.sep1_2) fun q e hq he => ?_)
    replace hq : Heap.ExtBut i2 p1 q := hq
    exact hE q tk1 e (fun c o cz cT c1 c2 x => hq _ _ c2 (hp1.extBut _ _ c1 (hs0.extBut _ _ cz x))) he
  · have hi1 : i = n1 := by omega
    refine wpAny_bind (D1.done ⟨g0, g, d, tk0, os⟩ _ _ (by rw [← hi1]; exact D1.over st1 hs0 S.zf1) fun q e hq he => ?_)
    replace hq : Heap.ExtBut i1 g0 q := hq
    exact hE q tk0 e (fun c o cz cT c1 c2 x => hq _ _ c1 (hs0.extBut _ _ cz x)) he
theorem zo_pyNext_item {Q : Option Value → Shared → Prop} (S : ZipSep2 z TI TO i1 i2 fp1 fp2) (D1 : Draws prog w A.in1 i1 fp1 n1 P1 St1) (D2 : Draws prog w A.in1 i2 fp2 n2 P2 St2)
    (hz : IsZipO s.heap z TI TO T f) (hT : s.heap.get? T = some oT) (hTI : IsTupOf2 s.heap TI (.ref i1) (.ref i2)) (st1 : St1 i s.heap) (st2 : St2 i s.heap) (hlt1 : i < n1) (hlt2 : i < n2)
    (hQ : ∀ x1 x2 h' tk, P1 i x1 → P2 i x2 → IsZipO h' z TI TO T true → St1 (i + 1) h' → St2 (i + 1) h' → IsTupOf2 h' s.heap.objs.size x1 x2 → h'.objs.size = s.heap.objs.size + 1 →
      (∀ c o, c ≠ z → c ≠ i1 → c ≠ i2 → s.heap.get? c = some o → h'.get? c = some o) → Q (some (.ref s.heap.objs.size)) { s with heap := h', toks := tk }) :
    wpAny (model prog w) A (pyNext (.ref z)) Q E s := by
  have hTy : s.TypeIs (.ref z) "zip" := ⟨_, hz, rfl⟩
  unfold pyNext
  exact wpAny_bind (wpAny_attempt (wpAny_callSpecial?_slot (name := Str.ofString "__next__") hTy PySem.F.slot_zip_next
    (wpAny_call_entry PySem.F.slot_zip_next hTy PySem.F.entry_zip_next
      (zo_next_item S D1 D2 hz hT hTI st1 st2 hlt1 hlt2 fun x1 x2 h' tk y1 y2 b1 d1 d2 b5 b6 b7 => wpAny_pure (hQ x1 x2 h' tk y1 y2 b1 d1 d2 b5 b6 b7)) (PySem.F.args_zip_next_1 _))))
theorem zo_pyNext_end {Q : Option Value → Shared → Prop} (S : ZipSep2 z TI TO i1 i2 fp1 fp2) (D1 : Draws prog w A.in1 i1 fp1 n1 P1 St1) (D2 : Draws prog w A.in1 i2 fp2 n2 P2 St2)
    (hz : IsZipO s.heap z TI TO T f) (hT : s.heap.get? T = some oT) (hTI : IsTupOf2 s.heap TI (.ref i1) (.ref i2)) (st1 : St1 i s.heap) (st2 : St2 i s.heap) (hle1 : i ≤ n1) (hle2 : i ≤ n2) (hend : i = n1 ∨ i = n2)
    (hQ : ∀ h' tk, (∀ c o, c ≠ z → c ≠ TO → c ≠ i1 → c ≠ i2 → s.heap.get? c = some o → h'.get? c = some o) → Q none { s with heap := h', toks := tk }) : wpAny (model prog w) A (pyNext (.ref z)) Q E s := by
  have hTy : s.TypeIs (.ref z) "zip" := ⟨_, hz, rfl⟩
  unfold pyNext
  refine wpAny_bind (wpAny_attempt (wpAny_callSpecial?_slot (name := Str.ofString "__next__") hTy PySem.F.slot_zip_next
    (wpAny_call_entry PySem.F.slot_zip_next hTy PySem.F.entry_zip_next (zo_next_end S D1 D2 hz hT hTI st1 st2 hle1 hle2 hend fun h' tk e hk he => ?_) (PySem.F.args_zip_next_1 _))))
  obtain ⟨o, ho, hc⟩ := he
  refine wpAny_bind (wpAny_isInstance (T := "StopIteration") (b := true) ⟨o, ho, hc⟩ isSubtype_stop ?_)
  exact wpAny_pure (hQ _ _ hk)
/-- a zip as a list draws it: fresh, or its last tuple held -/
def ZSt (h : Heap) (z TI TO i1 i2 L : Addr) (i : Nat) : Prop := IsTupOf2 h TI (.ref i1) (.ref i2) ∧ (∃ a b, IsTupOf2 h TO a b) ∧
  (IsZip h z TI TO .none ∨ ∃ T f o, IsZipO h z TI TO T f ∧ h.get? T = some o ∧ T ≠ z ∧ T ≠ TO ∧ T ≠ i1 ∧ T ≠ i2 ∧ T ≠ L)
variable {L : Addr}
theorem ZSt.keep {h h' : Heap} (x : ZSt h z TI TO i1 i2 L i) (hL : z ≠ L ∧ TI ≠ L ∧ TO ≠ L) (hk : ∀ b o, b ≠ L → h.get? b = some o → h'.get? b = some o) : ZSt h' z TI TO i1 i2 L i := by
  obtain ⟨h1, ⟨a, b, h2⟩, h3⟩ := x
  refine ⟨hk _ _ hL.2.1 h1, ⟨a, b, hk _ _ hL.2.2 h2⟩, ?_⟩
  rcases h3 with q | ⟨T, f, o, q1, q2, q3⟩
  · exact .inl (hk _ _ hL.1 q)
  · exact .inr ⟨T, f, o, hk _ _ hL.1 q1, hk _ _ q3.2.2.2.2 q2, q3⟩
theorem zl_item {Q : Option Value → Shared → Prop} (S : ZipSep2 z TI TO i1 i2 fp1 fp2) (D1 : Draws prog w A.in1 i1 fp1 n1 P1 St1) (D2 : Draws prog w A.in1 i2 fp2 n2 P2 St2)
    (hz : ZSt s.heap z TI TO i1 i2 L i) (hL : L < s.heap.objs.size) (st1 : St1 i s.heap) (st2 : St2 i s.heap) (hlt1 : i < n1) (hlt2 : i < n2)
    (hQ : ∀ x1 x2 h' tk, P1 i x1 → P2 i x2 → ZSt h' z TI TO i1 i2 L (i + 1) → St1 (i + 1) h' → St2 (i + 1) h' → IsTupOf2 h' s.heap.objs.size x1 x2 → h'.objs.size = s.heap.objs.size + 1 →
      (∀ c o, c ≠ z → c ≠ TO → c ≠ i1 → c ≠ i2 → s.heap.get? c = some o → h'.get? c = some o) → Q (some (.ref s.heap.objs.size)) { s with heap := h', toks := tk }) :
    wpAny (model prog w) A (pyNext (.ref z)) Q E s := by
  obtain ⟨hTI, ⟨a, b, hTO⟩, hz⟩ := hz
  have lt : ∀ {c o}, s.heap.get? c = some o → s.heap.objs.size ≠ c := fun e => Nat.ne_of_gt (Heap.lt_size e)
  have l1 : s.heap.objs.size ≠ i1 := by obtain ⟨_, e⟩ := D1.live _ _ st1; exact lt e
  have l2 : s.heap.objs.size ≠ i2 := by obtain ⟨_, e⟩ := D2.live _ _ st2; exact lt e
  rcases hz with hz | ⟨T, f, o, hz, hT, t1, t2, t3, t4, t5⟩
  · refine wpAny_pyNext_zipD2_item S D1 D2 hz hTI hTO st1 st2 hlt1 hlt2 fun x1 x2 h' tk p1 p2 z' TO' s1 s2 hT hsz hk => ?_
    exact hQ x1 x2 h' tk p1 p2 ⟨hk _ _ S.TIz S.TITO S.TIi1 S.TIi2 hTI, ⟨_, _, TO'⟩, .inr ⟨_, false, _, z', hT, lt hz, lt hTO, l1, l2, Nat.ne_of_gt hL⟩⟩ s1 s2 hT hsz hk
  · refine zo_pyNext_item S D1 D2 hz hT hTI st1 st2 hlt1 hlt2 fun x1 x2 h' tk p1 p2 z' s1 s2 hT2 hsz hk => ?_
    exact hQ x1 x2 h' tk p1 p2 ⟨hk _ _ S.TIz S.TIi1 S.TIi2 hTI, ⟨_, _, hk _ _ S.TOz S.Ti1 S.Ti2 hTO⟩, .inr ⟨T, true, o, z', hk _ _ t1 t3 t4 hT, t1, t2, t3, t4, t5⟩⟩ s1 s2 hT2 hsz fun c o c1 c2 c3 c4 e => hk c o c1 c3 c4 e
theorem zl_end {Q : Option Value → Shared → Prop} (S : ZipSep2 z TI TO i1 i2 fp1 fp2) (D1 : Draws prog w A.in1 i1 fp1 n1 P1 St1) (D2 : Draws prog w A.in1 i2 fp2 n2 P2 St2)
    (hz : ZSt s.heap z TI TO i1 i2 L i) (st1 : St1 i s.heap) (st2 : St2 i s.heap) (hle1 : i ≤ n1) (hle2 : i ≤ n2) (hend : i = n1 ∨ i = n2)
    (hQ : ∀ h' tk, (∀ c o, c ≠ z → c ≠ TO → c ≠ i1 → c ≠ i2 → s.heap.get? c = some o → h'.get? c = some o) → Q none { s with heap := h', toks := tk }) : wpAny (model prog w) A (pyNext (.ref z)) Q E s := by
  obtain ⟨hTI, ⟨a, b, hTO⟩, hz⟩ := hz
  rcases hz with hz | ⟨T, f, o, hz, hT, t1, t2, t3, t4, t5⟩
  · exact wpAny_pyNext_zipD2_end S D1 D2 hz hTI hTO st1 st2 hle1 hle2 hend hQ
  · exact zo_pyNext_end S D1 D2 hz hT hTI st1 st2 hle1 hle2 hend hQ
/-- the tuples laid so far -/
structure ZG (P1 P2 : Nat → Value → Prop) (lo : Addr) (h : Heap) (as : List Addr) : Prop where
  rise : as.Pairwise (· < ·)
  above : ∀ a ∈ as, lo < a
  pairs : ∀ (j : Nat) (a : Addr), as[j]? = some a → ∃ x1 x2, P1 j x1 ∧ P2 j x2 ∧ h.get? a = some { cls := .type "tuple", data := .seq #[x1, x2] }
theorem ZG.there {lo : Addr} {h : Heap} {as : List Addr} (g : ZG P1 P2 lo h as) {a : Addr} (ha : a ∈ as) : a < h.objs.size := by
  obtain ⟨j, hj⟩ := List.mem_iff_getElem?.mp ha
  obtain ⟨_, _, _, _, e⟩ := g.pairs j a hj
  exact Heap.lt_size e
theorem zl_loop {R : Result → Shared → Prop} {h₁ : Heap} (S : ZipSep2 z TI TO i1 i2 fp1 fp2) (D1 : Draws prog w A.in1.in1 i1 fp1 n1 P1 St1) (D2 : Draws prog w A.in1.in1 i2 fp2 n2 P2 St2) (hn : min n1 n2 ≤ sizeLine) (res : Value)
    (zL : z < L) (TIL : TI < L) (TOL : TO < L) (i1L : i1 < L) (i2L : i2 < L) (f1 : L ∉ fp1) (f2 : L ∉ fp2)
    (hR : ∀ h' tk acc c as, (∀ b o, b ≠ L → b ≠ z → b ≠ TO → b ≠ i1 → b ≠ i2 → h₁.get? b = some o → h'.get? b = some o) → h'.get? L = some { cls := .type "list", dict := none, data := .seq acc c, slots := #[] } → as.length = min n1 n2 → ZG P1 P2 L h' as →
      acc.toList = as.map Value.ref → R (.ok (.ret res)) { s with heap := h', toks := tk }) :
    ∀ (k i : Nat) (h : Heap) (tk c : Nat) (acc : Array Value) (as : List Addr), min n1 n2 - i = k → i ≤ min n1 n2 → ZSt h z TI TO i1 i2 L i → St1 i h → St2 i h → (∀ b o, b ≠ L → b ≠ z → b ≠ TO → b ≠ i1 → b ≠ i2 → h₁.get? b = some o → h.get? b = some o) →
      h.get? L = some { cls := .type "list", dict := none, data := .seq acc c, slots := #[] } → acc.toList = as.map Value.ref → as.length = i → ZG P1 P2 L h as →
      codeAny (model prog w) A (.builtin "list.extend.loop" ⟨[.ref L, .ref z, res], []⟩) R { s with heap := h, toks := tk } := by
  have nz : L ≠ z := Nat.ne_of_gt zL
  have nT : L ≠ TO := Nat.ne_of_gt TOL
  have n1' : L ≠ i1 := Nat.ne_of_gt i1L
  have n2' : L ≠ i2 := Nat.ne_of_gt i2L
  have ab : ∀ {x b : Addr}, x < L → L < b → b ≠ x := fun h1 h2 => Nat.ne_of_gt (Nat.lt_trans h1 h2)
  intro k
  induction k with
  | zero =>
    intro i h tk c acc as hk hi hst st1 st2 hkeep hS hacc hal hG
    refine codeAny_builtin PySem.F.entry_extend_loop ?_
    rw [Around.under_plainId PySem.F.plain_extend_loop _]
    show wpAny _ A.in1 (pyNext (.ref z) >>= _) _ _ _
    refine wpAny_bind (zl_end (s := { s with heap := h, toks := tk }) (A := A.in1) S D1 D2 hst st1 st2 (by omega) (by omega) (by omega) fun h' tk' he => ?_)
    have up : ∀ b o, L < b → h.get? b = some o → h'.get? b = some o := fun b o hb e => he b o (ab zL hb) (ab TOL hb) (ab i1L hb) (ab i2L hb) e
    refine wpAny_pure (hR h' tk' acc c as (fun b o h0 h1 h2 h3 h4 e => he b o h1 h2 h3 h4 (hkeep b o h0 h1 h2 h3 h4 e)) (he L _ nz nT n1' n2' hS) (by omega) ⟨hG.rise, hG.above, fun j a hj => ?_⟩ hacc)
    obtain ⟨x1, x2, e1, e2, e3⟩ := hG.pairs j a hj
    exact ⟨x1, x2, e1, e2, up a _ (hG.above a (List.mem_of_getElem? hj)) e3⟩
  | succ k ih =>
    intro i h tk c acc as hk hi hst st1 st2 hkeep hS hacc hal hG
    have hsz : acc.size = i := by rw [← Array.length_toList, hacc, List.length_map, hal]
    have hSl : L < h.objs.size := Heap.lt_size hS
    refine codeAny_builtin PySem.F.entry_extend_loop ?_
    rw [Around.under_plainId PySem.F.plain_extend_loop _]
    show wpAny _ A.in1 (pyNext (.ref z) >>= _) _ _ _
    refine wpAny_bind (zl_item (s := { s with heap := h, toks := tk }) (A := A.in1) S D1 D2 hst hSl st1 st2 (by omega) (by omega) fun x1 x2 h' tk' p1 p2 hst' s1 s2 ht hz hkp => ?_)
    dsimp only at ht hz hkp ⊢
    have hS' := hkp L _ nz nT n1' n2' hS
    have sb : Heap.SameBut L h' (h'.update L (Obj.mapSeq (·.push (Value.ref h.objs.size)))) := Heap.SameBut.update ..
    have up : ∀ b o, b ≠ L → h'.get? b = some o → (h'.update L (Obj.mapSeq (·.push (Value.ref h.objs.size)))).get? b = some o := fun b o hb e => (Heap.get?_update_other _ _ (Ne.symm hb)).trans e
    show wpAny _ A.in1 (updateSeq L (·.push (Value.ref h.objs.size)) >>= _) _ _ _
    refine wpAny_bind ?_
    refine wpAny_updateSeq hS' rfl (wpAny_pure ⟨plainId_quiet PySem.F.plain_extend_loop _, ih (i + 1) _ tk' _ (acc.push (Value.ref h.objs.size)) (as ++ [h.objs.size]) (by omega) (by omega) (hst'.keep ⟨Nat.ne_of_lt zL, Nat.ne_of_lt TIL, Nat.ne_of_lt TOL⟩ up) (D1.over s1 sb f1) (D2.over s2 sb f2)
      (fun b o h0 h1 h2 h3 h4 e => up b o h0 (hkp b o h1 h2 h3 h4 (hkeep b o h0 h1 h2 h3 h4 e))) (Heap.get?_update_self _ hS' rfl) (by rw [Array.toList_push, hacc, List.map_append]; rfl) (by rw [List.length_append, hal]; rfl) ⟨?_, ?_, ?_⟩⟩) (by rw [hsz]; omega) (by show (acc.push (Value.ref h.objs.size)).size ≤ sizeLine + 1; rw [Array.size_push, hsz]; omega)
    · refine List.pairwise_append.mpr ⟨hG.rise, List.pairwise_singleton _ _, fun a ha b hb => ?_⟩
      rw [List.mem_singleton.mp hb]
      exact hG.there ha
    · intro a ha
      rcases List.mem_append.mp ha with ha | ha
      · exact hG.above a ha
      · rw [List.mem_singleton.mp ha]; exact hSl
    · intro j b hj
      rcases Nat.lt_trichotomy j as.length with h1 | h1 | h1
      · rw [List.getElem?_append_left h1] at hj
        obtain ⟨y1, y2, e1, e2, e3⟩ := hG.pairs j b hj
        have hb := hG.above b (List.mem_of_getElem? hj)
        exact ⟨y1, y2, e1, e2, up b _ (Nat.ne_of_gt hb) (hkp b _ (ab zL hb) (ab TOL hb) (ab i1L hb) (ab i2L hb) e3)⟩
      · subst h1
        have hb : h.objs.size = b := by simpa using hj
        subst hb
        exact ⟨x1, x2, by rw [hal]; exact p1, by rw [hal]; exact p2, up _ _ (Nat.ne_of_gt hSl) ht⟩
      · have hnone : (as ++ [h.objs.size])[j]? = none := List.getElem?_eq_none (by rw [List.length_append, List.length_singleton]; omega)
        rw [hnone] at hj; cases hj
theorem zl_len : typeLookup (.type "zip") "__len__" = pure none := by rw [typeLookup_type, builtinLookup_eq_fast]; kernel_rfl
theorem zl_lh : typeLookup (.type "zip") "__length_hint__" = pure none := by rw [typeLookup_type, builtinLookup_eq_fast]; kernel_rfl
theorem zl_extend {R : Result → Shared → Prop} (S : ZipSep2 z TI TO i1 i2 fp1 fp2) (D1 : Draws prog w A.in1.in1 i1 fp1 n1 P1 St1) (D2 : Draws prog w A.in1.in1 i2 fp2 n2 P2 St2) (hn : min n1 n2 ≤ sizeLine) (res : Value)
    (zL : z < L) (TIL : TI < L) (TOL : TO < L) (i1L : i1 < L) (i2L : i2 < L) (f1 : L ∉ fp1) (f2 : L ∉ fp2) (c₀ : Nat) (hS : s.heap.get? L = some { cls := .type "list", data := .seq #[] c₀ })
    (hz : IsZip s.heap z TI TO .none) (hTI : IsTupOf2 s.heap TI (.ref i1) (.ref i2)) (hTO : ∃ a b, IsTupOf2 s.heap TO a b) (st1 : St1 0 s.heap) (st2 : St2 0 s.heap)
    (hR : ∀ h' tk acc c as, (∀ b o, b ≠ L → b ≠ z → b ≠ TO → b ≠ i1 → b ≠ i2 → s.heap.get? b = some o → h'.get? b = some o) → h'.get? L = some { cls := .type "list", dict := none, data := .seq acc c, slots := #[] } → as.length = min n1 n2 → ZG P1 P2 L h' as →
      acc.toList = as.map Value.ref → R (.ok (.ret res)) { s with heap := h', toks := tk }) :
    wpAny (model prog w) A.in1 (Builtin.List.listExtendWith (.ref L) (.ref z) res)
      (fun fin s' => match fin with | .done f => R (.ok f) s' | .again c' => c'.quiet = true ∧ codeAny (model prog w) A c' R s') (fun e s' => R (.error e) s') s := by
  have key : ∀ (h : Heap) (c₁ tk : Nat), Heap.SameBut L s.heap h → h.get? L = some { cls := .type "list", data := .seq #[] c₁ } → codeAny (model prog w) A (.builtin "list.extend.loop" ⟨[.ref L, .ref z, res], []⟩) R { s with heap := h, toks := tk } := by
    intro h c₁ tk sb hS₁
    have hk : ∀ b o, b ≠ L → s.heap.get? b = some o → h.get? b = some o := fun b o hb e => sb.extBut _ _ hb e
    have hst : ZSt s.heap z TI TO i1 i2 L 0 := ⟨hTI, hTO, .inl hz⟩
    exact zl_loop (s := s) (h₁ := s.heap) S D1 D2 hn res zL TIL TOL i1L i2L f1 f2 hR (min n1 n2) 0 h tk c₁ #[] [] (Nat.sub_zero _) (Nat.zero_le _) (hst.keep ⟨Nat.ne_of_lt zL, Nat.ne_of_lt TIL, Nat.ne_of_lt TOL⟩ hk) (D1.over st1 sb f1) (D2.over st2 sb f2)
      (fun b o h0 _ _ _ _ e => hk b o h0 e) hS₁ rfl rfl ⟨List.Pairwise.nil, (fun _ ha => nomatch ha), (fun j a hj => by simp at hj)⟩
  have hT : s.TypeIs (.ref z) "zip" := ⟨_, hz, rfl⟩
  unfold Builtin.List.listExtendWith
  refine wpAny_bind (wpAny_typeOf (T := "zip") hT ?_)
  have h1 : Builtin.List.listSameRef (.ref L) (.ref z) = false := by simp [Builtin.List.listSameRef, Nat.ne_of_gt zL]
  have h2 : (Value.type "zip" == Value.type "list") = false := by decide
  have h3 : (Value.type "zip" == Value.type "tuple") = false := by decide
  simp only [h1, h2, h3, Bool.or_false, Bool.false_eq_true, if_false]
  refine wpAny_bind (wpAny_pyIter_zip hz ?_)
  refine wpAny_bind (wpAny_holding ?_)
  unfold Builtin.List.listLengthHint
  refine wpAny_bind (wpAny_specialOf hT zl_len ?_)
  show wpAny _ A.in1 (specialOf (Value.ref z) (Str.ofString "__length_hint__") >>= _) _ _ _
  refine wpAny_bind (wpAny_specialOf hT zl_lh ?_)
  refine wpAny_pure ?_
  show wpAny _ A.in1 (rule "list.extend.makes-room" >>= fun _ => Builtin.List.listTouch (.ref L) >>= fun _ => again (.builtin "list.extend.loop" ⟨[.ref L, .ref z, res], []⟩)) _ _ _
  refine wpAny_bind (wpAny_rule ?_)
  refine wpAny_bind ?_
  show wpAny _ A.in1 (updateSeq L (·.push .none) >>= fun _ => updateSeq L (·.pop)) _ _ _
  refine wpAny_bind (wpAny_updateSeq hS rfl ?_)
  have hS₂ := Heap.get?_update_self (Obj.mapSeq (·.push Value.none)) hS rfl
  refine wpAny_updateSeq (hz := by seq_fits) hS₂ rfl ?_
  have hS₃ := Heap.get?_update_self (Obj.mapSeq (·.pop)) hS₂ rfl
  have sb1 : Heap.SameBut L s.heap (s.heap.update L (Obj.mapSeq (·.push Value.none))) := Heap.SameBut.update ..
  have sb2 : Heap.SameBut L (s.heap.update L (Obj.mapSeq (·.push Value.none))) ((s.heap.update L (Obj.mapSeq (·.push Value.none))).update L (Obj.mapSeq (·.pop))) := Heap.SameBut.update ..
  exact wpAny_pure ⟨plainId_quiet PySem.F.plain_extend_loop _, key _ _ _ ⟨sb2.1.trans sb1.1, fun b hb => (sb2.2 b hb).trans (sb1.2 b hb)⟩ hS₃⟩
theorem zl_call {Q : Value → Shared → Prop} (S : ZipSep2 z TI TO i1 i2 fp1 fp2) (D1 : Draws prog w A.in1.in1.in1 i1 fp1 n1 P1 St1) (D2 : Draws prog w A.in1.in1.in1 i2 fp2 n2 P2 St2) (hn : min n1 n2 ≤ sizeLine)
    (f1 : ∀ b ∈ fp1, b < s.heap.objs.size) (f2 : ∀ b ∈ fp2, b < s.heap.objs.size)
    (hz : IsZip s.heap z TI TO .none) (hTI : IsTupOf2 s.heap TI (.ref i1) (.ref i2)) (hTO : ∃ a b, IsTupOf2 s.heap TO a b) (st1 : St1 0 s.heap) (st2 : St2 0 s.heap)
    (hQ : ∀ h' tk acc c as, (∀ b o, b ≠ z → b ≠ TO → b ≠ i1 → b ≠ i2 → s.heap.get? b = some o → h'.get? b = some o) → h'.get? s.heap.objs.size = some { cls := .type "list", dict := none, data := .seq acc c, slots := #[] } → as.length = min n1 n2 → ZG P1 P2 s.heap.objs.size h' as →
      acc.toList = as.map Value.ref → Q (.ref s.heap.objs.size) { s with heap := h', toks := tk }) :
    wpAny (model prog w) A (call (.type "list") [.ref z]) Q E s := by
  refine callType_codes (Q₁ := fun obj s₁ => obj = .ref s.heap.objs.size ∧ s₁ = { s with heap := s.heap.push { cls := .type "list", data := .seq #[] } }) PySem.F.called_list (PySem.F.typeCall_list_1 _) PySem.F.entry_list_init
    (code_list_new _ ⟨rfl, rfl⟩) fun obj s₁ h₁ => ?_
  obtain ⟨rfl, rfl⟩ := h₁
  have hS : (s.heap.push { cls := .type "list", data := .seq #[] }).get? s.heap.objs.size = some { cls := .type "list", data := .seq #[] } := Heap.get?_push_size _ rfl
  refine ⟨⟨_, hS, rfl⟩, PySem.F.args_list_init_2 _ _, ?_⟩
  have pk : ∀ {b o}, s.heap.get? b = some o → (s.heap.push { cls := .type "list", data := .seq #[] }).get? b = some o := fun e => Heap.get?_push_of_some _ e
  show wpAny _ _ (do let old ← Builtin.List.listItems (.ref s.heap.objs.size); Builtin.List.listUpdate (.ref s.heap.objs.size) (fun _ => #[]); letGo old.toList.reverse; Builtin.List.listExtendWith (.ref s.heap.objs.size) (.ref z) .none) _ _ _
  refine wpAny_bind ?_
  unfold Builtin.List.listItems
  refine wpAny_bind (wpAny_seqItems hS rfl (wpAny_pure ?_))
  show wpAny _ _ (updateSeq s.heap.objs.size (fun _ => #[]) >>= fun _ => letGo (#[] : Array Value).toList.reverse >>= fun _ => Builtin.List.listExtendWith (.ref s.heap.objs.size) (.ref z) .none) _ _ _
  refine wpAny_bind (wpAny_updateSeq hS rfl ?_)
  have hS₂ := Heap.get?_update_self (Obj.mapSeq (fun _ => (#[] : Array Value))) hS rfl
  have oth : ∀ b o, s.heap.get? b = some o → ((s.heap.push { cls := .type "list", data := .seq #[] }).update s.heap.objs.size (Obj.mapSeq (fun _ => (#[] : Array Value)))).get? b = some o :=
    fun b o e => (Heap.get?_update_other _ _ (Ne.symm (Nat.ne_of_lt (Heap.lt_size e)))).trans (pk e)
  refine wpAny_bind (wpAny_letGo ?_)
  obtain ⟨o1, e1⟩ := D1.live _ _ st1
  obtain ⟨o2, e2⟩ := D2.live _ _ st2
  obtain ⟨a, b, hTO'⟩ := hTO
  refine zl_extend (A := A.in1) (L := s.heap.objs.size) S D1 D2 hn .none (Heap.lt_size hz) (Heap.lt_size hTI) (Heap.lt_size hTO') (Heap.lt_size e1) (Heap.lt_size e2) (fun q => Nat.lt_irrefl _ (f1 _ q)) (fun q => Nat.lt_irrefl _ (f2 _ q)) _ hS₂ (oth _ _ hz) (oth _ _ hTI) ⟨a, b, oth _ _ hTO'⟩
    (D1.frame _ _ _ st1 fun b _ o e => oth b o e) (D2.frame _ _ _ st2 fun b _ o e => oth b o e) fun h' tk acc c as hk hS' hl hG hacc => ?_
  exact ⟨rfl, hQ h' tk acc c as (fun b o c1 c2 c3 c4 e => hk b o (Nat.ne_of_lt (Heap.lt_size e)) c1 c2 c3 c4 (oth b o e)) hS' hl hG hacc⟩
end
end VE

/-! Plain values, the small language, what it means. No machine here. -/
namespace VE

inductive D where
  | non
  | bl (b : Bool)
  | int (i : Int)
  | str (s : List Nat)
  | lst (xs : List D)
  | tup (xs : List D)
  | dic (ks vs : List D)
  | exc (c : Nat)
  | scr (ns : List Int)
deriving Inhabited

inductive Res (α : Type) where
  | ok (a : α)
  | err (c : Nat)
  | bad
deriving DecidableEq

namespace Res
def bind {α β : Type} : Res α → (α → Res β) → Res β
  | .ok a, f => f a
  | .err c, _ => .err c
  | .bad, _ => .bad
/-- an error within a comprehension: not served -/
def nox {α : Type} : Res α → Res α
  | .err _ => .bad
  | r => r
@[simp] theorem bind_ok {α β : Type} (a : α) (f : α → Res β) : (Res.ok a).bind f = f a := rfl
@[simp] theorem bind_err {α β : Type} (c : Nat) (f : α → Res β) : (Res.err c).bind f = .err c := rfl
@[simp] theorem bind_bad {α β : Type} (f : α → Res β) : (Res.bad : Res α).bind f = .bad := rfl
@[simp] theorem nox_ok {α : Type} (a : α) : (Res.ok a).nox = .ok a := rfl
end Res
open Res

abbrev big : Nat := 16777216

/-! ### equality and order of data -/
mutual
def eqv : D → D → Bool
  | .non, .non => true
  | .bl a, .bl b => a == b
  | .bl a, .int j => (if a then 1 else 0) == j
  | .int i, .bl b => i == (if b then 1 else 0)
  | .int i, .int j => i == j
  | .str x, .str y => x == y
  | .lst xs, .lst ys => eqvs xs ys
  | .tup xs, .tup ys => eqvs xs ys
  | _, _ => false
def eqvs : List D → List D → Bool
  | [], [] => true
  | x :: xs, y :: ys => eqv x y && eqvs xs ys
  | _, _ => false
end
mutual
/-- no dict, no error within -/
def plain : D → Bool
  | .non => true
  | .bl _ => true
  | .int _ => true
  | .str _ => true
  | .lst xs => plains xs
  | .tup xs => plains xs
  | .dic _ _ => false
  | .exc _ => false
  | .scr _ => false
def plains : List D → Bool
  | [] => true
  | x :: xs => plain x && plains xs
end
mutual
def deep : D → Nat
  | .lst xs => deeps xs + 1
  | .tup xs => deeps xs + 1
  | _ => 0
def deeps : List D → Nat
  | [] => 0
  | x :: xs => max (deep x) (deeps xs)
end
mutual
/-- comparable by <, place by place -/
def alike : D → D → Bool
  | .bl _, .bl _ => true
  | .int _, .int _ => true
  | .str _, .str _ => true
  | .lst xs, .lst ys => alikes xs ys
  | .tup xs, .tup ys => alikes xs ys
  | _, _ => false
def alikes : List D → List D → Bool
  | x :: xs, y :: ys => alike x y && alikes xs ys
  | _, _ => true
end
mutual
def ltD : D → D → Bool
  | .bl a, .bl b => !a && b
  | .int i, .int j => decide (i < j)
  | .str x, .str y => decide (x < y)
  | .lst xs, .lst ys => ltDs xs ys
  | .tup xs, .tup ys => ltDs xs ys
  | _, _ => false
def ltDs : List D → List D → Bool
  | [], [] => false
  | [], _ :: _ => true
  | _ :: _, [] => false
  | x :: xs, y :: ys => if eqv x y then ltDs xs ys else ltD x y
end
def leD (x y : D) : Bool := !ltD y x
def ins {α : Type} (le : α → α → Bool) (x : α) : List α → List α
  | [] => [x]
  | y :: r => if le x y then x :: y :: r else y :: ins le x r
def isort {α : Type} (le : α → α → Bool) : List α → List α
  | [] => []
  | x :: r => ins le x (isort le r)
/-- each once, the last of like ones -/
def dedup : List D → List D
  | [] => []
  | x :: r => if r.any (eqv x) then dedup r else x :: dedup r

/-! ### the language -/
inductive Op | add | sub | mul | fdiv | mod
deriving DecidableEq
inductive COp | eq | ne | lt | le | gt | ge | is | isnot | inn | notin
deriving DecidableEq
inductive B1 | len | all | any | sum | sorted | sortset | lenset | list | tuple | dict | int | str | max | min
deriving DecidableEq
inductive B2 | max | min
deriving DecidableEq
inductive Ty | str | int | bool | list | tuple
deriving DecidableEq
inductive M1 | join | count | index | split | part
deriving DecidableEq
inductive M2 | find | get
deriving DecidableEq
inductive Tg | nm (i : Nat) | tp (is : List Nat)
deriving DecidableEq
/-- a local's kind: any value; an object that this def alone knows; one that is lent; any value, a dict being one that nobody changes -/
inductive Kd | ord | own | bor | fz
deriving DecidableEq

mutual
inductive E where
  | c (d : D)
  | v (i : Nat)
  | tup (es : Es)
  | lst (es : Es)
  | dnew (t : Bool)
  | bin (op : Op) (a b : E)
  | neg (a : E)
  | cmp (op : COp) (a b : E)
  | cmp2 (o p : COp) (a b c : E)
  | and (es : Es)
  | or (es : Es)
  | not (a : E)
  | ite (t a b : E)
  | call (f : Nat) (es : Es)
  | sel (fs : List Nat) (k : E) (es : Es)
  | b1 (f : B1) (a : E)
  | b2 (f : B2) (a b : E)
  | isi (a : E) (ts : List Ty)
  | m1 (m : M1) (o a : E)
  | m2 (m : M2) (o a b : E)
  | ix (a b : E)
  | kix (ss : List (List Nat)) (a : E)
  | dsp (k a : E)
  | zl (a b : E)
  | vb (f : B1) (a : E)
  | sl (a : E) (lo hi : Eo)
  | rev (a : E)
  | lc (tg : Tg) (src : Src) (cnd : Eo) (elt : E)
inductive Es where
  | nil
  | cons (e : E) (es : Es)
inductive Eo where
  | no
  | yes (e : E)
inductive Src where
  | e (a : E)
  | r1 (a : E)
  | r2 (a b : E)
  | enum (a : E)
  | zip (a b : E)
  | keys (a : E)
  | vals (a : E)
  | itms (a : E)
end
mutual
inductive S where
  | asg (i : Nat) (e : E)
  | asgo (i : Nat) (e : E)
  | mv (i j : Nat)
  | unp (is : List Nat) (e : E)
  | par (is : List Nat) (es : Es)
  | app (i : Nat) (e : E)
  | appo (i j : Nat)
  | ext (i : Nat) (e : E)
  | put (i : Nat) (k e : E)
  | dpop (i : Nat) (k : E)
  | pop0 (j i : Nat)
  | ex (e : E)
  | ret (e : E)
  | retN
  | ite (c : E) (a b : Ss)
  | for_ (tg : Tg) (src : Src) (b : Ss)
  | whl (c : E) (b : Ss)
  | grp (i t : Nat) (src : Src) (k : E)
  | rse (c : Nat)
  | pass
inductive Ss where
  | nil
  | cons (s : S) (ss : Ss)
end
structure FDef where
  np : Nat
  kds : List Kd
  fresh : Bool
  body : Ss

/-! ### operations -/
def CMulB (i j : Int) : Bool := decide ((-(2 ^ 64) < i ∧ i < 2 ^ 64) ∨ (-(2 ^ 64) < j ∧ j < 2 ^ 64))
def rep {α : Type} (k : Nat) (xs : List α) : List α := (List.replicate k xs).flatten
def opD : Op → D → D → Res D
  | .add, .int i, .int j => ok (.int (i + j))
  | .add, .str a, .str b => if a.length + b.length ≤ big then ok (.str (a ++ b)) else bad
  | .add, .lst a, .lst b => if a.length + b.length ≤ big then ok (.lst (a ++ b)) else bad
  | .add, .tup a, .tup b => if a.length + b.length ≤ big then ok (.tup (a ++ b)) else bad
  | .sub, .int i, .int j => ok (.int (i - j))
  | .mul, .int i, .int j => if CMulB i j then ok (.int (i * j)) else bad
  | .mul, .str a, .int k => if a.length * k.toNat ≤ big ∧ k < 2 ^ 62 ∧ -(2 ^ 62) ≤ k then ok (.str (rep k.toNat a)) else bad
  | .mul, .lst a, .int k => if a.length * k.toNat ≤ big ∧ k < 2 ^ 62 ∧ -(2 ^ 62) ≤ k then ok (.lst (rep k.toNat a)) else bad
  | .mul, .tup a, .int k => if 1 ≤ a.length ∧ 2 ≤ k ∧ k ≤ 1000 ∧ a.length ≤ 1000 then ok (.tup (rep k.toNat a)) else bad
  | .fdiv, .int i, .int j => if 0 < j ∧ j < 1073741824 then ok (.int (i / j)) else bad
  | .mod, .int i, .int j => if 0 < j then ok (.int (i % j)) else bad
  | _, _, _ => bad
def eqScr : D → D → Option Bool
  | .scr ns, .lst [] => some ns.isEmpty
  | _, _ => none
def eqD (x y : D) : Res Bool := match eqScr x y with
  | some b => ok b
  | none => if plain x && plain y && decide (min (deep x) (deep y) ≤ 60) then ok (eqv x y) else bad
def isNon : D → Bool
  | .non => true
  | _ => false
def keyEq : D → D → Bool
  | .int i, .int j => i == j
  | .str s, .str t => s == t
  | _, _ => false
def isKey : D → Bool
  | .str _ => true
  | .int _ => true
  | _ => false
def dget (k : D) : List D → List D → Option D
  | x :: ks, v :: vs => if keyEq x k then some v else dget k ks vs
  | _, _ => none
/-- a text of one sign -/
def sign : D → Option Nat
  | .str [c] => some c
  | _ => none
theorem sign_eq {x : D} {c : Nat} (h : sign x = some c) : x = .str [c] := by
  unfold sign at h
  split at h
  · cases h; rfl
  · cases h
def inD (x : D) : D → Res Bool
  | .str s => match sign x with
    | some c => ok (decide (c ∈ s))
    | none => bad
  | .lst ds => if plain x && plains ds && decide (min (deeps ds) (deep x) ≤ 60) then ok (ds.any fun y => eqv y x) else bad
  | .tup ds => if plain x && plains ds && decide (min (deeps ds) (deep x) ≤ 60) then ok (ds.any fun y => eqv y x) else bad
  | .dic ks vs => if isKey x then ok (dget x ks vs).isSome else bad
  | _ => bad
def isD (x : D) : D → Res Bool
  | .non => ok (isNon x)
  | .bl b => match x with
    | .bl a => ok (a == b)
    | _ => bad
  | _ => bad
def mapB (f : Bool → Bool) : Res Bool → Res D
  | .ok b => ok (.bl (f b))
  | .err c => .err c
  | .bad => bad
/-- < <= > >= of data that are alike -/
def ordQ (o : COp) (x y : D) : Res D := if (alike x y && alike y x) && (plain x && plain y) && decide (min (deep x) (deep y) ≤ 60) then (match o with
    | .lt => ok (.bl (ltD x y))
    | .le => ok (.bl (!ltD y x))
    | .gt => ok (.bl (ltD y x))
    | .ge => ok (.bl (!ltD x y))
    | _ => bad) else bad
def ordD (o : COp) : D → D → Res D
  | .int i, .int j => match o with
    | .lt => ok (.bl (decide (i < j)))
    | .le => ok (.bl (decide (i ≤ j)))
    | .gt => ok (.bl (decide (j < i)))
    | .ge => ok (.bl (decide (j ≤ i)))
    | _ => bad
  | .str x, .str y => match o with
    | .lt => ok (.bl (decide (x < y)))
    | .le => ok (.bl (!decide (y < x)))
    | .gt => ok (.bl (decide (y < x)))
    | .ge => ok (.bl (!decide (x < y)))
    | _ => bad
  | .lst xs, .lst ys => ordQ o (.lst xs) (.lst ys)
  | .tup xs, .tup ys => ordQ o (.tup xs) (.tup ys)
  | _, _ => bad
def cmpD : COp → D → D → Res D
  | .eq, x, y => mapB id (eqD x y)
  | .ne, x, y => mapB (!·) (eqD x y)
  | .is, x, y => mapB id (isD x y)
  | .isnot, x, y => mapB (!·) (isD x y)
  | .inn, x, y => mapB id (inD x y)
  | .notin, x, y => mapB (!·) (inD x y)
  | o, x, y => ordD o x y
def ixN (n : Nat) (i : Int) : Option Nat := if 0 ≤ i then (if i < n then some i.toNat else none) else if -(n : Int) ≤ i then some (i + n).toNat else none
def atI {α : Type} (xs : List α) (i : Int) : Option α := (ixN xs.length i).bind fun j => xs[j]?
def ofO {α : Type} : Option α → Res α
  | some a => ok a
  | none => bad
def ixD : D → D → Res D
  | .lst xs, .int i => ofO (atI xs i)
  | .scr ns, .int i => ofO ((atI ns i).map .int)
  | .tup xs, .int i => ofO (atI xs i)
  | .str s, .int i => ofO ((atI s i).map fun c => .str [c])
  | .dic ks vs, k => if isKey k then ofO (dget k ks vs) else bad
  | _, _ => bad
def sIx (n d : Nat) : Option Int → Nat
  | none => d
  | some i => if i < 0 then (i + n).toNat else min i.toNat n
def cut {α : Type} (xs : List α) (lo hi : Option Int) : List α := (xs.drop (sIx xs.length 0 lo)).take (sIx xs.length xs.length hi - sIx xs.length 0 lo)
def slD (lo hi : Option Int) : D → Res D
  | .lst xs => ok (.lst (cut xs lo hi))
  | .tup xs => ok (.tup (cut xs lo hi))
  | .str s => ok (.str (cut s lo hi))
  | _ => bad
def revD : D → Res D
  | .lst xs => ok (.lst xs.reverse)
  | .tup xs => ok (.tup xs.reverse)
  | .str s => ok (.str s.reverse)
  | _ => bad
def isStr : D → Bool
  | .str _ => true
  | _ => false
def isInt : D → Bool
  | .int _ => true
  | _ => false
def bools : List D → Option (List Bool)
  | [] => some []
  | .bl b :: r => (bools r).map (b :: ·)
  | _ :: _ => none
def intsD : List D → Option (List Int)
  | [] => some []
  | .int i :: r => (intsD r).map (i :: ·)
  | _ :: _ => none
def strsD : List D → Option (List (List Nat))
  | [] => some []
  | .str s :: r => (strsD r).map (s :: ·)
  | _ :: _ => none
/-- all can be compared with each other -/
def sortable (ds : List D) : Bool :=
  (ds.all fun x => ds.all fun y => alike x y) && decide (deeps ds ≤ 60) &&
  ((ds.all fun x => match x with | .tup (_ :: _) => true | _ => false) || (ds.all fun x => match x with | .tup _ => false | _ => true))
def itemsOf : D → Option (List D)
  | .lst xs => some xs
  | .tup xs => some xs
  | .str s => some (s.map fun c => .str [c])
  | _ => none
/-- what enumerate and zip take so far -/
def itemsE : D → Option (List D)
  | .lst xs => some xs
  | .tup xs => some xs
  | .str s => some (s.map fun c => .str [c])
  | _ => none
/-- the first of the greatest | of the least -/
def best (lt : D → D → Bool) (x : D) : List D → D
  | [] => x
  | y :: r => best lt (if lt x y then y else x) r
/-- the value at a key, in its place -/
def zipV (k v : D) : List D → List D → List D
  | x :: ks, w :: vs => (if keyEq x k then v else w) :: zipV k v ks vs
  | _, _ => []
/-- in its place, or at the end -/
def dput (k v : D) (ks vs : List D) : List D × List D := if ks.any (fun x => keyEq x k) then (ks, zipV k v ks vs) else (ks ++ [k], vs ++ [v])
def dropKs (k : D) : List D → List D → List D
  | x :: ks, _ :: vs => if keyEq x k then dropKs k ks vs else x :: dropKs k ks vs
  | _, _ => []
def dropVs (k : D) : List D → List D → List D
  | x :: ks, w :: vs => if keyEq x k then dropVs k ks vs else w :: dropVs k ks vs
  | _, _ => []
def merge : List D → List D × List D → Option (List D × List D)
  | [], acc => some acc
  | .tup [k, v] :: r, acc => if isKey k then merge r (dput k v acc.1 acc.2) else none
  | _ :: _, _ => none
def digit : List Nat → Option Int
  | [c] => if 48 ≤ c ∧ c ≤ 57 then some ((c : Int) - 48) else none
  | _ => none
def b1D : B1 → D → Res D
  | .len, .str s => ok (.int s.length)
  | .len, .lst xs => ok (.int xs.length)
  | .len, .tup xs => ok (.int xs.length)
  | .len, .dic ks _ => ok (.int ks.length)
  | .len, .scr ns => ok (.int ns.length)
  | .all, .lst xs => ofO ((bools xs).map fun bs => .bl (bs.all id))
  | .any, .lst xs => ofO ((bools xs).map fun bs => .bl (bs.any id))
  | .sum, .lst xs => ofO ((intsD xs).map fun ns => .int ns.sum)
  | .sorted, .lst xs => if sortable xs then ok (.lst (isort leD xs)) else bad
  | .sorted, .dic ks _ => if ks.all isStr && decide (ks.length < 64) then ok (.lst (isort leD ks)) else bad
  | .sortset, .lst xs => if (xs.all isStr || xs.all isInt) && decide (xs.length ≤ 4000) then ok (.lst (isort leD (dedup xs))) else bad
  | .sortset, .str s => if s.length ≤ 4000 then ok (.lst (isort leD (dedup (s.map fun c => .str [c])))) else bad
  | .lenset, .lst xs => if (xs.all isStr || xs.all isInt) && decide (xs.length ≤ 4000) then ok (.int (dedup xs).length) else bad
  | .lenset, .str s => if s.length ≤ 4000 then ok (.int (dedup (s.map fun c => .str [c])).length) else bad
  | .list, .lst xs => ok (.lst xs)
  | .list, .tup xs => ok (.lst xs)
  | .tuple, .lst xs => ok (.tup xs)
  | .tuple, .tup xs => ok (.tup xs)
  | .dict, .lst xs => ofO ((merge xs ([], [])).map fun p => .dic p.1 p.2)
  | .dict, .tup xs => ofO ((merge xs ([], [])).map fun p => .dic p.1 p.2)
  | .int, .bl b => ok (.int (if b then 1 else 0))
  | .int, .int i => ok (.int i)
  | .int, .str s => ofO ((digit s).map .int)
  | .str, .int i => if 0 ≤ i ∧ i < 10 then ok (.str [48 + i.toNat]) else bad
  | .max, .lst (x :: xs) => if sortable (x :: xs) then ok (best ltD x xs) else bad
  | .min, .lst (x :: xs) => if sortable (x :: xs) then ok (best (fun a b => ltD b a) x xs) else bad
  | _, _ => bad
def b2D : B2 → D → D → Res D
  | .max, .int i, .int j => ok (.int (if j > i then j else i))
  | .min, .int i, .int j => ok (.int (if j < i then j else i))
  | _, _, _ => bad
def isTy : Ty → D → Bool
  | .str, .str _ => true
  | .int, .int _ => true
  | .int, .bl _ => true
  | .bool, .bl _ => true
  | .list, .lst _ => true
  | .tuple, .tup _ => true
  | _, _ => false
def isiD (ts : List Ty) : D → Res D
  | .exc _ => bad
  | .dic _ _ => bad
  | .scr _ => bad
  | d => ok (.bl (ts.any fun t => isTy t d))
/-- the place in a constant tuple of texts -/
def kixD (ss : List (List Nat)) : D → Res D
  | .str s => if s ∈ ss then ok (.int (ss.idxOf s : Nat)) else bad
  | _ => bad
def joinL (sep : List Nat) : List (List Nat) → List Nat
  | [] => []
  | [x] => x
  | x :: r => x ++ sep ++ joinL sep r
def findAt (c : Nat) : List Nat → Nat → Option Nat
  | [], _ => none
  | x :: r, k => if x = c then some k else findAt c r (k + 1)
def idxD (x : D) : List D → Nat → Option Nat
  | [], _ => none
  | y :: r, k => if eqv y x then some k else idxD x r (k + 1)
def splitL (s : Nat) : List Nat → List Nat → List (List Nat)
  | [], acc => [acc]
  | c :: r, acc => if c = s then acc :: splitL s r [] else splitL s r (acc ++ [c])
def partL (s : Nat) : List Nat → List Nat → Option (List Nat × List Nat)
  | [], _ => none
  | c :: r, acc => if c = s then some (acc, r) else partL s r (acc ++ [c])
def dataIn (xs : List D) (x : D) : Bool := plain x && plains xs && decide (min (deeps xs) (deep x) ≤ 60)
def m1D : M1 → D → D → Res D
  | .join, .str sep, .lst xs => match strsD xs with
    | some ys => if (ys.map List.length).sum + sep.length * ys.length ≤ big then ok (.str (joinL sep ys)) else bad
    | none => bad
  | .count, .str s, x => (ofO (sign x)).bind fun c => ok (.int (s.count c))
  | .count, .lst xs, x => if dataIn xs x then ok (.int (xs.countP fun y => eqv y x)) else bad
  | .index, .str s, x => (ofO (sign x)).bind fun c => ofO ((findAt c s 0).map fun k : Nat => .int k)
  | .index, .lst xs, x => if dataIn xs x then ofO ((idxD x xs 0).map fun k : Nat => .int k) else bad
  | .index, .tup xs, x => if dataIn xs x then ofO ((idxD x xs 0).map fun k : Nat => .int k) else bad
  | .split, .str s, x => (ofO (sign x)).bind fun c => if s.length + 2 ≤ big then ok (.lst ((splitL c s []).map .str)) else bad
  | .part, .str s, x => (ofO (sign x)).bind fun c => match partL c s [] with
    | some (a, b) => ok (.tup [.str a, .str [c], .str b])
    | none => ok (.tup [.str s, .str [], .str []])
  | _, _, _ => bad
def m2D : M2 → D → D → D → Res D
  | .find, .str s, x, .int k => (ofO (sign x)).bind fun c => if 0 ≤ k then (match findAt c (s.drop k.toNat) k.toNat with
      | some j => ok (.int j)
      | none => ok (.int (-1))) else bad
  | .get, .dic ks vs, k, x => if isKey k then ok ((dget k ks vs).getD x) else bad
  | _, _, _, _ => bad

/-- whose method it can be -/
def rcv1 : M1 → D → Bool
  | _, .str _ => true
  | .count, .lst _ => true
  | .index, .lst _ => true
  | .index, .tup _ => true
  | _, _ => false
def rcv2 : M2 → D → Bool
  | .find, .str _ => true
  | .get, .dic _ _ => true
  | _, _ => false
/-! ### what it means -/
abbrev Env := List (Option D)
def Env.get (ρ : Env) (i : Nat) : Res D := match ρ[i]? with
  | some (some d) => ok d
  | _ => bad
def setAll : Env → List Nat → List D → Option Env
  | ρ, [], [] => some ρ
  | ρ, i :: is, d :: ds => setAll (ρ.set i (some d)) is ds
  | _, _, _ => none
def Tg.bind : Tg → D → Env → Option Env
  | .nm i, d, ρ => some (ρ.set i (some d))
  | .tp is, .tup ds, ρ => setAll ρ is ds
  | _, _, _ => none
def Tg.slots : Tg → List Nat
  | .nm i => [i]
  | .tp is => is
def wipes : List Nat → Env → Env
  | [], ρ => ρ
  | i :: is, ρ => (wipes is ρ).set i none
def lcGo (f : D → Res (Option D)) : List D → Res (List D)
  | [] => ok []
  | x :: r => (f x).bind fun o => (lcGo f r).bind fun ys => ok (match o with | some y => y :: ys | none => ys)
def rangeL (lo : Int) (n : Nat) : List D := (List.range n).map fun i : Nat => .int (lo + (i : Int))
def enumL (k : Nat) : List D → List D
  | [] => []
  | x :: r => .tup [.int k, x] :: enumL (k + 1) r
def zipL : List D → List D → List D
  | x :: xs, y :: ys => .tup [x, y] :: zipL xs ys
  | _, _ => []
/-- what zip takes so far -/
def zipD : D → D → Option (List D)
  | .lst xs, .lst ys => some (zipL xs ys)
  | .str s, .str t => some (zipL (s.map fun c => .str [c]) (t.map fun c => .str [c]))
  | _, _ => none
/-- what list(zip(..)) takes so far -/
def zlD : D → D → Res D
  | .str s, .lst ys => ok (.lst (zipL (s.map fun c => .str [c]) ys))
  | _, _ => bad
def dspD (k v : D) : Res D := if isKey k then ok (.dic [k] [v]) else bad
def keysOf : D → Option (List D)
  | .dic ks _ => some ks
  | _ => none
def valsOf : D → Option (List D)
  | .dic _ vs => some vs
  | _ => none
def itmsOf : D → Option (List D)
  | .dic ks vs => some (zipL ks vs)
  | _ => none
/-- a built-in of a dict's values -/
def vbD (f : B1) : D → Res D
  | .dic _ vs => (match f with
    | .sum => b1D .sum (.lst vs)
    | .max => (match intsD vs with
      | some (n :: ns) => ok (.int (ns.foldl max n))
      | _ => bad)
    | _ => bad)
  | _ => bad
/-- one more in the list at a key -/
def dapp (k v : D) : List D → List D → Option (List D × List D)
  | x :: ks, .lst vs :: r => if keyEq x k then some (x :: ks, .lst (vs ++ [v]) :: r) else (dapp k v ks r).map fun p => (x :: p.1, .lst vs :: p.2)
  | [], [] => some ([k], [.lst [v]])
  | _, _ => none
def asBool : D → Res Bool
  | .bl b => ok b
  | _ => bad
def asInt : D → Res Int
  | .int i => ok i
  | _ => bad
inductive Fl where
  | next (ρ : Env)
  | ret (d : D)
  | err (c : Nat) (ρ : Env)
  | bad

section
variable (cf : Nat → List D → Res D)
mutual
def ev : E → Env → Res D
  | .c d, _ => ok d
  | .v i, ρ => ρ.get i
  | .tup es, ρ => (evs es ρ).bind fun ds => ok (.tup ds)
  | .lst es, ρ => (evs es ρ).bind fun ds => ok (.lst ds)
  | .dnew _, _ => ok (.dic [] [])
  | .bin op a b, ρ => (ev a ρ).bind fun x => (ev b ρ).bind fun y => opD op x y
  | .neg a, ρ => (ev a ρ).bind fun x => (asInt x).bind fun i => ok (.int (-i))
  | .cmp op a b, ρ => (ev a ρ).bind fun x => (ev b ρ).bind fun y => cmpD op x y
  | .cmp2 o p a b c, ρ => (ev a ρ).bind fun x => (ev b ρ).bind fun y => (cmpD o x y).bind fun t => (asBool t).bind fun k =>
      if k then (ev c ρ).bind fun z => cmpD p y z else ok (.bl false)
  | .and es, ρ => evAnd es ρ
  | .or es, ρ => evOr es ρ
  | .not a, ρ => (ev a ρ).bind fun x => (asBool x).bind fun b => ok (.bl (!b))
  | .ite t a b, ρ => (ev t ρ).bind fun x => (asBool x).bind fun k => if k then ev a ρ else ev b ρ
  | .call f es, ρ => (evs es ρ).bind fun ds => cf f ds
  | .sel fs k es, ρ => (ev k ρ).bind fun x => (asInt x).bind fun i => (ofO (atI fs i)).bind fun f => (evs es ρ).bind fun ds => cf f ds
  | .b1 f a, ρ => (ev a ρ).bind fun x => b1D f x
  | .b2 f a b, ρ => (ev a ρ).bind fun x => (ev b ρ).bind fun y => b2D f x y
  | .isi a ts, ρ => (ev a ρ).bind fun x => isiD ts x
  | .m1 m o a, ρ => (ev o ρ).bind fun x => if rcv1 m x then (ev a ρ).bind fun y => m1D m x y else bad
  | .m2 m o a b, ρ => (ev o ρ).bind fun x => if rcv2 m x then (ev a ρ).bind fun y => (ev b ρ).bind fun z => m2D m x y z else bad
  | .ix a b, ρ => (ev a ρ).bind fun x => (ev b ρ).bind fun y => ixD x y
  | .kix ss a, ρ => (ev a ρ).bind fun x => kixD ss x
  | .dsp k a, ρ => (ev k ρ).bind fun x => (ev a ρ).bind fun y => dspD x y
  | .zl a b, ρ => (ev a ρ).bind fun x => (ev b ρ).bind fun y => zlD x y
  | .vb f a, ρ => (ev a ρ).bind fun x => vbD f x
  | .sl a lo hi, ρ => (ev a ρ).bind fun x => (evo lo ρ).bind fun l => (evo hi ρ).bind fun h => slD l h x
  | .rev a, ρ => (ev a ρ).bind fun x => revD x
  | .lc tg src cnd elt, ρ => (its src ρ).bind fun xs => (lcGo (fun x => match tg.bind x (wipes tg.slots ρ) with
      | some ρ' => ((evc cnd ρ').bind fun b => if b then (ev elt ρ').bind fun y => ok (some y) else ok none).nox
      | none => bad) xs).bind fun ys => ok (.lst ys)
def evs : Es → Env → Res (List D)
  | .nil, _ => ok []
  | .cons e es, ρ => (ev e ρ).bind fun d => (evs es ρ).bind fun ds => ok (d :: ds)
def evAnd : Es → Env → Res D
  | .nil, _ => bad
  | .cons e .nil, ρ => (ev e ρ).bind fun x => (asBool x).bind fun k => ok (.bl k)
  | .cons e es, ρ => (ev e ρ).bind fun x => (asBool x).bind fun k => if k then evAnd es ρ else ok (.bl false)
def evOr : Es → Env → Res D
  | .nil, _ => bad
  | .cons e .nil, ρ => (ev e ρ).bind fun x => (asBool x).bind fun k => ok (.bl k)
  | .cons e es, ρ => (ev e ρ).bind fun x => (asBool x).bind fun k => if k then ok (.bl true) else evOr es ρ
/-- a slice's part -/
def evo : Eo → Env → Res (Option Int)
  | .no, _ => ok none
  | .yes e, ρ => (ev e ρ).bind fun x => (asInt x).bind fun i => ok (some i)
/-- a comprehension's test -/
def evc : Eo → Env → Res Bool
  | .no, _ => ok true
  | .yes e, ρ => (ev e ρ).bind fun x => asBool x
/-- what is walked -/
def its : Src → Env → Res (List D)
  | .e a, ρ => (ev a ρ).bind fun x => ofO (itemsOf x)
  | .r1 a, ρ => (ev a ρ).bind fun x => (asInt x).bind fun j => if j ≤ 4000000 ∧ -4000000 ≤ j then ok (rangeL 0 j.toNat) else bad
  | .r2 a b, ρ => (ev a ρ).bind fun x => (ev b ρ).bind fun y => (asInt x).bind fun i => (asInt y).bind fun j =>
      if j ≤ 4000000 ∧ -4000000 ≤ j ∧ i ≤ 4000000 ∧ -4000000 ≤ i then ok (rangeL i (j - i).toNat) else bad
  | .enum a, ρ => (ev a ρ).bind fun x => (ofO (itemsE x)).bind fun xs => ok (enumL 0 xs)
  | .zip a b, ρ => (ev a ρ).bind fun x => (ev b ρ).bind fun y => ofO (zipD x y)
  | .keys a, ρ => (ev a ρ).bind fun x => ofO (keysOf x)
  | .vals a, ρ => (ev a ρ).bind fun x => ofO (valsOf x)
  | .itms a, ρ => (ev a ρ).bind fun x => ofO (itmsOf x)
end
def forGo (f : D → Env → Fl) : List D → Env → Fl
  | [], ρ => .next ρ
  | x :: r, ρ => match f x ρ with
    | .next ρ' => forGo f r ρ'
    | fl => fl
def whGo (c : Env → Res D) (f : Env → Fl) : Nat → Env → Fl
  | 0, _ => .bad
  | k + 1, ρ => match (c ρ).bind asBool with
    | .ok true => (match f ρ with
      | .next ρ' => whGo c f k ρ'
      | fl => fl)
    | .ok false => .next ρ
    | .err c => .err c ρ
    | .bad => .bad
/-- the words of a walk by a key, in lists -/
def grpGo (t : Nat) (f : Env → Res D) : List D → Env → List D → List D → Res (Env × List D × List D)
  | [], ρ, ks, vs => ok (ρ, ks, vs)
  | x :: r, ρ, ks, vs => (f (ρ.set t (some x))).bind fun k => if isKey k then (ofO (dapp k x ks vs)).bind fun p => grpGo t f r (ρ.set t (some x)) p.1 p.2 else bad
/-- a list or a dict -/
def isCtn : D → Bool
  | .lst _ => true
  | .dic _ _ => true
  | _ => false
def thn (r : Res D) (ρ : Env) (k : D → Fl) : Fl := match r with
  | .ok d => k d
  | .err c => .err c ρ
  | .bad => .bad
def whileMax : Nat := 100000
mutual
def exS : S → Env → Fl
  | .asg i e, ρ => thn (ev cf e ρ) ρ fun d => .next (ρ.set i (some d))
  | .asgo i e, ρ => thn (ev cf e ρ) ρ fun d => if isCtn d then .next (ρ.set i (some d)) else .bad
  | .mv i j, ρ => thn (ρ.get j) ρ fun d => .next ((ρ.set j none).set i (some d))
  | .unp is e, ρ => thn (ev cf e ρ) ρ fun d => match d with
    | .tup ds => (match setAll ρ is ds with
      | some ρ' => .next ρ'
      | none => .bad)
    | _ => .bad
  | .par is es, ρ => thn ((evs cf es ρ).bind fun ds => ok (.tup ds)) ρ fun d => match d with
    | .tup ds => (match setAll ρ is ds with
      | some ρ' => .next ρ'
      | none => .bad)
    | _ => .bad
  | .app i e, ρ => thn (ρ.get i) ρ fun l => match l with
    | .lst xs => thn (ev cf e ρ) ρ fun d => if xs.length < big then .next (ρ.set i (some (.lst (xs ++ [d])))) else .bad
    | _ => .bad
  | .appo i j, ρ => thn (ρ.get i) ρ fun l => match l with
    | .lst xs => thn (ρ.get j) ρ fun d => if xs.length < big then .next ((ρ.set j none).set i (some (.lst (xs ++ [d])))) else .bad
    | _ => .bad
  | .ext i e, ρ => thn (ρ.get i) ρ fun l => match l with
    | .lst xs => thn (ev cf e ρ) ρ fun d => (match d with
      | .lst ys => if xs.length + ys.length ≤ big then .next (ρ.set i (some (.lst (xs ++ ys)))) else .bad
      | _ => .bad)
    | _ => .bad
  | .put i k e, ρ => thn (ev cf e ρ) ρ fun d => thn (ρ.get i) ρ fun l => match l with
    | .dic ks vs => thn (ev cf k ρ) ρ fun x => if isKey x && decide (ks.length < big) then .next (ρ.set i (some (.dic (dput x d ks vs).1 (dput x d ks vs).2))) else .bad
    | _ => .bad
  | .dpop i k, ρ => thn (ρ.get i) ρ fun l => match l with
    | .dic ks vs => thn (ev cf k ρ) ρ fun x => if isKey x && (dget x ks vs).isSome then .next (ρ.set i (some (.dic (dropKs x ks vs) (dropVs x ks vs)))) else .bad
    | _ => .bad
  | .pop0 j i, ρ => thn (ρ.get i) ρ fun l => match l with
    | .lst (x :: xs) => .next ((ρ.set i (some (.lst xs))).set j (some x))
    | _ => .bad
  | .ex e, ρ => thn (ev cf e ρ) ρ fun _ => .next ρ
  | .ret e, ρ => thn (ev cf e ρ) ρ fun d => .ret d
  | .retN, _ => .ret .non
  | .ite c a b, ρ => thn (ev cf c ρ) ρ fun d => match d with
    | .bl true => exSs a ρ
    | .bl false => exSs b ρ
    | _ => .bad
  | .for_ tg src b, ρ => match its cf src ρ with
    | .ok xs => forGo (fun x ρ => match tg.bind x ρ with
      | some ρ' => exSs b ρ'
      | none => .bad) xs ρ
    | .err c => .err c ρ
    | .bad => .bad
  | .grp i t src k, ρ => match ρ.get i with
    | .ok (.dic [] []) => (match its cf src (ρ.set i none) with
      | .ok xs => (match grpGo t (fun ρ => ev cf k ρ) xs (ρ.set i none) [] [] with
        | .ok (ρ', ks, vs) => .next (ρ'.set i (some (.dic ks vs)))
        | _ => .bad)
      | _ => .bad)
    | _ => .bad
  | .whl c b, ρ => whGo (fun ρ => ev cf c ρ) (fun ρ => exSs b ρ) whileMax ρ
  | .rse c, ρ => .err c ρ
  | .pass, ρ => .next ρ
def exSs : Ss → Env → Fl
  | .nil, ρ => .next ρ
  | .cons s ss, ρ => match exS s ρ with
    | .next ρ' => exSs ss ρ'
    | fl => fl
end
end
def Fl.res : Fl → Res D
  | .next _ => ok .non
  | .ret d => ok d
  | .err c _ => .err c
  | .bad => .bad
def FDef.start (F : FDef) (ds : List D) : Env := ds.map some ++ List.replicate (F.kds.length - ds.length) none
def run (G : Nat → Option FDef) : Nat → Nat → List D → Res D
  | 0, _, _ => bad
  | n + 1, f, ds => match G f with
    | some F => if ds.length = F.np then (exSs (run G n) F.body (F.start ds)).res else bad
    | none => bad
end VE

/-! Plain values in the heap. -/
namespace VE
open PySem PySem.Spec PyProof.Rows L2

abbrev Frag := PySem.W.Frag
abbrev Sg := L2.St
abbrev mkS (l : List Nat) : PySem.Str := ⟨l.toArray⟩
def kD : Key → D
  | .inl i => .int i
  | .inr x => .str x.cps.toList
/-- a list that nobody changes -/
def SqF (K : Frag) (H : Hp) (a : Addr) (xs : List V) : Prop := (∃ o, H a = some (.frz o (.lst xs))) ∨ SqL K (fun _ => none) a xs
theorem SqF.sq {K : Frag} {H : Hp} {a : Addr} {xs : List V} (h : SqF K H a xs) : SqL K H a xs := by
  rcases h with ⟨o, h⟩ | h | h
  · exact .inl (.inr ⟨o, h⟩)
  · rcases h with h | ⟨o, h⟩ <;> cases h
  · exact .inr h
/-- a tuple's object, without a dict of its own -/
def PObj (o : Obj) : Prop := o.cls = .type "tuple" ∧ o.dict = none
/-- a tuple, its object known -/
def SqP (K : Frag) (H : Hp) (a : Addr) (xs : List V) : Prop := (∃ o, H a = some (.frz o (.tup xs)) ∧ PObj o) ∨
  ∃ (o : Obj) (its : Array Value) (n : Nat), K.lookup a = some o ∧ PObj o ∧ o.data = .seq its n ∧ its.size ≤ sizeLine ∧ Vals xs its.toList
theorem SqP.sq {K : Frag} {H : Hp} {a : Addr} {xs : List V} (h : SqP K H a xs) : SqT K H a xs := by
  rcases h with ⟨o, h, _⟩ | ⟨o, its, n, h1, h2, h3, h4, h5⟩
  · exact .inl (.inr ⟨o, h⟩)
  · exact .inr ⟨o, its, n, h1, h2.1, h3, h4, h5⟩
theorem SqP.of {K : Frag} {H : Hp} {a : Addr} {xs : List V} {o : Obj} (h : H a = some (.frz o (.tup xs))) (ho : PObj o) : SqP K H a xs := .inl ⟨o, h, ho⟩
/-- a dict's keys, none too long -/
structure KsOf (kvs : List (Key × V)) (ks : List D) : Prop where
  eq : kvs.map (fun p => kD p.1) = ks
  short : ∀ p ∈ kvs, ∀ x, p.1 = Sum.inr x → x.length ≤ sizeLine
mutual
def Rep (K : Frag) (H : Hp) (P : Addr → Prop) : D → V → Prop
  | .non, v => v = .non
  | .bl b, v => v = .bl b
  | .int i, v => v = .int i
  | .str s, v => v = .str (mkS s) ∧ s.length ≤ sizeLine
  | .lst ds, v => ∃ a xs, v = .ref a ∧ P a ∧ H a = some (.lst xs) ∧ Reps K H P ds xs
  | .tup ds, v => ∃ a xs, v = .ref a ∧ SqP K H a xs ∧ Reps K H P ds xs
  | .dic ks vs, v => ∃ a kvs, v = .ref a ∧ P a ∧ Rd H a (.dK kvs) ∧ KsOf kvs ks ∧ Reps K H P vs (kvs.map (·.2))
  | .exc _, _ => False
  | .scr ns, v => ∃ a, v = .ref a ∧ SqF K H a (ns.map V.int)
def Reps (K : Frag) (H : Hp) (P : Addr → Prop) : List D → List V → Prop
  | [], [] => True
  | d :: ds, v :: vs => Rep K H P d v ∧ Reps K H P ds vs
  | _, _ => False
end
/-- the same, whatever the object itself is -/
def Rep1 (K : Frag) (H : Hp) (P : Addr → Prop) : D → V → Prop
  | .lst ds, v => ∃ a xs, v = .ref a ∧ H a = some (.lst xs) ∧ Reps K H P ds xs
  | .dic ks vs, v => ∃ a kvs, v = .ref a ∧ Rd H a (.dK kvs) ∧ KsOf kvs ks ∧ Reps K H P vs (kvs.map (·.2))
  | d, v => Rep K H P d v
/-- an object that may be changed -/
def OwnAt (K : Frag) (H : Hp) (P : Addr → Prop) (a : Addr) : D → Prop
  | .lst ds => ∃ xs, H a = some (.lst xs) ∧ Reps K H P ds xs
  | .dic ks vs => ∃ kvs, H a = some (.dK kvs) ∧ KsOf kvs ks ∧ Reps K H P vs (kvs.map (·.2))
  | _ => False
/-- a new object, of which nobody else knows -/
def Fresh (K : Frag) (H H' : Hp) (P : Addr → Prop) (d : D) (v : V) : Prop := match d with
  | .lst _ => ∃ a, v = .ref a ∧ H a = none ∧ OwnAt K H' (fun b => P b ∧ b ≠ a) a d
  | .dic _ _ => ∃ a, v = .ref a ∧ H a = none ∧ OwnAt K H' (fun b => P b ∧ b ≠ a) a d
  | _ => True

theorem Reps.length {K : Frag} {H : Hp} {P : Addr → Prop} : ∀ {ds : List D} {vs : List V}, Reps K H P ds vs → ds.length = vs.length
  | [], [], _ => rfl
  | d :: ds, v :: vs, h => by
    have q : Rep K H P d v ∧ Reps K H P ds vs := by simpa [Reps] using h
    simp [Reps.length q.2]
  | [], _ :: _, h => by simp [Reps] at h
  | _ :: _, [], h => by simp [Reps] at h
theorem reps_nil {K : Frag} {H : Hp} {P : Addr → Prop} : Reps K H P [] [] := by simp [Reps]
theorem reps_cons {K : Frag} {H : Hp} {P : Addr → Prop} {d : D} {ds : List D} {v : V} {vs : List V} : Reps K H P (d :: ds) (v :: vs) ↔ Rep K H P d v ∧ Reps K H P ds vs := by simp [Reps]
theorem reps_nilL {K : Frag} {H : Hp} {P : Addr → Prop} {vs : List V} : Reps K H P [] vs ↔ vs = [] := by
  cases vs <;> simp [Reps]
theorem reps_consL {K : Frag} {H : Hp} {P : Addr → Prop} {d : D} {ds : List D} {vs : List V} : Reps K H P (d :: ds) vs ↔ ∃ v r, vs = v :: r ∧ Rep K H P d v ∧ Reps K H P ds r := by
  cases vs with
  | nil => simp [Reps]
  | cons v r =>
    rw [reps_cons]
    constructor
    · intro h; exact ⟨v, r, rfl, h.1, h.2⟩
    · rintro ⟨v', r', e, h1, h2⟩
      cases e
      exact ⟨h1, h2⟩
theorem reps_append {K : Frag} {H : Hp} {P : Addr → Prop} : ∀ {ds es : List D} {vs us : List V}, Reps K H P ds vs → Reps K H P es us → Reps K H P (ds ++ es) (vs ++ us)
  | [], _, [], _, _, h => h
  | d :: ds, _, v :: vs, _, h, h' => by
    rw [reps_cons] at h
    exact reps_cons.mpr ⟨h.1, reps_append h.2 h'⟩
  | [], _, _ :: _, _, h, _ => by simp [Reps] at h
  | _ :: _, _, [], _, h, _ => by simp [Reps] at h
theorem reps_get {K : Frag} {H : Hp} {P : Addr → Prop} : ∀ {ds : List D} {vs : List V} {i : Nat} {d : D}, Reps K H P ds vs → ds[i]? = some d → ∃ v, vs[i]? = some v ∧ Rep K H P d v
  | d :: ds, v :: vs, 0, x, h, e => by
    rw [reps_cons] at h
    simp at e; subst e
    exact ⟨v, rfl, h.1⟩
  | d :: ds, v :: vs, i + 1, x, h, e => by
    rw [reps_cons] at h
    obtain ⟨u, h1, h2⟩ := reps_get (i := i) h.2 (by simpa using e)
    exact ⟨u, by simpa using h1, h2⟩
  | [], _, _, _, _, e => by simp at e
  | _ :: _, [], _, _, h, _ => by simp [Reps] at h
theorem reps_getV {K : Frag} {H : Hp} {P : Addr → Prop} {ds : List D} {vs : List V} {i : Nat} {v : V} (h : Reps K H P ds vs) (e : vs[i]? = some v) : ∃ d, ds[i]? = some d ∧ Rep K H P d v := by
  have hl := h.length
  obtain ⟨hi, _⟩ := List.getElem?_eq_some_iff.mp e
  have hd : ds[i]? = some ds[i] := List.getElem?_eq_getElem (by omega)
  obtain ⟨u, h1, h2⟩ := reps_get h hd
  rw [e] at h1; cases h1
  exact ⟨_, hd, h2⟩
theorem reps_take {K : Frag} {H : Hp} {P : Addr → Prop} : ∀ {ds : List D} {vs : List V} (n : Nat), Reps K H P ds vs → Reps K H P (ds.take n) (vs.take n)
  | [], [], n, h => by simpa using h
  | d :: ds, v :: vs, 0, h => by simp [Reps]
  | d :: ds, v :: vs, n + 1, h => by
    rw [reps_cons] at h
    exact reps_cons.mpr ⟨h.1, reps_take n h.2⟩
  | [], _ :: _, _, h => by simp [Reps] at h
  | _ :: _, [], _, h => by simp [Reps] at h
theorem reps_drop {K : Frag} {H : Hp} {P : Addr → Prop} : ∀ {ds : List D} {vs : List V} (n : Nat), Reps K H P ds vs → Reps K H P (ds.drop n) (vs.drop n)
  | [], [], n, h => by simpa using h
  | d :: ds, v :: vs, 0, h => by simpa using h
  | d :: ds, v :: vs, n + 1, h => by
    rw [reps_cons] at h
    simpa using reps_drop n h.2
  | [], _ :: _, _, h => by simp [Reps] at h
  | _ :: _, [], _, h => by simp [Reps] at h
theorem reps_set {K : Frag} {H : Hp} {P : Addr → Prop} {d : D} {v : V} (hd : Rep K H P d v) : ∀ {ds : List D} {vs : List V} (i : Nat), Reps K H P ds vs → Reps K H P (ds.set i d) (vs.set i v)
  | [], [], _, h => by simpa using h
  | x :: ds, y :: vs, 0, h => by
    rw [reps_cons] at h
    exact reps_cons.mpr ⟨hd, h.2⟩
  | x :: ds, y :: vs, n + 1, h => by
    rw [reps_cons] at h
    exact reps_cons.mpr ⟨h.1, reps_set hd n h.2⟩
  | [], _ :: _, _, h => by simp [Reps] at h
  | _ :: _, [], _, h => by simp [Reps] at h
theorem reps_rev {K : Frag} {H : Hp} {P : Addr → Prop} : ∀ {ds : List D} {vs : List V}, Reps K H P ds vs → Reps K H P ds.reverse vs.reverse
  | [], [], h => by simpa using h
  | x :: ds, y :: vs, h => by
    rw [reps_cons] at h
    rw [List.reverse_cons, List.reverse_cons]
    exact reps_append (reps_rev h.2) (reps_cons.mpr ⟨h.1, reps_nil⟩)
  | [], _ :: _, h => by simp [Reps] at h
  | _ :: _, [], h => by simp [Reps] at h

/-! ### the heap moves -/
/-- what is not in F stays; F's are objects that can change -/
structure Mv (F : Addr → Prop) (H H' : Hp) : Prop where
  keep : ∀ a o, H a = some o → ¬ F a → H' a = some o
  mt : ∀ a, F a → H a = none ∨ Mut (H a)
theorem Mv.rd {F : Addr → Prop} {H H' : Hp} (m : Mv F H H') {a : Addr} {u : HO} (h : Rd H a u) (hf : ¬ F a) : Rd H' a u := by
  rcases h with h | ⟨o, h⟩
  · exact .inl (m.keep _ _ h hf)
  · exact .inr ⟨o, m.keep _ _ h hf⟩
theorem Mv.ntup {F : Addr → Prop} {H H' : Hp} (m : Mv F H H') {a : Addr} {xs : List V} (h : Rd H a (.tup xs)) : ¬ F a := fun f => by
  rcases m.mt a f with q | q
  · rcases h with h | ⟨o, h⟩ <;> (rw [q] at h; cases h)
  · rcases h with h | ⟨o, h⟩ <;> (rw [h] at q; exact q)
theorem Mv.sqL {K : Frag} {F : Addr → Prop} {H H' : Hp} (m : Mv F H H') {a : Addr} {xs : List V} (h : SqL K H a xs) (hf : ¬ F a) : SqL K H' a xs := by
  rcases h with h | h
  · exact .inl (m.rd h hf)
  · exact .inr h
theorem Mv.sqF {K : Frag} {F : Addr → Prop} {H H' : Hp} (m : Mv F H H') {a : Addr} {xs : List V} (h : SqF K H a xs) : SqF K H' a xs := by
  rcases h with ⟨o, h⟩ | h
  · refine .inl ⟨o, m.keep _ _ h fun f => ?_⟩
    rcases m.mt a f with q | q
    · rw [q] at h; cases h
    · rw [h] at q; exact q
  · exact .inr h
theorem Mv.sqT {K : Frag} {F : Addr → Prop} {H H' : Hp} (m : Mv F H H') {a : Addr} {xs : List V} (h : SqT K H a xs) : SqT K H' a xs := by
  rcases h with h | h
  · exact .inl (m.rd h (m.ntup h))
  · exact .inr h
theorem Mv.sqP {K : Frag} {F : Addr → Prop} {H H' : Hp} (m : Mv F H H') {a : Addr} {xs : List V} (h : SqP K H a xs) : SqP K H' a xs := by
  rcases h with ⟨o, h, ho⟩ | h
  · refine .inl ⟨o, m.keep _ _ h fun f => ?_, ho⟩
    rcases m.mt a f with q | q
    · rw [q] at h; cases h
    · rw [h] at q; exact q
  · exact .inr h
theorem Mv.refl (F : Addr → Prop) (H : Hp) (hm : ∀ a, F a → H a = none ∨ Mut (H a)) : Mv F H H := ⟨fun _ _ h _ => h, hm⟩
abbrev Ex (H H' : Hp) : Prop := ∀ a o, H a = some o → H' a = some o
theorem Ex.mv {H H' : Hp} (e : Ex H H') : Mv (fun _ => False) H H' := ⟨fun a o h _ => e a o h, fun _ z => z.elim⟩
theorem Ex.refl (H : Hp) : Ex H H := fun _ _ h => h
theorem Ex.trans {H H1 H2 : Hp} (a : Ex H H1) (b : Ex H1 H2) : Ex H H2 := fun x o h => b x o (a x o h)
theorem Ex.new {H : Hp} {p : Addr} {o : HO} (h : H p = none) : Ex H (upd H p o) := fun a u e => by
  rw [upd_ne (ne_of_none e h)]
  exact e
theorem Ex.none {H H' : Hp} (e : Ex H H') {p : Addr} (h : H' p = none) : H p = none := by
  cases q : H p with
  | none => rfl
  | some o => rw [e p o q] at h; cases h

mutual
theorem Rep.move {K : Frag} {F : Addr → Prop} {H H' : Hp} {P P' : Addr → Prop} (m : Mv F H H') (hf : ∀ a, P a → ¬ F a) (hp : ∀ a, P a → P' a) : ∀ {d : D} {v : V}, Rep K H P d v → Rep K H' P' d v
  | .non, v, h => by simpa [Rep] using h
  | .bl b, v, h => by simpa [Rep] using h
  | .int i, v, h => by simpa [Rep] using h
  | .str s, v, h => by simpa [Rep] using h
  | .exc _, v, h => by simp [Rep] at h
  | .scr ns, v, h => by
    simp only [Rep] at h ⊢
    obtain ⟨a, e, hs⟩ := h
    exact ⟨a, e, m.sqF hs⟩
  | .lst ds, v, h => by
    simp only [Rep] at h ⊢
    obtain ⟨a, xs, e, pa, hs, hr⟩ := h
    exact ⟨a, xs, e, hp a pa, m.keep _ _ hs (hf a pa), Reps.move m hf hp hr⟩
  | .tup ds, v, h => by
    simp only [Rep] at h ⊢
    obtain ⟨a, xs, e, hs, hr⟩ := h
    exact ⟨a, xs, e, m.sqP hs, Reps.move m hf hp hr⟩
  | .dic ks vs, v, h => by
    simp only [Rep] at h ⊢
    obtain ⟨a, kvs, e, pa, hs, hk, hr⟩ := h
    exact ⟨a, kvs, e, hp a pa, m.rd hs (hf a pa), hk, Reps.move m hf hp hr⟩
theorem Reps.move {K : Frag} {F : Addr → Prop} {H H' : Hp} {P P' : Addr → Prop} (m : Mv F H H') (hf : ∀ a, P a → ¬ F a) (hp : ∀ a, P a → P' a) : ∀ {ds : List D} {vs : List V}, Reps K H P ds vs → Reps K H' P' ds vs
  | [], [], _ => by simp [Reps]
  | d :: ds, v :: vs, h => by
    rw [reps_cons] at h ⊢
    exact ⟨Rep.move m hf hp h.1, Reps.move m hf hp h.2⟩
  | [], _ :: _, h => by simp [Reps] at h
  | _ :: _, [], h => by simp [Reps] at h
end
theorem Rep.ex {K : Frag} {H H' : Hp} {P : Addr → Prop} (e : Ex H H') {d : D} {v : V} (h : Rep K H P d v) : Rep K H' P d v := Rep.move e.mv (fun _ _ z => z) (fun _ z => z) h
theorem Reps.ex {K : Frag} {H H' : Hp} {P : Addr → Prop} (e : Ex H H') {d : List D} {v : List V} (h : Reps K H P d v) : Reps K H' P d v := Reps.move e.mv (fun _ _ z => z) (fun _ z => z) h
theorem Rep.wk {K : Frag} {H : Hp} {P P' : Addr → Prop} (hp : ∀ a, P a → P' a) {d : D} {v : V} (h : Rep K H P d v) : Rep K H P' d v := Rep.move (Ex.refl H).mv (fun _ _ z => z) hp h
theorem Reps.wk {K : Frag} {H : Hp} {P P' : Addr → Prop} (hp : ∀ a, P a → P' a) {d : List D} {v : List V} (h : Reps K H P d v) : Reps K H P' d v := Reps.move (Ex.refl H).mv (fun _ _ z => z) hp h
mutual
theorem Rep.live {K : Frag} {H : Hp} {P : Addr → Prop} : ∀ {d : D} {v : V}, Rep K H P d v → Rep K H (fun b => P b ∧ H b ≠ none) d v
  | .non, v, h => by simpa [Rep] using h
  | .bl b, v, h => by simpa [Rep] using h
  | .int i, v, h => by simpa [Rep] using h
  | .str s, v, h => by simpa [Rep] using h
  | .exc _, v, h => by simp [Rep] at h
  | .scr _, v, h => by simpa [Rep] using h
  | .lst ds, v, h => by
    simp only [Rep] at h ⊢
    obtain ⟨a, xs, e, pa, hs, hr⟩ := h
    exact ⟨a, xs, e, ⟨pa, by rw [hs]; simp⟩, hs, Reps.live hr⟩
  | .tup ds, v, h => by
    simp only [Rep] at h ⊢
    obtain ⟨a, xs, e, hs, hr⟩ := h
    exact ⟨a, xs, e, hs, Reps.live hr⟩
  | .dic ks vs, v, h => by
    simp only [Rep] at h ⊢
    obtain ⟨a, kvs, e, pa, hs, hk, hr⟩ := h
    refine ⟨a, kvs, e, ⟨pa, ?_⟩, hs, hk, Reps.live hr⟩
    rcases hs with q | ⟨o, q⟩ <;> (rw [q]; simp)
theorem Reps.live {K : Frag} {H : Hp} {P : Addr → Prop} : ∀ {ds : List D} {vs : List V}, Reps K H P ds vs → Reps K H (fun b => P b ∧ H b ≠ none) ds vs
  | [], [], _ => by simp [Reps]
  | d :: ds, v :: vs, h => by
    rw [reps_cons] at h ⊢
    exact ⟨Rep.live h.1, Reps.live h.2⟩
  | [], _ :: _, h => by simp [Reps] at h
  | _ :: _, [], h => by simp [Reps] at h
end
theorem Reps.apart {K : Frag} {H : Hp} {P : Addr → Prop} {p : Addr} (hp : H p = none) {ds : List D} {vs : List V} (h : Reps K H P ds vs) : Reps K H (fun b => P b ∧ b ≠ p) ds vs := h.live.wk fun b hb => ⟨hb.1, fun e => hb.2 (e ▸ hp)⟩
theorem Rep.apart {K : Frag} {H : Hp} {P : Addr → Prop} {p : Addr} (hp : H p = none) {ds : D} {vs : V} (h : Rep K H P ds vs) : Rep K H (fun b => P b ∧ b ≠ p) ds vs := h.live.wk fun b hb => ⟨hb.1, fun e => hb.2 (e ▸ hp)⟩
theorem Rep.one {K : Frag} {H : Hp} {P : Addr → Prop} {d : D} {v : V} (h : Rep K H P d v) : Rep1 K H P d v := by
  cases d with
  | lst ds =>
    simp only [Rep] at h
    obtain ⟨a, xs, e, _, hs, hr⟩ := h
    exact ⟨a, xs, e, hs, hr⟩
  | dic ks vs =>
    simp only [Rep] at h
    obtain ⟨a, xs, e, _, hs, hr⟩ := h
    exact ⟨a, xs, e, hs, hr⟩
  | _ => exact h
theorem Rep1.move {K : Frag} {F : Addr → Prop} {H H' : Hp} {P P' : Addr → Prop} (m : Mv F H H') (hf : ∀ a, P a → ¬ F a) (hp : ∀ a, P a → P' a) {d : D} {v : V} (ht : ∀ a, v = .ref a → ¬ F a) (h : Rep1 K H P d v) : Rep1 K H' P' d v := by
  cases d with
  | lst ds =>
    obtain ⟨a, xs, e, hs, hr⟩ := h
    exact ⟨a, xs, e, m.keep _ _ hs (ht a e), Reps.move m hf hp hr⟩
  | dic ks vs =>
    obtain ⟨a, kvs, e, hs, hk, hr⟩ := h
    exact ⟨a, kvs, e, m.rd hs (ht a e), hk, Reps.move m hf hp hr⟩
  | non => exact Rep.move (K := K) m hf hp (d := .non) h
  | bl b => exact Rep.move (K := K) m hf hp (d := .bl b) h
  | int b => exact Rep.move (K := K) m hf hp (d := .int b) h
  | str b => exact Rep.move (K := K) m hf hp (d := .str b) h
  | tup b => exact Rep.move (K := K) m hf hp (d := .tup b) h
  | exc b => exact (show False by simpa [Rep1, Rep] using h).elim
  | scr b => exact Rep.move (K := K) m hf hp (d := .scr b) h
theorem Rep1.ex {K : Frag} {H H' : Hp} {P : Addr → Prop} (e : Ex H H') {d : D} {v : V} (h : Rep1 K H P d v) : Rep1 K H' P d v := Rep1.move e.mv (fun _ _ z => z) (fun _ z => z) (fun _ _ z => z) h
theorem OwnAt.one {K : Frag} {H : Hp} {P : Addr → Prop} {a : Addr} {d : D} (h : OwnAt K H P a d) : Rep1 K H P d (.ref a) := by
  cases d with
  | lst ds =>
    obtain ⟨xs, e, hr⟩ := h
    exact ⟨a, xs, rfl, e, hr⟩
  | dic ks vs =>
    obtain ⟨kvs, e, hk, hr⟩ := h
    exact ⟨a, kvs, rfl, .inl e, hk, hr⟩
  | _ => exact h.elim
theorem OwnAt.rep {K : Frag} {H : Hp} {P P' : Addr → Prop} {a : Addr} {d : D} (h : OwnAt K H P a d) (hp : ∀ b, P b → P' b) (ha : P' a) : Rep K H P' d (.ref a) := by
  cases d with
  | lst ds =>
    obtain ⟨xs, e, hr⟩ := h
    simp only [Rep]
    exact ⟨a, xs, rfl, ha, e, hr.wk hp⟩
  | dic ks vs =>
    obtain ⟨kvs, e, hk, hr⟩ := h
    simp only [Rep]
    exact ⟨a, kvs, rfl, ha, .inl e, hk, hr.wk hp⟩
  | _ => exact h.elim
theorem OwnAt.move {K : Frag} {F : Addr → Prop} {H H' : Hp} {P P' : Addr → Prop} (m : Mv F H H') (hf : ∀ a, P a → ¬ F a) (hp : ∀ a, P a → P' a) {a : Addr} {d : D} (ht : ¬ F a) (h : OwnAt K H P a d) : OwnAt K H' P' a d := by
  cases d with
  | lst ds =>
    obtain ⟨xs, e, hr⟩ := h
    exact ⟨xs, m.keep _ _ e ht, Reps.move m hf hp hr⟩
  | dic ks vs =>
    obtain ⟨kvs, e, hk, hr⟩ := h
    exact ⟨kvs, m.keep _ _ e ht, hk, Reps.move m hf hp hr⟩
  | _ => exact h.elim
theorem OwnAt.mut {K : Frag} {H : Hp} {P : Addr → Prop} {a : Addr} {d : D} (h : OwnAt K H P a d) : Mut (H a) := by
  cases d with
  | lst ds => obtain ⟨xs, e, hr⟩ := h; rw [e]; trivial
  | dic ks vs => obtain ⟨kvs, e, hr⟩ := h; rw [e]; trivial
  | _ => exact h.elim
/- data off the heap -/
mutual
def toPy : D → PyData
  | .non => .none
  | .bl b => .bool b
  | .int i => .int i
  | .str s => .str (mkS s)
  | .lst xs => .list (toPys xs)
  | .tup xs => .tuple (toPys xs)
  | .dic _ _ => .dict []
  | .exc _ => .dict []
  | .scr _ => .dict []
def toPys : List D → List PyData
  | [] => []
  | x :: xs => toPy x :: toPys xs
end
theorem toPys_map : ∀ ds : List D, toPys ds = ds.map toPy
  | [] => by simp [toPys]
  | d :: ds => by simp [toPys, toPys_map ds]
mutual
theorem plain_py : ∀ d : D, plain d = true → (toPy d).plain = true
  | .non, _ => by simp [toPy, PyData.plain]
  | .bl _, _ => by simp [toPy, PyData.plain]
  | .int _, _ => by simp [toPy, PyData.plain]
  | .str _, _ => by simp [toPy, PyData.plain]
  | .lst xs, h => by simp only [toPy, PyData.plain]; exact plains_py xs (by simpa [plain] using h)
  | .tup xs, h => by simp only [toPy, PyData.plain]; exact plains_py xs (by simpa [plain] using h)
  | .dic _ _, h => by simp [plain] at h
  | .exc _, h => by simp [plain] at h
  | .scr _, h => by simp [plain] at h
theorem plains_py : ∀ ds : List D, plains ds = true → PyData.plainAll (toPys ds) = true
  | [], _ => by simp [toPys, PyData.plainAll]
  | x :: xs, h => by
    have q : plain x = true ∧ plains xs = true := by simpa [plains] using h
    simp only [toPys, PyData.plainAll, Bool.and_eq_true]
    exact ⟨plain_py x q.1, plains_py xs q.2⟩
end
mutual
theorem deep_py : ∀ d : D, plain d = true → (toPy d).depth = deep d
  | .non, _ => by simp [toPy, PyData.depth, deep]
  | .bl _, _ => by simp [toPy, PyData.depth, deep]
  | .int _, _ => by simp [toPy, PyData.depth, deep]
  | .str _, _ => by simp [toPy, PyData.depth, deep]
  | .lst xs, h => by simp only [toPy, PyData.depth, deep, deeps_py xs (by simpa [plain] using h)]
  | .tup xs, h => by simp only [toPy, PyData.depth, deep, deeps_py xs (by simpa [plain] using h)]
  | .dic _ _, h => by simp [plain] at h
  | .exc _, h => by simp [plain] at h
  | .scr _, h => by simp [plain] at h
theorem deeps_py : ∀ ds : List D, plains ds = true → PyData.depthAll (toPys ds) = deeps ds
  | [], _ => by simp [toPys, PyData.depthAll, deeps]
  | x :: xs, h => by
    have q : plain x = true ∧ plains xs = true := by simpa [plains] using h
    simp only [toPys, PyData.depthAll, deeps, deep_py x q.1, deeps_py xs q.2]
end
theorem mkS_inj {a b : List Nat} (h : mkS a = mkS b) : a = b := by
  have : a.toArray = b.toArray := congrArg PySem.Str.cps h
  simpa using this
theorem mkS_beq (a b : List Nat) : (mkS a == mkS b) = (a == b) := by
  by_cases h : a = b
  · subst h; simp
  · have h' : mkS a ≠ mkS b := fun q => h (mkS_inj q)
    rw [beq_eq_false_iff_ne.mpr h, beq_eq_false_iff_ne.mpr h']
mutual
theorem eqv_py : ∀ x y : D, plain x = true → plain y = true → PyData.eqv (toPy x) (toPy y) = eqv x y := by
  intro x y hx hy
  cases x <;> cases y <;> simp_all [toPy, PyData.eqv, eqv, plain]
  case str.str a b => first | exact mkS_beq a b | rfl
  case lst.lst a b => exact eqvs_py a b hx hy
  case tup.tup a b => exact eqvs_py a b hx hy
theorem eqvs_py : ∀ xs ys : List D, plains xs = true → plains ys = true → PyData.eqvAll (toPys xs) (toPys ys) = eqvs xs ys
  | [], [], _, _ => by simp [toPys, PyData.eqvAll, eqvs]
  | [], _ :: _, _, _ => by simp [toPys, PyData.eqvAll, eqvs]
  | _ :: _, [], _, _ => by simp [toPys, PyData.eqvAll, eqvs]
  | x :: xs, y :: ys, hx, hy => by
    have q : plain x = true ∧ plains xs = true := by simpa [plains] using hx
    have r : plain y = true ∧ plains ys = true := by simpa [plains] using hy
    simp only [toPys, PyData.eqvAll, eqvs, eqv_py x y q.1 r.1, eqvs_py xs ys q.2 r.2]
end
/- plain data as the layer has it -/
mutual
theorem Rep.dp {K : Frag} {H : Hp} {P : Addr → Prop} : ∀ {d : D} {v : V}, plain d = true → Rep K H P d v → Dp K H v (toPy d)
  | .non, v, _, h => by simp only [Rep] at h; subst h; simp only [toPy]; exact .non
  | .bl b, v, _, h => by simp only [Rep] at h; subst h; simp only [toPy]; exact .bl b
  | .int b, v, _, h => by simp only [Rep] at h; subst h; simp only [toPy]; exact .int b
  | .str b, v, _, h => by simp only [Rep] at h; obtain ⟨h, _⟩ := h; subst h; simp only [toPy]; exact .str _
  | .lst ds, v, hp, h => by
    simp only [Rep] at h
    obtain ⟨a, xs, e, _, hs, hr⟩ := h
    subst e; simp only [toPy]
    exact .lst (SqL.of hs) (Reps.dp (by simpa [plain] using hp) hr)
  | .tup ds, v, hp, h => by
    simp only [Rep] at h
    obtain ⟨a, xs, e, hs, hr⟩ := h
    subst e; simp only [toPy]
    exact .tup hs.sq (Reps.dp (by simpa [plain] using hp) hr)
  | .dic _ _, _, h, _ => by simp [plain] at h
  | .exc _, _, h, _ => by simp [plain] at h
  | .scr _, _, h, _ => by simp [plain] at h
theorem Reps.dp {K : Frag} {H : Hp} {P : Addr → Prop} : ∀ {ds : List D} {vs : List V}, plains ds = true → Reps K H P ds vs → DpAll K H vs (toPys ds)
  | [], [], _, _ => by simp only [toPys]; exact .nil
  | d :: ds, v :: vs, hp, h => by
    rw [reps_cons] at h
    have q : plain d = true ∧ plains ds = true := by simpa [plains] using hp
    simp only [toPys]
    exact .cons (Rep.dp q.1 h.1) (Reps.dp q.2 h.2)
  | [], _ :: _, _, h => by simp [Reps] at h
  | _ :: _, [], _, h => by simp [Reps] at h
end
theorem Rep1.dp {K : Frag} {H : Hp} {P : Addr → Prop} {d : D} {v : V} (hp : plain d = true) (h : Rep1 K H P d v) : Dp K H v (toPy d) := by
  cases d with
  | lst ds =>
    obtain ⟨a, xs, e, hs, hr⟩ := h
    subst e; simp only [toPy]
    exact .lst (SqL.of hs) (Reps.dp (by simpa [plain] using hp) hr)
  | dic ks vs => simp [plain] at hp
  | non => exact Rep.dp (P := P) hp h
  | bl b => exact Rep.dp (P := P) hp h
  | int b => exact Rep.dp (P := P) hp h
  | str b => exact Rep.dp (P := P) hp h
  | tup b => exact Rep.dp (P := P) hp h
  | exc b => exact Rep.dp (P := P) hp h
  | scr b => simp [plain] at hp
end VE

/-! States, and what a piece of the text is worth in them. -/
namespace VE
open PySem PySem.Spec PyProof.Rows L2

structure Ctx where
  X : Cx
  ks : List Kd
  H0 : Hp
  P : Addr → Prop
  cf : Nat → List D → Res D
  FR : Nat → Bool
  W : WX
  cad : Nat → Addr
abbrev Ctx.K (Γ : Ctx) : Frag := Γ.X.K
variable (Γ : Ctx)
def kdAt (ks : List Kd) (i : Nat) : Kd := ks.getD i .ord
/-- what any value may reach -/
def Pc (O : List Addr) : Addr → Prop := fun b => b ∉ O ∧ (Γ.P b ∨ Γ.H0 b = none)
def Away (O : List Addr) : D → V → Prop
  | .lst _, v => ∀ a, v = .ref a → a ∉ O
  | .dic _ _, v => ∀ a, v = .ref a → a ∉ O
  | _, _ => True
/-- a dict that nobody changes -/
def FzD (H : Hp) : D → V → Prop
  | .dic _ _, v => ∀ a, v = .ref a → ∃ o u, H a = some (.frz o u)
  | _, _ => True
theorem FzD.keep {H H' : Hp} {d : D} {v : V} (h : FzD H d v) (k : ∀ a o u, H a = some (.frz o u) → H' a = some (.frz o u)) : FzD H' d v := by
  cases d <;> try trivial
  intro a e
  obtain ⟨o, u, q⟩ := h a e
  exact ⟨o, u, k a o u q⟩
def KRep (H : Hp) (O : List Addr) : Kd → D → V → Prop
  | .ord, d, v => Rep Γ.K H (Pc Γ O) d v
  | .bor, d, v => Rep1 Γ.K H (Pc Γ O) d v ∧ Away O d v
  | .fz, d, v => Rep Γ.K H (Pc Γ O) d v ∧ FzD H d v
  | .own, d, v => ∃ a, v = .ref a ∧ a ∈ O ∧ OwnAt Γ.K H (Pc Γ O) a d
structure RS (O : List Addr) (σ : Sg) (H : Hp) (ρ : Env) : Prop where
  len : ρ.length = σ.length
  ex : Ex Γ.H0 H
  own : ∀ a ∈ O, Γ.H0 a = none ∧ Mut (H a)
  val : ∀ (i : Nat) (d : D), ρ[i]? = some (some d) → ∃ v, σ[i]? = some (some v) ∧ KRep Γ H O (kdAt Γ.ks i) d v
  dis : ∀ (i j : Nat) (d e : D) (v : V), i ≠ j → ρ[i]? = some (some d) → ρ[j]? = some (some e) → kdAt Γ.ks i = .own → kdAt Γ.ks j = .own → σ[i]? = some (some v) → σ[j]? ≠ some (some v)
variable {Γ}
theorem RS.pnew {O : List Addr} {σ : Sg} {H : Hp} {ρ : Env} (r : RS Γ O σ H ρ) {p : Addr} (h : H p = none) : Pc Γ O p := by
  refine ⟨fun hp => ?_, .inr (r.ex.none h)⟩
  have := (r.own p hp).2
  rw [h] at this
  exact this
theorem KRep.ex {H H' : Hp} {O : List Addr} (e : Ex H H') : ∀ {k : Kd} {d : D} {v : V}, KRep Γ H O k d v → KRep Γ H' O k d v
  | .ord, _, _, h => Rep.ex e h
  | .bor, _, _, h => ⟨Rep1.ex e h.1, h.2⟩
  | .fz, _, _, h => ⟨Rep.ex e h.1, h.2.keep fun a o u q => e a _ q⟩
  | .own, _, _, ⟨a, h1, h2, h3⟩ => ⟨a, h1, h2, OwnAt.move e.mv (fun _ _ z => z) (fun _ z => z) (fun z => z) h3⟩
theorem mut_ex {H H' : Hp} (e : Ex H H') {a : Addr} (h : Mut (H a)) : Mut (H' a) := by
  cases q : H a with
  | none => rw [q] at h; exact h.elim
  | some o => rw [e a o q]; rw [q] at h; exact h
theorem RS.ext {O : List Addr} {σ : Sg} {H H' : Hp} {ρ : Env} (r : RS Γ O σ H ρ) (e : Ex H H') : RS Γ O σ H' ρ :=
  ⟨r.len, r.ex.trans e, fun a ha => ⟨(r.own a ha).1, mut_ex e (r.own a ha).2⟩, fun i d h => by
    obtain ⟨v, h1, h2⟩ := r.val i d h
    exact ⟨v, h1, h2.ex e⟩, r.dis⟩
theorem KRep.one {H : Hp} {O : List Addr} : ∀ {k : Kd} {d : D} {v : V}, KRep Γ H O k d v → Rep1 Γ.K H (Pc Γ O) d v
  | .ord, _, _, h => Rep.one h
  | .bor, _, _, h => h.1
  | .fz, _, _, h => h.1.one
  | .own, _, _, ⟨a, h1, h2, h3⟩ => by subst h1; exact h3.one

/-! ### which readings let an object out, which give a new one -/
def lk (ks : List Kd) : E → Bool
  | .v i => kdAt ks i == .ord || kdAt ks i == .fz
  | .ite _ a b => lk ks a && lk ks b
  | .and _ => true
  | _ => true
def fr (FR : Nat → Bool) : E → Bool
  | .v _ => false
  | .ite _ a b => fr FR a && fr FR b
  | .ix _ _ => false
  | .call f _ => FR f
  | .sel fs _ _ => fs.all FR
  | .m2 _ _ _ _ => false
  | .and _ => false
  | .or _ => false
  | .b1 f _ => f != .max && f != .min
  | _ => true
/-- no own object itself -/
def farB (ks : List Kd) : E → Bool
  | .v i => kdAt ks i != .own
  | .ite _ a b => farB ks a && farB ks b
  | _ => true
variable (Γ)
structure Out (O : List Addr) (m : E) (H H' : Hp) (d : D) (v : V) : Prop where
  one : Rep1 Γ.K H' (Pc Γ O) d v
  ord : lk Γ.ks m = true → Rep Γ.K H' (Pc Γ O) d v
  new : fr Γ.FR m = true → Fresh Γ.K H H' (Pc Γ O) d v
  far : farB Γ.ks m = true → Away O d v
/-- a result, or an error's wish -/
def Fin {α : Type} (σ : Sg) (H : Hp) (r : Res α) (k : α → Prop) : Prop := match r with
  | .ok a => k a
  | .err c => ∀ H', Ex H H' → Γ.W (.ref (Γ.cad c)) none σ H'
  | .bad => False
variable {Γ}
theorem Fin.bnd {α β : Type} {σ : Sg} {H : Hp} {r : Res α} {f : α → Res β} {k : β → Prop} (h : Fin Γ σ H (r.bind f) k) : Fin Γ σ H r fun a => Fin Γ σ H (f a) k := by
  cases r <;> exact h
theorem Fin.imp {α : Type} {σ : Sg} {H H' : Hp} {r : Res α} {k k' : α → Prop} (h : Fin Γ σ H r k) (e : Ex H H') (hk : ∀ a, r = .ok a → k a → k' a) : Fin Γ σ H' r k' := by
  cases r with
  | ok a => exact hk a rfl h
  | err c => exact fun H2 e2 => h H2 (e.trans e2)
  | bad => exact h
theorem Fin.mono {α : Type} {σ : Sg} {H : Hp} {r : Res α} {k k' : α → Prop} (h : Fin Γ σ H r k) (hk : ∀ a, r = .ok a → k a → k' a) : Fin Γ σ H r k' := h.imp (Ex.refl H) hk
variable (Γ)
def TEm (m : E) : TE := fun σ H Q => ∃ ρ O, RS Γ O σ H ρ ∧ Fin Γ σ H (ev Γ.cf m ρ) fun d => ∀ v H', Ex H H' → Out Γ O m H H' d v → Q v H'
def TTm (m : E) : TT := fun σ H Q => ∃ ρ O, RS Γ O σ H ρ ∧ Fin Γ σ H ((ev Γ.cf m ρ).bind asBool) fun b => ∀ H', Ex H H' → Q b H'
def Outs (O : List Addr) (H' : Hp) : Es → List D → List V → Prop
  | .nil, [], [] => True
  | .cons e es, d :: ds, v :: vs => (Rep1 Γ.K H' (Pc Γ O) d v ∧ (lk Γ.ks e = true → Rep Γ.K H' (Pc Γ O) d v)) ∧ Outs O H' es ds vs
  | _, _, _ => False
def TAm (es : Es) : TA := fun σ H Q => ∃ ρ O, RS Γ O σ H ρ ∧ Fin Γ σ H (evs Γ.cf es ρ) fun ds => ∀ vs H', Ex H H' → Outs Γ O H' es ds vs → Q vs H'
variable {Γ}
theorem Outs.ex {O : List Addr} {H H' : Hp} (e : Ex H H') : ∀ {es : Es} {ds : List D} {vs : List V}, Outs Γ O H es ds vs → Outs Γ O H' es ds vs
  | .nil, [], [], _ => by simp [Outs]
  | .cons a es, d :: ds, v :: vs, h => by
    simp only [Outs] at h ⊢
    exact ⟨⟨h.1.1.ex e, fun q => (h.1.2 q).ex e⟩, Outs.ex e h.2⟩
  | .nil, _ :: _, _, h => by simp [Outs] at h
  | .nil, [], _ :: _, h => by simp [Outs] at h
  | .cons _ _, [], _, h => by simp [Outs] at h
  | .cons _ _, _ :: _, [], h => by simp [Outs] at h
def lks (ks : List Kd) : Es → Bool
  | .nil => true
  | .cons e es => lk ks e && lks ks es
def Es.len : Es → Nat
  | .nil => 0
  | .cons _ es => es.len + 1
theorem Outs.reps {O : List Addr} {H : Hp} : ∀ {es : Es} {ds : List D} {vs : List V}, Outs Γ O H es ds vs → lks Γ.ks es = true → Reps Γ.K H (Pc Γ O) ds vs
  | .nil, [], [], _, _ => by simp [Reps]
  | .cons a es, d :: ds, v :: vs, h, q => by
    simp only [Outs] at h
    simp only [lks, Bool.and_eq_true] at q
    exact reps_cons.mpr ⟨h.1.2 q.1, Outs.reps h.2 q.2⟩
  | .nil, _ :: _, _, h, _ => by simp [Outs] at h
  | .nil, [], _ :: _, h, _ => by simp [Outs] at h
  | .cons _ _, [], _, h, _ => by simp [Outs] at h
  | .cons _ _, _ :: _, [], h, _ => by simp [Outs] at h
theorem Outs.lenV {O : List Addr} {H : Hp} : ∀ {es : Es} {ds : List D} {vs : List V}, Outs Γ O H es ds vs → vs.length = es.len ∧ ds.length = es.len
  | .nil, [], [], _ => by simp [Es.len]
  | .cons a es, d :: ds, v :: vs, h => by
    simp only [Outs] at h
    have := Outs.lenV h.2
    simp [Es.len, this]
  | .nil, _ :: _, _, h => by simp [Outs] at h
  | .nil, [], _ :: _, h => by simp [Outs] at h
  | .cons _ _, [], _, h => by simp [Outs] at h
  | .cons _ _, _ :: _, [], h => by simp [Outs] at h

/-! ### weaker readings -/
theorem PE.wk {X : Cx} {e : Expr} {t t' : TE} (h : PE X e t) (w : ∀ σ H Q, t' σ H Q → t σ H Q) : PE X e t' := ⟨fun pins s σ H Q I q => h.run pins s σ H Q I (w σ H Q q)⟩
theorem PT.wk {X : Cx} {e : Expr} {t t' : TT} (h : PT X e t) (w : ∀ σ H Q, t' σ H Q → t σ H Q) : PT X e t' := ⟨fun pins s σ H Q I q => h.run pins s σ H Q I (w σ H Q q)⟩
theorem PW.wk {X : Cx} {e : Expr} {t t' : TT} (h : PW X e t) (w : ∀ σ H Q, t' σ H Q → t σ H Q) : PW X e t' := ⟨fun wh pins s σ H Q I q => h.run wh pins s σ H Q I (w σ H Q q)⟩
theorem PA.wk {X : Cx} {e : List Expr} {t t' : TA} (h : PA X e t) (w : ∀ σ H Q, t' σ H Q → t σ H Q) : PA X e t' := ⟨fun pos pins s σ H Q I q => h.run pos pins s σ H Q I (w σ H Q q)⟩
theorem PS.wk {X : Cx} {e : Stmt} {t t' : TS} (h : PS X e t) (w : ∀ D σ H, t' D σ H → t D σ H) : PS X e t' := ⟨fun pins s σ H D I q => h.run pins s σ H D I (w D σ H q)⟩
theorem PSs.wk {X : Cx} {e : List Stmt} {t t' : TS} (h : PSs X e t) (w : ∀ D σ H, t' D σ H → t D σ H) : PSs X e t' := ⟨fun pins s σ H D I q => h.run pins s σ H D I (w D σ H q)⟩

/-! ### one, two operands -/
/-- a result that is nobody's own -/
structure Val (O : List Addr) (H H' : Hp) (d : D) (v : V) : Prop where
  ord : Rep Γ.K H' (Pc Γ O) d v
  new : Fresh Γ.K H H' (Pc Γ O) d v
theorem Rep.away {K : Frag} {H : Hp} {O : List Addr} {d : D} {v : V} (h : Rep K H (Pc Γ O) d v) : Away O d v := by
  cases d <;> simp only [Away]
  · simp only [Rep] at h
    obtain ⟨a, xs, e, pa, _⟩ := h
    subst e
    intro b e; cases e
    exact pa.1
  · simp only [Rep] at h
    obtain ⟨a, xs, e, pa, _⟩ := h
    subst e
    intro b e; cases e
    exact pa.1
theorem Val.out {O : List Addr} {H H' : Hp} {d : D} {v : V} {m : E} (h : Val (Γ := Γ) O H H' d v) : Out Γ O m H H' d v := ⟨h.ord.one, fun _ => h.ord, fun _ => h.new, fun _ => h.ord.away⟩
theorem Fresh.back {K : Frag} {H H1 H' : Hp} {P : Addr → Prop} {d : D} {v : V} (e : Ex H H1) (h : Fresh K H1 H' P d v) : Fresh K H H' P d v := by
  cases d with
  | lst ds => obtain ⟨a, h1, h2, h3⟩ := h; exact ⟨a, h1, e.none h2, h3⟩
  | dic ks vs => obtain ⟨a, h1, h2, h3⟩ := h; exact ⟨a, h1, e.none h2, h3⟩
  | _ => trivial
theorem Val.back {O : List Addr} {H H1 H' : Hp} {d : D} {v : V} (e : Ex H H1) (h : Val (Γ := Γ) O H1 H' d v) : Val (Γ := Γ) O H H' d v := ⟨h.ord, h.new.back e⟩
theorem TEm.bin {a b m : E} {k : D → D → Res D} {r : R2} {σ : Sg} {H : Hp} {Q : VK} (hm : ∀ ρ, ev Γ.cf m ρ = (ev Γ.cf a ρ).bind fun x => (ev Γ.cf b ρ).bind fun y => k x y)
    (hr : ∀ {ρ O H x y v u d Q}, RS Γ O σ H ρ → Rep1 Γ.K H (Pc Γ O) x v → Rep1 Γ.K H (Pc Γ O) y u → k x y = .ok d → (∀ w H', Ex H H' → Val (Γ := Γ) O H H' d w → Q w H') → r v u H Q)
    (hk : ∀ x y c, k x y ≠ .err c) (h : TEm Γ m σ H Q) : tOp r (TEm Γ a) (TEm Γ b) σ H Q := by
  obtain ⟨ρ, O, rs, h⟩ := h
  rw [hm] at h
  refine ⟨ρ, O, rs, h.bnd.mono fun x ex hx v H1 e1 o1 => ?_⟩
  refine ⟨ρ, O, rs.ext e1, hx.bnd.imp e1 fun y ey hy u H2 e2 o2 => ?_⟩
  have hy' : Fin Γ σ H (k x y) _ := hy
  cases q : k x y with
  | ok d =>
    rw [q] at hy'
    exact hr ((rs.ext e1).ext e2) (o1.one.ex e2) o2.one q fun w H3 e3 vl => hy' w H3 ((e1.trans e2).trans e3) (vl.back (e1.trans e2)).out
  | err c => exact absurd q (hk x y c)
  | bad => rw [q] at hy'; exact hy'.elim
theorem TEm.un {a m : E} {k : D → Res D} {r : V → Hp → VK → Prop} {σ : Sg} {H : Hp} {Q : VK} (hm : ∀ ρ, ev Γ.cf m ρ = (ev Γ.cf a ρ).bind fun x => k x)
    (hr : ∀ {ρ O H x v d Q}, RS Γ O σ H ρ → Rep1 Γ.K H (Pc Γ O) x v → k x = .ok d → (∀ w H', Ex H H' → Val (Γ := Γ) O H H' d w → Q w H') → r v H Q)
    (hk : ∀ x c, k x ≠ .err c) (h : TEm Γ m σ H Q) : tUn r (TEm Γ a) σ H Q := by
  obtain ⟨ρ, O, rs, h⟩ := h
  rw [hm] at h
  refine ⟨ρ, O, rs, h.bnd.mono fun x ex hx v H1 e1 o1 => ?_⟩
  have hx' : Fin Γ σ H (k x) _ := hx
  cases q : k x with
  | ok d =>
    rw [q] at hx'
    exact hr (rs.ext e1) o1.one q fun w H3 e3 vl => hx' w H3 (e1.trans e3) (vl.back e1).out
  | err c => exact absurd q (hk x c)
  | bad => rw [q] at hx'; exact hx'.elim
end VE

/-! Operators. -/
namespace VE
open PySem PySem.Spec PyProof.Rows L2

variable {Γ : Ctx}
/-- a value without an object of its own -/
theorem Val.flat {O : List Addr} {H : Hp} {d : D} {v : V} (h : Rep Γ.K H (Pc Γ O) d v) (hf : ∀ H H' P, Fresh Γ.K H H' P d v) : Val (Γ := Γ) O H H d v := ⟨h, hf _ _ _⟩
theorem val_bl {O : List Addr} {H : Hp} {b : Bool} : Val (Γ := Γ) O H H (.bl b) (.bl b) := .flat (by simp [Rep]) fun _ _ _ => trivial
theorem val_int {O : List Addr} {H : Hp} {i : Int} : Val (Γ := Γ) O H H (.int i) (.int i) := .flat (by simp [Rep]) fun _ _ _ => trivial
theorem val_non {O : List Addr} {H : Hp} : Val (Γ := Γ) O H H .non .non := .flat (by simp [Rep]) fun _ _ _ => trivial
theorem val_str {O : List Addr} {H : Hp} {s : List Nat} (h : s.length ≤ sizeLine) : Val (Γ := Γ) O H H (.str s) (.str (mkS s)) := .flat (by simp [Rep, h]) fun _ _ _ => trivial
theorem val_tup {O : List Addr} {H H' : Hp} {ds : List D} {a : Addr} {xs : List V} (h : SqP Γ.K H' a xs) (hr : Reps Γ.K H' (Pc Γ O) ds xs) : Val (Γ := Γ) O H H' (.tup ds) (.ref a) := ⟨by simp only [Rep]; exact ⟨a, xs, rfl, h, hr⟩, trivial⟩
/-- a new tuple, a new list -/
theorem val_tupN {O : List Addr} {H : Hp} {ds : List D} {p : Addr} {o : Obj} {xs : List V} (hp : H p = none) (ho : PObj o) (hr : Reps Γ.K H (Pc Γ O) ds xs) : Val (Γ := Γ) O H (upd H p (.frz o (.tup xs))) (.tup ds) (.ref p) :=
  val_tup (SqP.of upd_same ho) (hr.ex (Ex.new hp))
theorem val_lst {O : List Addr} {σ : Sg} {H : Hp} {ρ : Env} {ds : List D} {p : Addr} {xs : List V} (rs : RS Γ O σ H ρ) (hp : H p = none) (hr : Reps Γ.K H (Pc Γ O) ds xs) : Val (Γ := Γ) O H (upd H p (.lst xs)) (.lst ds) (.ref p) := by
  have e : Ex H (upd H p (.lst xs)) := Ex.new hp
  refine ⟨?_, p, rfl, hp, xs, upd_same, (hr.apart hp).ex e⟩
  simp only [Rep]
  exact ⟨p, xs, rfl, rs.pnew hp, upd_same, hr.ex e⟩

/-! ### tuples, their objects known -/
section
variable {X : Cx}
theorem laidP {pins : List (Addr × Obj)} {σ : Sg} {H : Hp} {s : Shared} {h' : Heap} {a : Addr} {t' : Nat} {xs : List V} {its : List Value} {n : Nat} (I : Inv X pins σ H s) (k : ∀ b u, s.heap.get? b = some u → h'.get? b = some u) (hp : s.heap.objs.size ≤ a) (hz : xs.length ≤ sizeLine) (r : Vals xs its)
    (e : h'.get? a = some { cls := .type "tuple", data := .seq its.toArray n }) : Inv X pins σ (upd H a (.frz { cls := .type "tuple", data := .seq its.toArray n } (.tup xs))) { s with heap := h', toks := t' } :=
  I.laid (t' := t') k hp (show ObjOk X.prog X.w _ _ _ (.frz _ (.tup xs)) from ⟨e, hz, its, r, ⟨_, e, rfl, n, rfl⟩⟩)
def tTupP (t : TA) : TE := fun σ H Q => t σ H fun xs H1 => xs.length ≤ sizeLine ∧ ∀ p o, H1 p = none → PObj o → Q (.ref p) (upd H1 p (.frz o (.tup xs)))
theorem pe_tupP {es : List Expr} {t : TA} {pos : Pos} {x1 : Nat} (h : PA X es t) : PE X (.Tuple es x1 pos) (tTupP t) := by
  refine ⟨fun pins s σ H Q I hq => ?_⟩
  refine wpAny_Tuple_spliced (L2.thn (h.run pos pins s σ H _ I hq) fun us s1 ⟨xs, H1, I1, r, z, q⟩ => ⟨by rw [← r.length]; exact z, ?_⟩)
  have hf : H1 s1.heap.objs.size = none := I1.hok.fresh (Nat.le_refl _)
  exact ⟨.ref s1.heap.objs.size, _, laidP (t' := s1.toks) I1 (fun b u e => Heap.get?_push_of_some _ e) (Nat.le_refl _) z r (Heap.get?_push_size _ rfl), rfl, q _ _ hf ⟨rfl, rfl⟩⟩
abbrev rTupleOf (K : Frag) : List V → Hp → VK → Prop := fun xs H Q => ∃ p ys, xs = [.ref p] ∧ ((SqL K H p ys ∧ ∀ l o, H l = none → PObj o → Q (.ref l) (upd H l (.frz o (.tup ys)))) ∨ (SqP K H p ys ∧ Q (.ref p) H))
theorem call_tupleP : CallR X (.type "tuple") (rTupleOf X.K) := by
  intro pins s σ H xs us Q I r h
  obtain ⟨p, ys, rfl, h⟩ := h
  obtain ⟨u, rfl, rx⟩ := vals1 r
  cases rx
  rcases h with ⟨hq, q⟩ | ⟨hq, q⟩
  · obtain ⟨its, r', pl, hz⟩ := I.list hq
    have hlen := r'.length
    refine call_tuple_list pl.isList (fun h' kp => ?_) (by simp only [List.size_toArray] <;> omega)
    have I1 : Inv X pins σ H { s with heap := h' } := I.kept (t' := s.toks) kp
    have I2 : Inv X pins σ (upd H h'.objs.size (.frz { cls := .type "tuple", data := .seq its.toArray } (.tup ys))) { s with heap := h'.push { cls := .type "tuple", data := .seq its.toArray } } :=
      laidP (t' := s.toks) (s := { s with heap := h' }) I1 (fun b o e => Heap.get?_push_of_some _ e) (Nat.le_refl _) hz r' (Heap.get?_push_size _ rfl)
    exact ⟨.ref h'.objs.size, _, I2, rfl, q _ _ (I1.hok.fresh (Nat.le_refl _)) ⟨rfl, rfl⟩⟩
  · obtain ⟨its, r', pl, hz⟩ := I.tuple hq.sq
    exact call_tuple_same pl ⟨.ref p, H, I, rfl, q⟩
def rCatP (K : Frag) : R2 := fun x y H Q => ∃ a b xs ys, x = .ref a ∧ y = .ref b ∧ SqT K H a xs ∧ SqT K H b ys ∧ xs.length + ys.length ≤ sizeLine ∧
  (xs = [] → Q (.ref b) H) ∧ (xs ≠ [] → ys = [] → Q (.ref a) H) ∧ (xs ≠ [] → ys ≠ [] → ∀ p o, H p = none → PObj o → Q (.ref p) (upd H p (.frz o (.tup (xs ++ ys)))))
theorem op_catP : OpR X (binaryOp .Add) (rCatP X.K) := by
  intro pins s σ H x y v u Q I rx ry h
  obtain ⟨a, b, xs, ys, rfl, rfl, ha, hb, hz, q0, q1, q2⟩ := h
  cases rx
  cases ry
  obtain ⟨its, r1, p1, _⟩ := I.tuple ha
  obtain ⟨its2, r2, p2, _⟩ := I.tuple hb
  by_cases hx : xs = []
  · subst hx
    cases r1
    exact cat_tup0 p1 p2 ⟨.ref b, H, I, rfl, q0 rfl⟩
  · refine HT.cat_tup p1 p2 (fun z => hx (r1.nil_iff.mp z)) (fun z => ⟨.ref a, H, I, rfl, q1 hx (r2.nil_iff.mp z)⟩) (fun z => ?_) (by rw [← r1.length, ← r2.length]; exact hz)
    exact ⟨.ref s.heap.objs.size, _, laidP (t' := s.toks) I (fun b ob q => Heap.get?_push_of_some _ q) (Nat.le_refl _) (by rw [List.length_append]; exact hz) (r1.append r2) (Heap.get?_push_size _ rfl), rfl, q2 hx (fun w => z (r2.nil_iff.mpr w)) _ _ (I.hok.fresh (Nat.le_refl _)) ⟨rfl, rfl⟩⟩
def rSlP (K : Frag) : V → Option Int → Option Int → Hp → VK → Prop := fun x lo hi H Q => ∃ a xs, x = .ref a ∧ SqT K H a xs ∧
  (HT.sIx xs.length 0 lo = 0 ∧ HT.sIx xs.length xs.length hi = xs.length → Q (.ref a) H) ∧ (¬ (HT.sIx xs.length 0 lo = 0 ∧ HT.sIx xs.length xs.length hi = xs.length) → ∀ p o, H p = none → PObj o → Q (.ref p) (upd H p (.frz o (.tup (cutV xs lo hi)))))
theorem sl_tupP : SlR X (rSlP X.K) := by
  intro pins s σ H x v vl vu lo hi sl Q I rx hs pl pu h
  obtain ⟨a, xs, rfl, hx, q1, q2⟩ := h
  cases rx
  obtain ⟨its, r, ht, hz⟩ := I.tuple hx
  have hlen : its.toArray.size = xs.length := by rw [List.size_toArray]; exact r.length.symm
  refine ⟨"tuple", _, PyProof.Rows.slot_tuple_getitem.lookup, ht.typeIs, ?_⟩
  by_cases hw : HT.sIx xs.length 0 lo = 0 ∧ HT.sIx xs.length xs.length hi = xs.length
  · exact getItem_tuple_whole ht hs pl pu (by rw [hlen]; exact hw) ⟨.ref a, H, I, rfl, q1 hw⟩
  · refine HT.getItem_tuple_cut ht hs pl pu (by rw [hlen]; exact hw) ?_ (by rw [hlen]; exact hz)
    rw [hlen]
    exact ⟨.ref s.heap.objs.size, _, laidP (t' := s.toks) I (fun b ob q => Heap.get?_push_of_some _ q) (Nat.le_refl _) (Nat.le_trans (cutV_length xs lo hi) hz) ((r.drop (HT.sIx xs.length 0 lo)).take (HT.sIx xs.length xs.length hi - HT.sIx xs.length 0 lo)) (Heap.get?_push_size _ rfl), rfl, q2 hw _ _ (I.hok.fresh (Nat.le_refl _)) ⟨rfl, rfl⟩⟩
end
/-! ### + - * // % -/
theorem mkS_app (a b : List Nat) : mkS a ++ mkS b = mkS (a ++ b) := by
  show PySem.Str.append (mkS a) (mkS b) = _
  simp [PySem.Str.append]
theorem mkS_len (a : List Nat) : (mkS a).length = a.length := by simp [PySem.Str.length]
abbrev rStrAdd : R2 := fun x y H Q => ∃ i j, x = .str i ∧ y = .str j ∧ i.length + j.length ≤ sizeLine ∧ Q (.str (i ++ j)) H
def rAddA (K : Frag) : R2 := fun x y H Q => rI0 (fun i j => .int (i + j)) x y H Q ∨ rStrAdd x y H Q ∨ rCat x y H Q ∨ rCatP K x y H Q
theorem op_addA {X : Cx} : OpR X (binaryOp .Add) (rAddA X.K) := op_add.or (op_add_str.or (op_cat.or op_catP))
theorem add_ok {σ : Sg} {ρ : Env} {O : List Addr} {H : Hp} {x y d : D} {v u : V} {Q : VK} (rs : RS Γ O σ H ρ) (hx : Rep1 Γ.K H (Pc Γ O) x v) (hy : Rep1 Γ.K H (Pc Γ O) y u) (e : opD .add x y = .ok d)
    (q : ∀ w H', Ex H H' → Val (Γ := Γ) O H H' d w → Q w H') : rAddA Γ.K v u H Q := by
  cases x <;> cases y <;> simp only [opD] at e <;> try contradiction
  case int.int i j =>
    simp only [Rep1, Rep] at hx hy
    subst hx hy
    cases e
    exact .inl ⟨i, j, rfl, rfl, q _ _ (Ex.refl H) val_int⟩
  case str.str a b =>
    simp only [Rep1, Rep] at hx hy
    obtain ⟨hx, lx⟩ := hx
    obtain ⟨hy, ly⟩ := hy
    subst hx hy
    split at e
    · cases e
      rename_i hl
      refine .inr (.inl ⟨_, _, rfl, rfl, by rw [mkS_len, mkS_len, sizeLine_eq]; exact hl, ?_⟩)
      rw [mkS_app]
      exact q _ _ (Ex.refl H) (val_str (by rw [List.length_append, sizeLine_eq]; exact hl))
    · cases e
  case lst.lst a b =>
    obtain ⟨l, xs, ex, hl, hr⟩ := hx
    obtain ⟨m, ys, ey, hm, hs⟩ := hy
    subst ex ey
    split at e
    · cases e
      rename_i hz
      have h1 := hr.length
      have h2 := hs.length
      exact .inr (.inr (.inl ⟨l, m, xs, ys, rfl, rfl, hl, hm, by rw [sizeLine_eq, ← h1, ← h2]; exact hz, fun p hp => q _ _ (Ex.new hp) (val_lst rs hp (reps_append hr hs))⟩))
    · cases e
  case tup.tup a b =>
    simp only [Rep1, Rep] at hx hy
    obtain ⟨l, xs, ex, hl, hr⟩ := hx
    obtain ⟨m, ys, ey, hm, hs⟩ := hy
    subst ex ey
    split at e
    · cases e
      rename_i hz
      have h1 := hr.length
      have h2 := hs.length
      refine .inr (.inr (.inr ⟨l, m, xs, ys, rfl, rfl, hl.sq, hm.sq, by rw [sizeLine_eq, ← h1, ← h2]; exact hz, fun z => ?_, fun z z' => ?_, fun _ _ p o hp ho => q _ _ (Ex.new hp) (val_tupN hp ho (reps_append hr hs))⟩))
      · subst z
        have : a = [] := by cases a with | nil => rfl | cons _ _ => simp at h1
        subst this
        exact q _ _ (Ex.refl H) (val_tup hm hs)
      · subst z'
        have : b = [] := by cases b with | nil => rfl | cons _ _ => simp at h2
        subst this
        rw [List.append_nil] at q
        exact q _ _ (Ex.refl H) (val_tup hl hr)
    · cases e
theorem sub_ok {σ : Sg} {ρ : Env} {O : List Addr} {H : Hp} {x y d : D} {v u : V} {Q : VK} (rs : RS Γ O σ H ρ) (hx : Rep1 Γ.K H (Pc Γ O) x v) (hy : Rep1 Γ.K H (Pc Γ O) y u) (e : opD .sub x y = .ok d)
    (q : ∀ w H', Ex H H' → Val (Γ := Γ) O H H' d w → Q w H') : rI0 (fun i j => .int (i - j)) v u H Q := by
  cases x <;> cases y <;> simp only [opD] at e <;> try contradiction
  case int.int i j =>
    simp only [Rep1, Rep] at hx hy
    subst hx hy
    cases e
    exact ⟨i, j, rfl, rfl, q _ _ (Ex.refl H) val_int⟩
theorem fdiv_ok {σ : Sg} {ρ : Env} {O : List Addr} {H : Hp} {x y d : D} {v u : V} {Q : VK} (rs : RS Γ O σ H ρ) (hx : Rep1 Γ.K H (Pc Γ O) x v) (hy : Rep1 Γ.K H (Pc Γ O) y u) (e : opD .fdiv x y = .ok d)
    (q : ∀ w H', Ex H H' → Val (Γ := Γ) O H H' d w → Q w H') : rI CDiv (fun i j => .int (i / j)) v u H Q := by
  cases x <;> cases y <;> simp only [opD] at e <;> try contradiction
  case int.int i j =>
    simp only [Rep1, Rep] at hx hy
    subst hx hy
    split at e
    · cases e
      rename_i hc
      exact ⟨i, j, rfl, rfl, hc, q _ _ (Ex.refl H) val_int⟩
    · cases e
theorem mod_ok {σ : Sg} {ρ : Env} {O : List Addr} {H : Hp} {x y d : D} {v u : V} {Q : VK} (rs : RS Γ O σ H ρ) (hx : Rep1 Γ.K H (Pc Γ O) x v) (hy : Rep1 Γ.K H (Pc Γ O) y u) (e : opD .mod x y = .ok d)
    (q : ∀ w H', Ex H H' → Val (Γ := Γ) O H H' d w → Q w H') : rI (fun _ j => 0 < j) (fun i j => .int (i % j)) v u H Q := by
  cases x <;> cases y <;> simp only [opD] at e <;> try contradiction
  case int.int i j =>
    simp only [Rep1, Rep] at hx hy
    subst hx hy
    split at e
    · cases e
      rename_i hc
      exact ⟨i, j, rfl, rfl, hc, q _ _ (Ex.refl H) val_int⟩
    · cases e
/-- a text times an int -/
def rStrMul : R2 := fun x y H Q => ∃ (a : List Nat) (k : Int), x = .str (mkS a) ∧ y = .int k ∧ a.length * k.toNat ≤ big ∧ k < 2 ^ 62 ∧ -(2 ^ 62) ≤ k ∧ Q (.str (mkS (rep k.toNat a))) H
theorem rep_fold (a : List Nat) : ∀ (k : Nat) (acc : Array Nat), (List.replicate k a.toArray).foldl (· ++ ·) acc = acc ++ (rep k a).toArray
  | 0, acc => by simp [rep]
  | k + 1, acc => by
    rw [List.replicate_succ, List.foldl_cons, rep_fold a k]
    simp [rep, List.replicate_succ]
theorem op_strMul {X : Cx} : OpR X (binaryOp .Mult) rStrMul := by
  intro pins s σ H x y v u Q I rx ry h
  obtain ⟨a, k, rfl, rfl, hz, h1, h2, q⟩ := h
  obtain ⟨t, rfl⟩ := rx
  obtain ⟨t', rfl⟩ := ry
  have hl : (mkS a).length = a.length := mkS_len a
  have em : Txt.mul (mkS a) k = mkS (rep k.toNat a) := by
    unfold Txt.mul
    by_cases c1 : k < 1
    · rw [if_pos c1]
      have : k.toNat = 0 := by omega
      rw [this]
      simp [rep, Str.empty]
    · rw [if_neg c1]
      split
      · rename_i c2
        rw [Bool.or_eq_true] at c2
        rcases c2 with c2 | c2
        · have : k.toNat = 1 := by
            have := eq_of_beq c2
            omega
          rw [this]
          simp [rep]
        · have hn : a.length = 0 := by rw [← hl]; exact eq_of_beq c2
          have : a = [] := List.eq_nil_of_length_eq_zero hn
          subst this
          simp [rep]
      · have := rep_fold a k.toNat #[]
        have e2 : (mkS a).cps = a.toArray := rfl
        rw [e2, this]
        simp
  refine PySem.SB.mul ⟨?_, fun c1 c2 => ?_, fun c1 c2 => ?_⟩ fun t'' j => ?_
  · rw [decide_eq_false (by omega), decide_eq_false (by omega)] <;> rfl
  · rw [hl]
    have hk : 0 < k := by omega
    have hk2 : a.length ≤ big := by
      have h0 : 1 ≤ k.toNat := by omega
      calc a.length = a.length * 1 := by simp
        _ ≤ a.length * k.toNat := Nat.mul_le_mul_left _ h0
        _ ≤ big := hz
    have h3 : (a.length : Int) * k ≤ (big : Int) := by
      have : ((a.length * k.toNat : Nat) : Int) ≤ ((big : Nat) : Int) := Int.ofNat_le.mpr hz
      rw [Int.natCast_mul, Int.toNat_of_nonneg (Int.le_of_lt hk)] at this
      exact this
    rw [Int.not_lt]
    exact (Int.le_ediv_iff_mul_le hk).mpr (Int.le_trans h3 (by decide))
  · rw [hl]
    unfold Builtin.Str.tooLong
    first
      | (simp only [decide_eq_false_iff_not, sizeLine_eq]; omega)
      | (rw [sizeLine_eq]; simp; omega)
  · rw [em]
    exact ⟨.str _, H, I.tok _, ⟨_, rfl⟩, q⟩
def rRepP (K : Frag) : R2 := fun x y H Q => ∃ l k xs, x = .ref l ∧ y = .int k ∧ SqT K H l xs ∧ xs ≠ [] ∧ 2 ≤ k ∧ k ≤ 1000 ∧ xs.length ≤ 1000 ∧ ∀ p o, H p = none → PObj o → Q (.ref p) (upd H p (.frz o (.tup (List.replicate k.toNat xs).flatten)))
theorem op_repP {X : Cx} : OpR X (binaryOp .Mult) (rRepP X.K) := by
  intro pins s σ H x y v u Q I rx ry h
  obtain ⟨l, k, xs, rfl, rfl, hT, hne, h1, h2, hz, q⟩ := h
  cases rx
  obtain ⟨t, rfl⟩ := ry
  obtain ⟨its, r, ⟨⟨cls, dd, data, sl⟩, ho, hc, n, hd⟩, hs⟩ := I.tuple hT
  simp only at hc hd
  subst hc hd
  have hle : its.length = xs.length := r.length.symm
  have hi : its.toArray.isEmpty = false := by
    cases its with
    | nil => exact absurd (List.eq_nil_of_length_eq_zero hle.symm) hne
    | cons a b => rfl
  have hsz0 : its.toArray.size = xs.length := by rw [List.size_toArray, hle]
  have hm : ((its.toArray.size : Nat) : Int) * k ≤ 1000000 := by
    rw [hsz0]
    have a1 : ((xs.length : Nat) : Int) * k ≤ 1000 * k := Int.mul_le_mul_of_nonneg_right (by omega) (by omega)
    omega
  have a0 : k.toNat * xs.length ≤ 1000 * 1000 := Nat.mul_le_mul (by omega) hz
  have c0 : (decide (k < -(2 ^ 63)) || decide (k ≥ 2 ^ 63)) = false := by
    rw [decide_eq_false (by omega), decide_eq_false (by omega)] <;> rfl
  have c1 : (its.toArray.isEmpty || k == 1) = false := by
    rw [hi, Bool.false_or]
    exact beq_eq_false_iff_ne.mpr (by omega)
  have c2 : (decide (k ≤ 0) || its.toArray.isEmpty) = false := by
    rw [hi, Bool.or_false]
    exact decide_eq_false (by omega)
  have c4 : Builtin.Tuple.tupleTooMany (((its.toArray.size : Nat) : Int) * k) = false := by
    unfold Builtin.Tuple.tupleTooMany
    rw [sizeLine_eq]
    exact decide_eq_false (by omega)
  have flen : (List.replicate k.toNat its).flatten.length ≤ sizeLine := by
    rw [PyProof.Rows.lm_len_rep_flat, hle, sizeLine_eq]
    omega
  refine wpAny_binaryOp_repeat_ref (T := "tuple") (U := "int") (by decide) ⟨_, ho, rfl⟩ (fun s' => typeIs_int s' k t) noFill_tuple_mul PySem.F.fills_int_mul PySem.F.slot_int_rmul repeat_tuple PySem.F.slot_int_index.lookup
    (call_meets PySem.F.slot_int_rmul (typeIs_int s k t) PySem.F.entry_int_rmul (PySem.F.args_int_rmul_2 _ _) (int_rmul_tuple k t l its.toArray n dd sl)
      ⟨ho, rfl, ⟨_, ho, rfl⟩, call_meets PySem.F.slot_tuple_mul ⟨_, ho, rfl⟩ PySem.F.entry_tuple_mul (PySem.F.args_tuple_mul_2 _ _) (tuple_mulW l its.toArray n dd sl k t c0 c1 c2 (by omega) c4 (by rw [size_rep, List.size_toArray]; exact flen)) ⟨ho, ?_⟩⟩)
  rw [size_rep]
  exact ⟨.ref s.heap.objs.size, _, laidP (t' := s.toks) I (fun b ob q => Heap.get?_push_of_some _ q) (Nat.le_refl _) (by rw [PyProof.Rows.lm_len_rep_flat, sizeLine_eq]; omega) (r.rep k.toNat) (Heap.get?_push_size _ rfl), rfl, q _ _ (I.hok.fresh (Nat.le_refl _)) ⟨rfl, rfl⟩⟩
def rMulA (K : Frag) : R2 := fun x y H Q => rI CMul (fun i j => .int (i * j)) x y H Q ∨ rStrMul x y H Q ∨ L2.rRep x y H Q ∨ rRepP K x y H Q
theorem op_mulA {X : Cx} : OpR X (binaryOp .Mult) (rMulA X.K) := op_mul.or (op_strMul.or (op_rep.or op_repP))
theorem reps_rep {K : Frag} {H : Hp} {P : Addr → Prop} {ds : List D} {xs : List V} (h : Reps K H P ds xs) : ∀ k : Nat, Reps K H P (rep k ds) (List.replicate k xs).flatten
  | 0 => by simp [rep, Reps]
  | k + 1 => by
    have := reps_append h (reps_rep h k)
    simpa [rep, List.replicate_succ] using this
theorem rep_len {α : Type} (k : Nat) (xs : List α) : (rep k xs).length = xs.length * k := by
  induction k with
  | zero => simp [rep]
  | succ k ih =>
    have : rep (k + 1) xs = xs ++ rep k xs := by simp [rep, List.replicate_succ]
    rw [this, List.length_append, ih, Nat.mul_succ]
    omega
theorem mul_ok {σ : Sg} {ρ : Env} {O : List Addr} {H : Hp} {x y d : D} {v u : V} {Q : VK} (rs : RS Γ O σ H ρ) (hx : Rep1 Γ.K H (Pc Γ O) x v) (hy : Rep1 Γ.K H (Pc Γ O) y u) (e : opD .mul x y = .ok d)
    (q : ∀ w H', Ex H H' → Val (Γ := Γ) O H H' d w → Q w H') : rMulA Γ.K v u H Q := by
  cases x <;> cases y <;> simp only [opD] at e <;> try contradiction
  case int.int i j =>
    simp only [Rep1, Rep] at hx hy
    subst hx hy
    split at e
    · cases e
      rename_i hc
      exact .inl ⟨i, j, rfl, rfl, (by unfold CMulB at hc; exact of_decide_eq_true (p := (-(2 ^ 64) < i ∧ i < 2 ^ 64) ∨ (-(2 ^ 64) < j ∧ j < 2 ^ 64)) hc), q _ _ (Ex.refl H) val_int⟩
    · cases e
  case str.int a k =>
    simp only [Rep1, Rep] at hx hy
    obtain ⟨hx, lx⟩ := hx
    subst hx hy
    split at e
    · cases e
      rename_i hc
      exact .inr (.inl ⟨a, k, rfl, rfl, hc.1, hc.2.1, hc.2.2, q _ _ (Ex.refl H) (val_str (by rw [rep_len, sizeLine_eq]; exact hc.1))⟩)
    · cases e
  case lst.int a k =>
    simp only [Rep1, Rep] at hx hy
    obtain ⟨l, xs, ex, hl, hr⟩ := hx
    subst ex hy
    split at e
    · cases e
      rename_i hc
      have h1 := hr.length
      exact .inr (.inr (.inl ⟨l, k, xs, rfl, rfl, hl, by omega, by omega, by rw [sizeLine_eq, ← h1]; exact hc.1, fun p hp => q _ _ (Ex.new hp) (val_lst rs hp (reps_rep hr k.toNat))⟩))
    · cases e
  case tup.int a k =>
    simp only [Rep1, Rep] at hx hy
    obtain ⟨l, xs, ex, hl, hr⟩ := hx
    subst ex hy
    split at e
    · cases e
      rename_i hc
      have h1 := hr.length
      refine .inr (.inr (.inr ⟨l, k, xs, rfl, rfl, hl.sq, fun z => ?_, hc.2.1, hc.2.2.1, by rw [← h1]; exact hc.2.2.2, fun p o hp ho => q _ _ (Ex.new hp) (val_tupN hp ho (reps_rep hr k.toNat))⟩))
      rw [z] at h1
      have h2 := hc.1
      rw [h1] at h2
      exact absurd h2 (by decide)
    · cases e

def opOf : Op → Operator
  | .add => .Add
  | .sub => .Sub
  | .mul => .Mult
  | .fdiv => .FloorDiv
  | .mod => .Mod
theorem opD_err (o : Op) (x y : D) (c : Nat) : opD o x y ≠ .err c := by
  intro h
  cases o <;> cases x <;> cases y <;> simp only [opD] at h <;> first | contradiction | (split at h <;> contradiction)
/-- SE: the text e is worth m -/
def SE (Γ : Ctx) (m : E) (e : Expr) : Prop := PE Γ.X e (TEm Γ m)
def ST (Γ : Ctx) (m : E) (e : Expr) : Prop := PT Γ.X e (TTm Γ m)
theorem se_bin {o : Op} {a b : E} {x y : Expr} {pos : Pos} (ha : SE Γ a x) (hb : SE Γ b y) : SE Γ (.bin o a b) (.BinOp x (opOf o) y pos) := by
  cases o with
  | add => exact PE.wk (pe_op op_addA ha hb) fun σ H Q h => TEm.bin (k := opD .add) (fun ρ => by simp only [ev]) (fun rs hx hy e q => add_ok rs hx hy e q) (opD_err _) h
  | sub => exact PE.wk (pe_op op_sub ha hb) fun σ H Q h => TEm.bin (k := opD .sub) (fun ρ => by simp only [ev]) (fun rs hx hy e q => sub_ok rs hx hy e q) (opD_err _) h
  | mul => exact PE.wk (pe_op op_mulA ha hb) fun σ H Q h => TEm.bin (k := opD .mul) (fun ρ => by simp only [ev]) (fun rs hx hy e q => mul_ok rs hx hy e q) (opD_err _) h
  | fdiv => exact PE.wk (pe_op op_fdiv ha hb) fun σ H Q h => TEm.bin (k := opD .fdiv) (fun ρ => by simp only [ev]) (fun rs hx hy e q => fdiv_ok rs hx hy e q) (opD_err _) h
  | mod => exact PE.wk (pe_op op_mod ha hb) fun σ H Q h => TEm.bin (k := opD .mod) (fun ρ => by simp only [ev]) (fun rs hx hy e q => mod_ok rs hx hy e q) (opD_err _) h
end VE

/-! Comparisons, names, constants, displays. -/
namespace VE
open PySem PySem.Spec PyProof.Rows L2
variable {Γ : Ctx}
/-- what the place of the text must be -/
structure XOk (Γ : Ctx) : Prop where
  calm : Γ.X.calm = true
  nd : Γ.X.N.Nodup
  units : Γ.X.A.units + 200 < cLine
  len : Γ.ks.length = Γ.X.N.length
  tk : Takes Γ.X Γ.W

/-! ### == != < <= > >= is in -/
abbrev Cnt : Type := Unit
def rEqA (K : Frag) (neg : Bool) : R2 := fun x y H Q => (∃ d e : PyData, Dp K H x d ∧ Dp K H y e ∧ d.plain = true ∧ e.plain = true ∧ min d.depth e.depth ≤ 60 ∧ Q (.bl (if neg then !PyData.eqv d e else PyData.eqv d e)) H) ∨
  ∃ (a b : Addr) (ns : List Int), x = .ref a ∧ y = .ref b ∧ SqL K H a (ns.map V.int) ∧ H b = some (.lst []) ∧ Q (.bl (if neg then !ns.isEmpty else ns.isEmpty)) H
theorem op_eqA {X : Cx} (hu : X.A.units + 200 < cLine) : OpR X (compareOp .Eq) (rEqA X.K false) := by
  intro pins s σ H x y v u Q I rx ry h
  rcases h with ⟨d, e, hd, he, pd, pe, hm, q⟩ | ⟨a, b, ns, rfl, rfl, ha, hb, q⟩
  · obtain ⟨as, r1⟩ := Dp.reads I d x v hd rx
    obtain ⟨bs, r2⟩ := Dp.reads I e y u he ry
    exact PySem.SeqAt.eq_plain r1 r2 pd pe (by omega) ⟨.bl _, H, I, rfl, q⟩
  · have h1 : Dp X.K H (.ref a) (.list (ns.map .int)) := .lst ha (dpInts ns)
    have h2 : Dp X.K H (.ref b) (.list []) := .lst (SqL.of hb) .nil
    obtain ⟨as, r1⟩ := Dp.reads I _ _ v h1 rx
    obtain ⟨bs, r2⟩ := Dp.reads I _ _ u h2 ry
    refine PySem.SeqAt.eq_plain r1 r2 (by simp only [PyData.plain]; exact plInts ns) (by simp [PyData.plain, PyData.plainAll]) ?_ ⟨.bl _, H, I, rfl, ?_⟩
    · have : (PyData.list []).depth ≤ 1 := by simp [PyData.depth, PyData.depthAll]
      omega
    · cases ns with
      | nil => simpa [PyData.eqv, PyData.eqvAll] using q
      | cons n r => simpa [PyData.eqv, PyData.eqvAll] using q
where
  dpInts {K : Frag} {H : Hp} : ∀ ns : List Int, DpAll K H (ns.map V.int) (ns.map PyData.int)
    | [] => .nil
    | n :: r => .cons (.int n) (dpInts r)
  plInts : ∀ ns : List Int, PyData.plainAll (ns.map PyData.int) = true
    | [] => by simp [PyData.plainAll]
    | n :: r => by simp [PyData.plainAll, PyData.plain, plInts r]
theorem op_neA {X : Cx} (hu : X.A.units + 200 < cLine) : OpR X (compareOp .NotEq) (rEqA X.K true) := by
  intro pins s σ H x y v u Q I rx ry h
  rcases h with ⟨d, e, hd, he, pd, pe, hm, q⟩ | ⟨a, b, ns, rfl, rfl, ha, hb, q⟩
  · obtain ⟨as, r1⟩ := Dp.reads I d x v hd rx
    obtain ⟨bs, r2⟩ := Dp.reads I e y u he ry
    exact PySem.SeqAt.ne_plain r1 r2 pd pe (by omega) ⟨.bl _, H, I, rfl, q⟩
  · have h1 : Dp X.K H (.ref a) (.list (ns.map .int)) := .lst ha (op_eqA.dpInts ns)
    have h2 : Dp X.K H (.ref b) (.list []) := .lst (SqL.of hb) .nil
    obtain ⟨as, r1⟩ := Dp.reads I _ _ v h1 rx
    obtain ⟨bs, r2⟩ := Dp.reads I _ _ u h2 ry
    refine PySem.SeqAt.ne_plain r1 r2 (by simp only [PyData.plain]; exact op_eqA.plInts ns) (by simp [PyData.plain, PyData.plainAll]) ?_ ⟨.bl _, H, I, rfl, ?_⟩
    · have : (PyData.list []).depth ≤ 1 := by simp [PyData.depth, PyData.depthAll]
      omega
    · cases ns with
      | nil => simpa [PyData.eqv, PyData.eqvAll] using q
      | cons n r => simpa [PyData.eqv, PyData.eqvAll] using q
theorem eqA_ok {σ : Sg} {ρ : Env} {O : List Addr} {H : Hp} {x y d : D} {v u : V} {Q : VK} {neg : Bool} (rs : RS Γ O σ H ρ) (hx : Rep1 Γ.K H (Pc Γ O) x v) (hy : Rep1 Γ.K H (Pc Γ O) y u)
    (e : mapB (if neg then (!·) else id) (eqD x y) = .ok d) (q : ∀ w H', Ex H H' → Val (Γ := Γ) O H H' d w → Q w H') : rEqA Γ.K neg v u H Q := by
  unfold eqD at e
  cases hs : eqScr x y with
  | some b =>
    rw [hs] at e
    unfold eqScr at hs
    split at hs
    · rename_i ns
      simp only [Rep1, Rep] at hx
      obtain ⟨a, ex, ha⟩ := hx
      obtain ⟨b', xs, ey, hb, hr⟩ := hy
      rw [reps_nilL] at hr
      subst hr ex ey
      cases hs
      simp only [mapB] at e
      cases e
      refine .inr ⟨a, b', ns, rfl, rfl, ha.sq, hb, ?_⟩
      have := q _ _ (Ex.refl H) val_bl
      cases neg <;> exact this
    · cases hs
  | none =>
    rw [hs] at e
    dsimp only at e
    by_cases hc : (plain x && plain y && decide (min (deep x) (deep y) ≤ 60)) = true
    · rw [if_pos hc] at e
      simp only [Bool.and_eq_true, decide_eq_true_eq] at hc
      obtain ⟨⟨px, py⟩, hm⟩ := hc
      simp only [mapB] at e
      cases e
      refine .inl ⟨toPy x, toPy y, hx.dp px, hy.dp py, plain_py x px, plain_py y py, by rw [deep_py x px, deep_py y py]; exact hm, ?_⟩
      rw [eqv_py x y px py]
      have := q _ _ (Ex.refl H) val_bl
      cases neg <;> exact this
    · rw [if_neg hc] at e
      cases e
/-! ### the order of data -/
mutual
theorem alike_py : ∀ x y : D, alike x y = true → PySem.W.alike (toPy x) (toPy y) = true := by
  intro x y h
  cases x <;> cases y <;> simp only [alike] at h <;> (try contradiction) <;> simp only [toPy, PySem.W.alike]
  case lst.lst a b => exact alikes_py a b h
  case tup.tup a b => exact alikes_py a b h
theorem alikes_py : ∀ xs ys : List D, alikes xs ys = true → PySem.W.alikeAll (toPys xs) (toPys ys) = true
  | [], _, _ => by simp [toPys, PySem.W.alikeAll]
  | _ :: _, [], _ => by simp [toPys, PySem.W.alikeAll]
  | x :: xs, y :: ys, h => by
    simp only [alikes, Bool.and_eq_true] at h
    simp only [toPys, PySem.W.alikeAll, Bool.and_eq_true]
    exact ⟨alike_py x y h.1, alikes_py xs ys h.2⟩
end
mutual
theorem alike_plain : ∀ x y : D, alike x y = true → alike x x = true → plain x = true := by
  intro x y h hx
  cases x <;> simp only [alike] at hx <;> (try contradiction) <;> simp only [plain]
  case lst a => exact alikes_plain a hx
  case tup a => exact alikes_plain a hx
theorem alikes_plain : ∀ xs : List D, alikes xs xs = true → plains xs = true
  | [], _ => rfl
  | x :: xs, h => by
    simp only [alikes, Bool.and_eq_true] at h
    simp only [plains, Bool.and_eq_true]
    exact ⟨alike_plain x x h.1 h.1, alikes_plain xs h.2⟩
end
mutual
theorem lt_py : ∀ x y : D, alike x y = true → plain x = true → plain y = true → PySem.W.dataLt (toPy x) (toPy y) = ltD x y := by
  intro x y h px py
  cases x <;> cases y <;> simp only [alike] at h <;> (try contradiction)
  case bl.bl a b => cases a <;> cases b <;> rfl
  case int.int a b =>
    simp only [toPy, ltD]
    exact PySem.W.dataLt_int a b
  case str.str a b =>
    simp only [toPy, ltD]
    exact PySem.W.dataLt_str _ _
  case lst.lst a b =>
    simp only [toPy, ltD]
    exact lts_py a b h (by simpa [plain] using px) (by simpa [plain] using py)
  case tup.tup a b =>
    simp only [toPy, ltD]
    exact lts_py a b h (by simpa [plain] using px) (by simpa [plain] using py)
theorem lts_py : ∀ xs ys : List D, alikes xs ys = true → plains xs = true → plains ys = true → PyProof.Rows.lexLt itemOrd (PySem.W.keyToksAll (toPys xs)) (PySem.W.keyToksAll (toPys ys)) = ltDs xs ys
  | [], [], _, _, _ => by simp only [toPys, ltDs]; exact PyProof.Rows.lex_irrefl _
  | [], y :: ys, _, _, _ => by
    simp only [toPys, ltDs, PySem.W.toks_all_cons, PySem.W.keyToksAll]
    rw [PyProof.Rows.lex_diff (O := itemOrd) (by simp)]
    simp [itemLt]
  | x :: xs, [], _, _, _ => by
    simp only [toPys, ltDs, PySem.W.toks_all_cons, PySem.W.keyToksAll]
    rw [PyProof.Rows.lex_diff (O := itemOrd) (by simp)]
    simp [itemLt]
  | x :: xs, y :: ys, h, px, py => by
    have q : plain x = true ∧ plains xs = true := by simpa [plains] using px
    have r : plain y = true ∧ plains ys = true := by simpa [plains] using py
    simp only [alikes, Bool.and_eq_true] at h
    simp only [toPys, ltDs]
    have e := eqv_py x y q.1 r.1
    cases c : eqv x y with
    | true =>
      rw [if_pos rfl, PySem.W.dataLt_all_yes (alike_py x y h.1) (by rw [e, c])]
      exact lts_py xs ys h.2 q.2 r.2
    | false =>
      rw [if_neg Bool.false_ne_true, PySem.W.dataLt_all_no (alike_py x y h.1) (by rw [e, c])]
      exact lt_py x y h.1 q.1 r.1
end
theorem ordQ_err {o : COp} {x y : D} {c : Nat} : ordQ o x y ≠ .err c := fun h => by
  unfold ordQ at h
  split at h
  · cases o <;> simp only at h <;> contradiction
  · contradiction
theorem ordQ_bool {o : COp} {x y d : D} (h : ordQ o x y = .ok d) : ∃ b, d = .bl b := by
  unfold ordQ at h
  split at h
  · cases o <;> simp only at h <;> first | contradiction | (cases h; exact ⟨_, rfl⟩)
  · contradiction
/-- < <= > >= of ints, of texts -/
def rOrd (K : PySem.W.Frag) (o : COp) : R2 := fun x y H Q => (∃ i j : Int, x = .int i ∧ y = .int j ∧ ∃ b, ordD o (.int i) (.int j) = .ok (.bl b) ∧ Q (.bl b) H) ∨
  (∃ i j : List Nat, x = .str (mkS i) ∧ y = .str (mkS j) ∧ ∃ b, ordD o (.str i) (.str j) = .ok (.bl b) ∧ Q (.bl b) H) ∨
  ∃ d e : D, Dp K H x (toPy d) ∧ Dp K H y (toPy e) ∧ toPy d ≠ .none ∧ toPy e ≠ .none ∧ ∃ b, ordQ o d e = .ok (.bl b) ∧ Q (.bl b) H
def cmpOf : COp → CmpOp
  | .eq => .Eq
  | .ne => .NotEq
  | .lt => .Lt
  | .le => .LtE
  | .gt => .Gt
  | .ge => .GtE
  | .is => .Is
  | .isnot => .IsNot
  | .inn => .In
  | .notin => .NotIn
theorem op_ordA {X : Cx} (hu : X.A.units + 200 < cLine) (o : COp) : OpR X (compareOp (cmpOf o)) (rOrd X.K o) := by
  intro pins s σ H x y v u Q I rx ry h
  rcases h with ⟨i, j, rfl, rfl, b, e, q⟩ | ⟨i, j, rfl, rfl, b, e, q⟩ | ⟨d, e', hd, he, nd, ne, b, e, q⟩
  · cases o <;> simp only [ordD] at e <;> try contradiction
    case lt => cases e; exact op_lt pins s σ H _ _ v u Q I rx ry ⟨i, j, rfl, rfl, q⟩
    case le => cases e; exact op_le pins s σ H _ _ v u Q I rx ry ⟨i, j, rfl, rfl, q⟩
    case gt => cases e; exact op_gt pins s σ H _ _ v u Q I rx ry ⟨i, j, rfl, rfl, q⟩
    case ge => cases e; exact op_ge pins s σ H _ _ v u Q I rx ry ⟨i, j, rfl, rfl, q⟩
  · cases o <;> simp only [ordD] at e <;> try contradiction
    case lt => cases e; exact op_lt_str pins s σ H _ _ v u Q I rx ry ⟨_, _, rfl, rfl, q⟩
    case le => cases e; exact op_le_str pins s σ H _ _ v u Q I rx ry ⟨_, _, rfl, rfl, q⟩
    case gt => cases e; exact op_gt_str pins s σ H _ _ v u Q I rx ry ⟨_, _, rfl, rfl, q⟩
    case ge => cases e; exact op_ge_str pins s σ H _ _ v u Q I rx ry ⟨_, _, rfl, rfl, q⟩
  · unfold ordQ at e
    split at e
    · rename_i hc
      simp only [Bool.and_eq_true, decide_eq_true_eq] at hc
      obtain ⟨⟨⟨al, al'⟩, px, py⟩, hm⟩ := hc
      obtain ⟨as, r1⟩ := Dp.reads I _ x v hd rx
      obtain ⟨bs, r2⟩ := Dp.reads I _ y u he ry
      have al1 := alike_py d e' al
      have hu2 : X.A.units + min (toPy d).depth (toPy e').depth < cLine := by rw [deep_py d px, deep_py e' py]; omega
      have l1 := lt_py d e' al px py
      have l2 : PySem.W.dataLt (toPy e') (toPy d) = ltD e' d := lt_py e' d al' py px
      cases o <;> simp only at e <;> try contradiction
      case lt => cases e; exact PySem.W.lt_data r1 r2 al1 nd hu2 (by rw [l1]; exact ⟨.bl _, H, I, rfl, q⟩)
      case le => cases e; exact PySem.W.le_data r1 r2 al1 nd hu2 (by rw [l2]; exact ⟨.bl _, H, I, rfl, q⟩)
      case gt => cases e; exact PySem.W.gt_data r1 r2 al1 nd hu2 (by rw [l2]; exact ⟨.bl _, H, I, rfl, q⟩)
      case ge => cases e; exact PySem.W.ge_data r1 r2 al1 nd hu2 (by rw [l1]; exact ⟨.bl _, H, I, rfl, q⟩)
    · contradiction
theorem ord_ok {σ : Sg} {ρ : Env} {O : List Addr} {H : Hp} {x y d : D} {v u : V} {Q : VK} {o : COp} (rs : RS Γ O σ H ρ) (hx : Rep1 Γ.K H (Pc Γ O) x v) (hy : Rep1 Γ.K H (Pc Γ O) y u)
    (e : ordD o x y = .ok d) (q : ∀ w H', Ex H H' → Val (Γ := Γ) O H H' d w → Q w H') : rOrd Γ.K o v u H Q := by
  cases x <;> cases y <;> simp only [ordD] at e <;> try contradiction
  case int.int i j =>
    simp only [Rep1, Rep] at hx hy
    subst hx hy
    refine .inl ⟨i, j, rfl, rfl, ?_⟩
    cases o <;> simp only at e <;> try contradiction
    all_goals (cases e; exact ⟨_, by simp only [ordD], q _ _ (Ex.refl H) val_bl⟩)
  case str.str i j =>
    simp only [Rep1, Rep] at hx hy
    obtain ⟨hx, _⟩ := hx
    obtain ⟨hy, _⟩ := hy
    subst hx hy
    refine .inr (.inl ⟨i, j, rfl, rfl, ?_⟩)
    cases o <;> simp only at e <;> try contradiction
    all_goals (cases e; exact ⟨_, by simp only [ordD], q _ _ (Ex.refl H) val_bl⟩)
  all_goals (
    obtain ⟨b, rfl⟩ := ordQ_bool e
    have hp := e
    unfold ordQ at hp
    split at hp
    · rename_i hc
      simp only [Bool.and_eq_true, decide_eq_true_eq] at hc
      exact .inr (.inr ⟨_, _, hx.dp hc.1.2.1, hy.dp hc.1.2.2, by simp [toPy], by simp [toPy], b, e, q _ _ (Ex.refl H) val_bl⟩)
    · contradiction)
/-- is, is not -/
def rIs (neg : Bool) : R2 := fun x y H Q => (y = .non ∧ Q (.bl (if neg then !decide (x = .non) else decide (x = .non))) H) ∨ ∃ a b, x = .bl a ∧ y = .bl b ∧ Q (.bl (if neg then !decide (a = b) else decide (a = b))) H
theorem op_isA {X : Cx} : OpR X (compareOp .Is) (rIs false) := by
  intro pins s σ H x y v u Q I rx ry h
  rcases h with ⟨rfl, q⟩ | ⟨a, b, rfl, rfl, q⟩
  · exact op_isN pins s σ H _ _ v u Q I rx ry ⟨rfl, q⟩
  · exact op_isBl pins s σ H _ _ v u Q I rx ry ⟨a, b, rfl, rfl, q⟩
theorem op_isnotA {X : Cx} : OpR X (compareOp .IsNot) (rIs true) := by
  intro pins s σ H x y v u Q I rx ry h
  rcases h with ⟨rfl, q⟩ | ⟨a, b, rfl, rfl, q⟩
  · exact op_notN pins s σ H _ _ v u Q I rx ry ⟨rfl, q⟩
  · exact op_notBl pins s σ H _ _ v u Q I rx ry ⟨a, b, rfl, rfl, q⟩
theorem rep1_non {K : Frag} {H : Hp} {P : Addr → Prop} {d : D} {v : V} (h : Rep1 K H P d v) : decide (v = .non) = isNon d := by
  cases d <;> simp only [Rep1, Rep] at h
  case non => subst h; rfl
  case bl b => subst h; rfl
  case int b => subst h; rfl
  case str b => obtain ⟨h, _⟩ := h; subst h; rfl
  case lst b => obtain ⟨a, _, h, _⟩ := h; subst h; rfl
  case tup b => obtain ⟨a, _, h, _⟩ := h; subst h; rfl
  case dic b c => obtain ⟨a, _, h, _⟩ := h; subst h; rfl
  case scr b => obtain ⟨a, h, _⟩ := h; subst h; rfl
theorem is_ok {σ : Sg} {ρ : Env} {O : List Addr} {H : Hp} {x y d : D} {v u : V} {Q : VK} {neg : Bool} (rs : RS Γ O σ H ρ) (hx : Rep1 Γ.K H (Pc Γ O) x v) (hy : Rep1 Γ.K H (Pc Γ O) y u)
    (e : mapB (if neg then (!·) else id) (isD x y) = .ok d) (q : ∀ w H', Ex H H' → Val (Γ := Γ) O H H' d w → Q w H') : rIs neg v u H Q := by
  cases y <;> simp only [isD, mapB] at e <;> try contradiction
  case non =>
    simp only [Rep1, Rep] at hy
    subst hy
    cases e
    refine .inl ⟨rfl, ?_⟩
    rw [rep1_non hx]
    have := q _ _ (Ex.refl H) val_bl
    cases neg <;> exact this
  case bl b =>
    cases x <;> simp only at e <;> try contradiction
    case bl a =>
      simp only [Rep1, Rep] at hx hy
      subst hx hy
      cases e
      refine .inr ⟨a, b, rfl, rfl, ?_⟩
      have := q _ _ (Ex.refl H) val_bl
      have e2 : decide (a = b) = (a == b) := by cases a <;> cases b <;> rfl
      rw [e2]
      cases neg <;> exact this
end VE

/-! in; comparisons as a whole; names, constants, displays, tests. -/
namespace VE
open PySem PySem.Spec PyProof.Rows L2
variable {Γ : Ctx}
/-! ### in, not in -/
def rInA (K : Frag) (neg : Bool) : R2 := fun x y H Q =>
  (∃ (c : Nat) (z : List Nat), x = .str (mkS [c]) ∧ y = .str (mkS z) ∧ Q (.bl (if neg then !decide (c ∈ z) else decide (c ∈ z))) H) ∨
  (∃ (d : PyData) (ds : List PyData), Dp K H x d ∧ (Dp K H y (.list ds) ∨ Dp K H y (.tuple ds)) ∧ d.plain = true ∧ PyData.plainAll ds = true ∧ min (PyData.depthAll ds) d.depth ≤ 60 ∧ Q (.bl (if neg then !(ds.any fun z => PyData.eqv z d) else ds.any fun z => PyData.eqv z d)) H)
theorem op_inA {X : Cx} (hu : X.A.units + 200 < cLine) : OpR X (compareOp .In) (rInA X.K false) := by
  intro pins s σ H x y v u Q I rx ry h
  rcases h with ⟨c, z, rfl, rfl, q⟩ | ⟨d, ds, hd, he, pd, pe, hm, q⟩
  · exact op_in_sign pins s σ H _ _ v u Q I rx ry ⟨c, mkS z, rfl, rfl, q⟩
  · obtain ⟨as, r1⟩ := Dp.reads I d x v hd rx
    rcases he with he | he
    · obtain ⟨bs, r2⟩ := Dp.reads I _ y u he ry
      exact PySem.SeqAt.in_list_data r2 r1 pe pd (by omega) ⟨.bl _, H, I, rfl, q⟩
    · obtain ⟨bs, r2⟩ := Dp.reads I _ y u he ry
      exact PySem.SeqAt.in_tuple_data r2 r1 pe pd (by omega) ⟨.bl _, H, I, rfl, q⟩
theorem op_notinA {X : Cx} (hu : X.A.units + 200 < cLine) : OpR X (compareOp .NotIn) (rInA X.K true) := by
  intro pins s σ H x y v u Q I rx ry h
  rcases h with ⟨c, z, rfl, rfl, q⟩ | ⟨d, ds, hd, he, pd, pe, hm, q⟩
  · exact op_notIn_sign pins s σ H _ _ v u Q I rx ry ⟨c, mkS z, rfl, rfl, q⟩
  · obtain ⟨as, r1⟩ := Dp.reads I d x v hd rx
    rcases he with he | he
    · obtain ⟨bs, r2⟩ := Dp.reads I _ y u he ry
      exact PySem.SeqAt.notIn_list_data r2 r1 pe pd (by omega) ⟨.bl _, H, I, rfl, q⟩
    · obtain ⟨bs, r2⟩ := Dp.reads I _ y u he ry
      exact PySem.SeqAt.notIn_tuple_data r2 r1 pe pd (by omega) ⟨.bl _, H, I, rfl, q⟩
theorem any_py {x : D} (px : plain x = true) : ∀ {ds : List D}, plains ds = true → ((toPys ds).any fun z => PyData.eqv z (toPy x)) = ds.any fun y => eqv y x
  | [], _ => by simp [toPys]
  | d :: ds, h => by
    have q : plain d = true ∧ plains ds = true := by simpa [plains] using h
    simp only [toPys, List.any_cons, eqv_py d x q.1 px, any_py px q.2]
theorem in_ok {σ : Sg} {ρ : Env} {O : List Addr} {H : Hp} {x y d : D} {v u : V} {Q : VK} {neg : Bool} (rs : RS Γ O σ H ρ) (hx : Rep1 Γ.K H (Pc Γ O) x v) (hy : Rep1 Γ.K H (Pc Γ O) y u) (nd : ∀ ks vs, y ≠ .dic ks vs)
    (e : mapB (if neg then (!·) else id) (inD x y) = .ok d) (q : ∀ w H', Ex H H' → Val (Γ := Γ) O H H' d w → Q w H') : rInA Γ.K neg v u H Q := by
  cases y <;> simp only [inD] at e <;> try (simp only [mapB] at e; contradiction)
  case str z =>
    cases hs : sign x with
    | some c =>
      rw [hs] at e
      have hx' := sign_eq hs
      subst hx'
      simp only [mapB] at e
      cases e
      simp only [Rep1, Rep] at hx hy
      obtain ⟨hx, _⟩ := hx
      obtain ⟨hy, _⟩ := hy
      subst hx hy
      refine .inl ⟨c, z, rfl, rfl, ?_⟩
      have := q _ _ (Ex.refl H) val_bl
      cases neg <;> exact this
    | none =>
      rw [hs] at e
      simp only [mapB] at e; contradiction
  case lst ds =>
    by_cases hc : (plain x && plains ds && decide (min (deeps ds) (deep x) ≤ 60)) = true
    · rw [if_pos hc] at e
      simp only [Bool.and_eq_true, decide_eq_true_eq] at hc
      obtain ⟨⟨px, py⟩, hm⟩ := hc
      simp only [mapB] at e
      cases e
      refine .inr ⟨toPy x, toPys ds, hx.dp px, .inl ?_, plain_py x px, plains_py ds py, by rw [deep_py x px, deeps_py ds py]; exact hm, ?_⟩
      · have := hy.dp (d := .lst ds) (by simpa [plain] using py)
        simpa only [toPy] using this
      · rw [any_py px py]
        have := q _ _ (Ex.refl H) val_bl
        cases neg <;> exact this
    · rw [if_neg hc] at e
      simp only [mapB] at e; contradiction
  case tup ds =>
    by_cases hc : (plain x && plains ds && decide (min (deeps ds) (deep x) ≤ 60)) = true
    · rw [if_pos hc] at e
      simp only [Bool.and_eq_true, decide_eq_true_eq] at hc
      obtain ⟨⟨px, py⟩, hm⟩ := hc
      simp only [mapB] at e
      cases e
      refine .inr ⟨toPy x, toPys ds, hx.dp px, .inr ?_, plain_py x px, plains_py ds py, by rw [deep_py x px, deeps_py ds py]; exact hm, ?_⟩
      · have := hy.dp (d := .tup ds) (by simpa [plain] using py)
        simpa only [toPy] using this
      · rw [any_py px py]
        have := q _ _ (Ex.refl H) val_bl
        cases neg <;> exact this
    · rw [if_neg hc] at e
      simp only [mapB] at e; contradiction
  case dic ks vs => exact (nd ks vs rfl).elim
/-- keys of a dict -/
theorem keyEq_kD (k k' : Key) : keyEq (kD k) (kD k') = decide (k = k') := by
  cases k with
  | inl i => cases k' with
    | inl j =>
      show (i == j) = _
      by_cases h : i = j
      · subst h; simp
      · rw [beq_eq_false_iff_ne.mpr h, decide_eq_false fun q => h (Sum.inl.inj q)]
    | inr y => rfl
  | inr x => cases k' with
    | inl j => rfl
    | inr y =>
      show (x.cps.toList == y.cps.toList) = _
      by_cases h : x = y
      · subst h; simp
      · have h' : x.cps.toList ≠ y.cps.toList := fun q => h (PySem.W.str_of_cps q)
        rw [beq_eq_false_iff_ne.mpr h', decide_eq_false fun q => h (Sum.inr.inj q)]
theorem isKey_kD {x : D} (h : isKey x = true) {K : Frag} {H : Hp} {P : Addr → Prop} {v : V} (hx : Rep1 K H P x v) : ∃ k, x = kD k ∧ v = kV k := by
  cases x <;> simp only [isKey] at h <;> try contradiction
  case int i => simp only [Rep1, Rep] at hx; exact ⟨.inl i, rfl, hx⟩
  case str s => simp only [Rep1, Rep] at hx; exact ⟨.inr (mkS s), rfl, hx.1⟩
theorem dget_kv {K : Frag} {H : Hp} {P : Addr → Prop} {k : Key} : ∀ {kvs : List (Key × V)} {vs : List D}, Reps K H P vs (kvs.map (·.2)) →
    match dget (kD k) (kvs.map fun p => kD p.1) vs with
    | some d => ∃ v, valV kvs k = some v ∧ Rep K H P d v
    | none => valV kvs k = none
  | [], vs, h => by simp [dget, valV]
  | (k', v) :: r, [], h => by simp [Reps] at h
  | (k', v) :: r, d :: ds, h => by
    rw [List.map_cons, reps_cons] at h
    simp only [List.map_cons, dget, keyEq_kD]
    by_cases e : k' = k
    · subst e
      simp only [decide_true, if_true]
      exact ⟨v, by simp [valV], h.1⟩
    · have ih := dget_kv (k := k) h.2
      simp only [decide_eq_false e, Bool.false_eq_true, if_false]
      have e2 : valV ((k', v) :: r) k = valV r k := by simp [valV, List.find?_cons, e]
      rw [e2]
      exact ih
theorem dget_some {K : Frag} {H : Hp} {P : Addr → Prop} {k : Key} {kvs : List (Key × V)} {vs : List D} (h : Reps K H P vs (kvs.map (·.2))) : (dget (kD k) (kvs.map fun p => kD p.1) vs).isSome = (valV kvs k).isSome := by
  have := dget_kv (k := k) h
  cases q : dget (kD k) (kvs.map fun p => kD p.1) vs with
  | none => rw [q] at this; rw [this]; rfl
  | some d => rw [q] at this; obtain ⟨v, e, _⟩ := this; rw [e]; rfl
def rDicIn (neg : Bool) : R2 := fun x y H Q => ∃ a o, y = .ref a ∧ DGet H a x o ∧ Q (.bl (if neg then !o.isSome else o.isSome)) H
theorem op_dicIn {X : Cx} (hu : X.A.units + 200 < cLine) : OpR X (compareOp .In) (rDicIn false) := by
  intro pins s σ H x y v u Q I rx ry h
  obtain ⟨a, o, rfl, g, q⟩ := h
  cases ry
  exact d_in (by omega) I g rx fun s3 I3 => ⟨.bl o.isSome, H, I3, rfl, q⟩
theorem op_dicNotIn {X : Cx} (hu : X.A.units + 200 < cLine) : OpR X (compareOp .NotIn) (rDicIn true) := by
  intro pins s σ H x y v u Q I rx ry h
  obtain ⟨a, o, rfl, g, q⟩ := h
  cases ry
  exact d_notIn (by omega) I g rx fun s3 I3 => ⟨.bl (!o.isSome), H, I3, rfl, q⟩
theorem inAll_ok {σ : Sg} {ρ : Env} {O : List Addr} {H : Hp} {x y d : D} {v u : V} {Q : VK} {neg : Bool} (rs : RS Γ O σ H ρ) (hx : Rep1 Γ.K H (Pc Γ O) x v) (hy : Rep1 Γ.K H (Pc Γ O) y u)
    (e : mapB (if neg then (!·) else id) (inD x y) = .ok d) (q : ∀ w H', Ex H H' → Val (Γ := Γ) O H H' d w → Q w H') : rInA Γ.K neg v u H Q ∨ rDicIn neg v u H Q := by
  by_cases hd : ∃ ks vs, y = .dic ks vs
  · obtain ⟨ks, vs, rfl⟩ := hd
    simp only [inD] at e
    by_cases hk : isKey x = true
    · rw [if_pos hk] at e
      simp only [mapB] at e
      cases e
      obtain ⟨k, ex, ev'⟩ := isKey_kD hk hx
      obtain ⟨a, kvs, ey, hr, ⟨hm, hsh⟩, hs⟩ := hy
      subst ex ev' ey hm
      refine .inr ⟨a, _, rfl, .inl ⟨kvs, k, hr, rfl, rfl⟩, ?_⟩
      rw [← dget_some (k := k) hs]
      have := q _ _ (Ex.refl H) val_bl
      cases neg <;> exact this
    · rw [if_neg hk] at e
      simp only [mapB] at e; contradiction
  · exact .inl (in_ok rs hx hy (fun ks vs h => hd ⟨ks, vs, h⟩) e q)
/-! ### a comparison as a whole -/
def rCmp (K : Frag) : COp → R2
  | .eq => rEqA K false
  | .ne => rEqA K true
  | .is => rIs false
  | .isnot => rIs true
  | .inn => fun x y H Q => rInA K false x y H Q ∨ rDicIn false x y H Q
  | .notin => fun x y H Q => rInA K true x y H Q ∨ rDicIn true x y H Q
  | o => rOrd K o
theorem op_cmp {X : Cx} (hu : X.A.units + 200 < cLine) (o : COp) : OpR X (compareOp (cmpOf o)) (rCmp X.K o) := by
  cases o with
  | eq => exact op_eqA hu
  | ne => exact op_neA hu
  | is => exact op_isA
  | isnot => exact op_isnotA
  | inn => exact (op_inA hu).or (op_dicIn hu)
  | notin => exact (op_notinA hu).or (op_dicNotIn hu)
  | lt => exact op_ordA hu .lt
  | le => exact op_ordA hu .le
  | gt => exact op_ordA hu .gt
  | ge => exact op_ordA hu .ge
theorem cmp_ok {σ : Sg} {ρ : Env} {O : List Addr} {H : Hp} {x y d : D} {v u : V} {Q : VK} {o : COp} (rs : RS Γ O σ H ρ) (hx : Rep1 Γ.K H (Pc Γ O) x v) (hy : Rep1 Γ.K H (Pc Γ O) y u)
    (e : cmpD o x y = .ok d) (q : ∀ w H', Ex H H' → Val (Γ := Γ) O H H' d w → Q w H') : rCmp Γ.K o v u H Q := by
  cases o <;> simp only [cmpD] at e
  case eq => exact eqA_ok (neg := false) rs hx hy e q
  case ne => exact eqA_ok (neg := true) rs hx hy e q
  case is => exact is_ok (neg := false) rs hx hy e q
  case isnot => exact is_ok (neg := true) rs hx hy e q
  case inn => exact inAll_ok (neg := false) rs hx hy e q
  case notin => exact inAll_ok (neg := true) rs hx hy e q
  case lt => exact ord_ok rs hx hy e q
  case le => exact ord_ok rs hx hy e q
  case gt => exact ord_ok rs hx hy e q
  case ge => exact ord_ok rs hx hy e q
theorem mapB_err {f : Bool → Bool} {r : Res Bool} {c : Nat} (h : ∀ c, r ≠ .err c) : mapB f r ≠ .err c := by
  intro e
  cases r <;> simp only [mapB] at e <;> try contradiction
  case err k => exact h k rfl
theorem cmpD_err (o : COp) (x y : D) (c : Nat) : cmpD o x y ≠ .err c := by
  have h1 : ∀ c, eqD x y ≠ .err c := fun c h => by
    unfold eqD at h
    split at h
    · contradiction
    · split at h <;> contradiction
  have h2 : ∀ c, inD x y ≠ .err c := fun c h => by
    cases y <;> simp only [inD] at h <;> try contradiction
    all_goals (split at h <;> contradiction)
  have h3 : ∀ c, isD x y ≠ .err c := fun c h => by
    cases y <;> simp only [isD] at h <;> try contradiction
    all_goals (split at h <;> contradiction)
  have h4 : ∀ o c, ordD o x y ≠ .err c := fun o c h => by
    cases x <;> cases y <;> simp only [ordD] at h <;> try contradiction
    case lst.lst => exact ordQ_err h
    case tup.tup => exact ordQ_err h
    all_goals (cases o <;> simp only at h <;> contradiction)
  cases o <;> simp only [cmpD]
  case eq => exact mapB_err h1
  case ne => exact mapB_err h1
  case is => exact mapB_err h3
  case isnot => exact mapB_err h3
  case inn => exact mapB_err h2
  case notin => exact mapB_err h2
  all_goals exact h4 _ c
/-- no set display behind in -/
def noSet : Expr → Bool
  | .Set _ _ _ => false
  | _ => true
theorem marks_of {o : CmpOp} {e : Expr} (h : noSet e = true) : behindInMarks o e = false := by
  cases e <;> first | rfl | simp [noSet] at h
theorem cmpD_bool {o : COp} {x y d : D} (e : cmpD o x y = .ok d) : ∃ b, d = .bl b := by
  have hm : ∀ {f : Bool → Bool} {r : Res Bool}, mapB f r = .ok d → ∃ b, d = .bl b := fun {f r} h => by
    cases r <;> simp only [mapB] at h <;> try contradiction
    cases h; exact ⟨_, rfl⟩
  have ho : ∀ o, ordD o x y = .ok d → ∃ b, d = .bl b := fun o h => by
    cases x <;> cases y <;> simp only [ordD] at h <;> try contradiction
    case lst.lst => exact ordQ_bool h
    case tup.tup => exact ordQ_bool h
    all_goals (cases o <;> simp only at h <;> try contradiction)
    all_goals (cases h; exact ⟨_, rfl⟩)
  cases o <;> simp only [cmpD] at e
  case eq => exact hm e
  case ne => exact hm e
  case is => exact hm e
  case isnot => exact hm e
  case inn => exact hm e
  case notin => exact hm e
  all_goals exact ho _ e
theorem se_cmp (ok : XOk Γ) {o : COp} {a b : E} {x y : Expr} {pos : Pos} (ha : SE Γ a x) (hb : SE Γ b y) (hn : noSet y = true) : SE Γ (.cmp o a b) (.Compare x [cmpOf o] [y] pos) :=
  PE.wk (pe_cmpR (op_cmp ok.units o) ha hb (marks_of hn)) fun σ H Q h => TEm.bin (k := cmpD o) (fun ρ => by simp only [ev]) (fun rs hx hy e q => cmp_ok rs hx hy e q) (cmpD_err o) h
/-- as a test -/
theorem TTm.of {m : E} {σ : Sg} {H : Hp} {Q : Bool → Hp → Prop} (h : TTm Γ m σ H Q) : TEm Γ m σ H fun x H1 => ∃ c, x = .bl c ∧ Q c H1 := by
  obtain ⟨ρ, O, rs, h⟩ := h
  refine ⟨ρ, O, rs, h.bnd.mono fun d ed hd v H1 e1 o1 => ?_⟩
  have hd' : Fin Γ σ H (asBool d) _ := hd
  cases d <;> simp only [asBool] at hd' <;> try exact hd'.elim
  case bl b =>
    have := o1.one
    simp only [Rep1, Rep] at this
    exact ⟨b, this, hd' H1 e1⟩
theorem st_cmp (ok : XOk Γ) {o : COp} {a b : E} {x y : Expr} {pos : Pos} (ha : SE Γ a x) (hb : SE Γ b y) (hn : noSet y = true) : ST Γ (.cmp o a b) (.Compare x [cmpOf o] [y] pos) :=
  PT.wk (pt_cmpR (op_cmp ok.units o) ha hb (marks_of hn)) fun σ H Q h => TEm.bin (k := cmpD o) (fun ρ => by simp only [ev]) (fun rs hx hy e q => cmp_ok rs hx hy e q) (cmpD_err o) h.of
theorem st_val {m : E} {e : Expr} (h : SE Γ m e) (he : ∀ whole, isTrue e Γ.X.env whole = (do let v ← whole; standAt e.pos; holding [v] (truthy v))) : ST Γ m e :=
  PT.wk (pt_val h he) fun σ H Q q => q.of
end VE

/-! Names, constants, displays, and, or, not, if; places and slices. -/
namespace VE
open PySem PySem.Spec PyProof.Rows L2
variable {Γ : Ctx}
theorem se_var {i : Nat} {x : PySem.Str} {pos : Pos} (hN : Γ.X.N[i]? = some x) (hv : Vis Γ.X.env.scope x) (hd : (x == ("__debug__" : PySem.Str)) = false) (hcd : (x == ("__classdict__" : PySem.Str)) = false) : SE Γ (.v i) (.Name x pos) :=
  PE.wk (pe_var hN hv hd hcd) fun σ H Q h => by
    obtain ⟨ρ, O, rs, h⟩ := h
    simp only [ev, Env.get] at h
    cases e : ρ[i]? with
    | none => rw [e] at h; exact h.elim
    | some o => cases o with
      | none => rw [e] at h; exact h.elim
      | some d =>
        rw [e] at h
        obtain ⟨v, hv, kr⟩ := rs.val i d e
        refine ⟨v, hv, h v H (Ex.refl H) ⟨kr.one, fun q => ?_, (fun q => by simp [fr] at q), fun q => ?_⟩⟩
        · simp only [lk, Bool.or_eq_true, beq_iff_eq] at q
          rcases q with q | q
          · rw [q] at kr
            exact kr
          · rw [q] at kr
            exact kr.1
        · cases hk : kdAt Γ.ks i with
          | ord => rw [hk] at kr; exact Rep.away (Γ := Γ) kr
          | fz => rw [hk] at kr; exact Rep.away (Γ := Γ) kr.1
          | bor =>
            rw [hk] at kr
            exact kr.2
          | own => simp [farB, hk] at q
theorem se_c {d : D} {v : V} {e : Expr} (h : PE Γ.X e (tC v)) (hr : ∀ H P, Rep Γ.K H P d v) (hf : ∀ H H' P, Fresh Γ.K H H' P d v) : SE Γ (.c d) e :=
  PE.wk h fun σ H Q h => by
    obtain ⟨ρ, O, rs, h⟩ := h
    simp only [ev] at h
    exact h v H (Ex.refl H) ⟨(hr _ _).one, fun _ => hr _ _, fun _ => hf _ _ _, fun _ => Rep.away (Γ := Γ) (hr H (Pc Γ O))⟩
theorem se_int {i : Int} {j : Nat} {pos : Pos} : SE Γ (.c (.int i)) (.Constant (.int i) j pos) := se_c pe_int (fun _ _ => by simp [Rep]) fun _ _ _ => trivial
theorem se_bl {i : Bool} {j : Nat} {pos : Pos} : SE Γ (.c (.bl i)) (.Constant (.bool i) j pos) := se_c pe_bl (fun _ _ => by simp [Rep]) fun _ _ _ => trivial
theorem se_non {j : Nat} {pos : Pos} : SE Γ (.c .non) (.Constant .none j pos) := se_c pe_non (fun _ _ => by simp [Rep]) fun _ _ _ => trivial
theorem se_str {s : List Nat} {x : PySem.Str} {j : Nat} {pos : Pos} (hx : x.cps.toList = s) (hl : s.length ≤ 100000) : SE Γ (.c (.str s)) (.Constant (.str x) j pos) := by
  have e : x = mkS s := PySem.W.str_of_cps (by rw [hx])
  subst e
  exact se_c pe_str (fun _ _ => by unfold Rep; exact ⟨rfl, by rw [sizeLine_eq]; omega⟩) fun _ _ _ => trivial

/-! ### argument lists -/
def noStar : Expr → Bool
  | .Starred _ _ => false
  | _ => true
theorem star_of {e : Expr} {es : List Expr} {env : PySem.Env} (h : noStar e = true) : starEach (e :: es) env = (false, eval e env) :: starEach es env := by
  cases e <;> first | rfl | simp [noStar] at h
theorem star_any {env : PySem.Env} {pos : Pos} : ∀ {es : List Expr}, es.all noStar = true → (backTo pos (starEach es env)).any (·.1) = false
  | [], _ => rfl
  | e :: es, h => by
    rw [List.all_cons, Bool.and_eq_true] at h
    have ih := star_any (env := env) (pos := pos) h.2
    rw [star_of h.1]
    show (false || (backTo pos (starEach es env)).any (·.1)) = false
    rw [ih]
    rfl
def SA (Γ : Ctx) (ms : Es) (es : List Expr) : Prop := PA Γ.X es (TAm Γ ms)
theorem sa_nil : SA Γ .nil [] := PA.wk pa_nil fun σ H Q h => by
  obtain ⟨ρ, O, rs, h⟩ := h
  simp only [evs] at h
  exact h [] H (Ex.refl H) (by simp [Outs])
theorem sa_cons {m : E} {ms : Es} {e : Expr} {es : List Expr} (h : SE Γ m e) (hs : SA Γ ms es) (hn : noStar e = true) : SA Γ (.cons m ms) (e :: es) :=
  PA.wk (pa_cons h hs (star_of hn)) fun σ H Q h => by
    obtain ⟨ρ, O, rs, h⟩ := h
    simp only [evs] at h
    refine ⟨ρ, O, rs, h.bnd.mono fun d ed hd v H1 e1 o1 => ?_⟩
    refine ⟨ρ, O, rs.ext e1, hd.bnd.imp e1 fun ds eds hds vs H2 e2 o2 => ?_⟩
    exact hds (v :: vs) H2 (e1.trans e2) (by simp only [Outs]; exact ⟨⟨o1.one.ex e2, fun q => (o1.ord q).ex e2⟩, o2⟩)
theorem se_tup {ms : Es} {es : List Expr} {k : Nat} {pos : Pos} (h : SA Γ ms es) (hl : lks Γ.ks ms = true) (hz : ms.len ≤ 100000) : SE Γ (.tup ms) (.Tuple es k pos) :=
  PE.wk (pe_tupP h) fun σ H Q h => by
    obtain ⟨ρ, O, rs, h⟩ := h
    simp only [ev] at h
    refine ⟨ρ, O, rs, h.bnd.mono fun ds ed hd vs H1 e1 o1 => ⟨by rw [o1.lenV.1, sizeLine_eq]; omega, fun p o hp ho => ?_⟩⟩
    exact hd (.ref p) _ (e1.trans (Ex.new hp)) ((val_tupN hp ho (o1.reps hl)).back e1).out
theorem se_lst {ms : Es} {es : List Expr} {pos : Pos} (h : SA Γ ms es) (hl : lks Γ.ks ms = true) (hz : ms.len ≤ 100000) : SE Γ (.lst ms) (.List es pos) :=
  PE.wk (pe_lst h) fun σ H Q h => by
    obtain ⟨ρ, O, rs, h⟩ := h
    simp only [ev] at h
    refine ⟨ρ, O, rs, h.bnd.mono fun ds ed hd vs H1 e1 o1 => ⟨by rw [o1.lenV.1, sizeLine_eq]; omega, fun p hp => ?_⟩⟩
    exact hd (.ref p) _ (e1.trans (Ex.new hp)) ((val_lst (rs.ext e1) hp (o1.reps hl)).back e1).out
theorem se_neg {a : E} {x : Expr} {pos : Pos} (h : SE Γ a x) : SE Γ (.neg a) (.UnaryOp .USub x pos) :=
  PE.wk (pe_un un_neg h) fun σ H Q h => TEm.un (k := fun x => (asInt x).bind fun i => .ok (.int (-i))) (fun ρ => by simp only [ev]) (fun {ρ O H x v d Q} rs hx e q => by
    cases x <;> simp only [asInt, Res.bind_ok, Res.bind_bad] at e <;> try contradiction
    case int i =>
      cases e
      simp only [Rep1, Rep] at hx
      exact ⟨i, hx, q _ _ (Ex.refl H) val_int⟩) (fun x c h => by cases x <;> simp only [asInt, Res.bind_ok, Res.bind_bad] at h <;> contradiction) h
/-- a value that is a truth -/
theorem TEm.truth {m : E} {σ : Sg} {H : Hp} {β : Type} {k : Bool → Res β} {K : β → Prop} {ρ : Env} {O : List Addr} (rs : RS Γ O σ H ρ) (h : Fin Γ σ H ((ev Γ.cf m ρ).bind fun x => (asBool x).bind k) K) :
    ∀ {Q : VK}, (∀ b H1, Ex H H1 → Fin Γ σ H1 (k b) (fun a => K a) → Q (.bl b) H1) → TEm Γ m σ H Q := fun {Q} q => by
  refine ⟨ρ, O, rs, h.bnd.mono fun d ed hd v H1 e1 o1 => ?_⟩
  have hd' : Fin Γ σ H ((asBool d).bind k) K := hd
  cases d <;> simp only [asBool, Res.bind_bad, Res.bind_ok] at hd' <;> try exact hd'.elim
  case bl b =>
    have := o1.one
    simp only [Rep1, Rep] at this
    subst this
    exact q b H1 e1 (hd'.imp e1 fun _ _ z => z)
theorem se_not {a : E} {x : Expr} {pos : Pos} (h : SE Γ a x) : SE Γ (.not a) (.UnaryOp .Not x pos) :=
  PE.wk (pe_not h) fun σ H Q h => by
    obtain ⟨ρ, O, rs, h⟩ := h
    simp only [ev] at h
    exact TEm.truth rs h fun b H1 e1 hb => ⟨b, rfl, hb _ _ e1 ((val_bl (H := H1)).back e1).out⟩
theorem st_not {a : E} {x : Expr} {pos : Pos} (h : ST Γ a x) : ST Γ (.not a) (.UnaryOp .Not x pos) :=
  PT.wk (pt_not h) fun σ H Q h => by
    obtain ⟨ρ, O, rs, h⟩ := h
    refine ⟨ρ, O, rs, ?_⟩
    simp only [ev] at h
    cases e : ev Γ.cf a ρ with
    | ok d =>
      rw [e] at h
      cases d <;> simp only [asBool, Res.bind_ok, Res.bind_bad] at h ⊢ <;> try exact h.elim
      case bl b => exact h
    | err c => rw [e] at h; exact h
    | bad => rw [e] at h; exact h
def SL (Γ : Ctx) : Es → List Expr → Prop
  | .nil, [] => True
  | .cons m ms, e :: es => (SE Γ m e ∧ ST Γ m e) ∧ SL Γ ms es
  | _, _ => False
def rdE (Γ : Ctx) (f : Env → Res D) : TE := fun σ H Q => ∃ ρ O, RS Γ O σ H ρ ∧ Fin Γ σ H (f ρ) fun d => ∀ v H', Ex H H' → Val (Γ := Γ) O H H' d v → Q v H'
def rdT (Γ : Ctx) (f : Env → Res D) : TT := fun σ H Q => ∃ ρ O, RS Γ O σ H ρ ∧ Fin Γ σ H ((f ρ).bind asBool) fun b => ∀ H', Ex H H' → Q b H'
theorem pe_ands : ∀ {ms : Es} {es : List Expr} {pos : Pos}, SL Γ ms es → 0 < ms.len → PE Γ.X (.BoolOp .And es pos) (rdE Γ (evAnd Γ.cf ms))
  | .nil, _, _, _, h => by simp [Es.len] at h
  | .cons m .nil, [e], pos, h, _ => by
    simp only [SL] at h
    refine PE.wk (pe_one h.1.1) fun σ H Q q => ?_
    obtain ⟨ρ, O, rs, q⟩ := q
    simp only [evAnd] at q
    exact TEm.truth rs q fun b H1 e1 hb => hb _ _ e1 ((val_bl (H := H1)).back e1)
  | .cons m (.cons m2 ms), e :: e2 :: es, pos, h, _ => by
    have h' : (SE Γ m e ∧ ST Γ m e) ∧ SL Γ (.cons m2 ms) (e2 :: es) := by simpa only [SL] using h
    refine PE.wk (pe_and h'.1.1 (pe_ands h'.2 (by simp [Es.len]))) fun σ H Q q => ?_
    obtain ⟨ρ, O, rs, q⟩ := q
    simp only [evAnd] at q
    refine TEm.truth rs q fun b H1 e1 hb => ⟨b, rfl, ?_⟩
    cases b with
    | true =>
      rw [if_pos rfl]
      exact ⟨ρ, O, rs.ext e1, Fin.mono hb fun d _ hd v H2 e2 vl => hd v H2 (e1.trans e2) (vl.back e1)⟩
    | false =>
      rw [if_neg Bool.false_ne_true]
      exact hb _ _ e1 ((val_bl (H := H1)).back e1)
  | .cons _ .nil, [], _, h, _ => by simp [SL] at h
  | .cons _ .nil, _ :: _ :: _, _, h, _ => by simp [SL] at h
  | .cons _ (.cons _ _), [], _, h, _ => by simp [SL] at h
  | .cons _ (.cons _ _), [_], _, h, _ => by simp [SL] at h
theorem pe_ors : ∀ {ms : Es} {es : List Expr} {pos : Pos}, SL Γ ms es → 0 < ms.len → PE Γ.X (.BoolOp .Or es pos) (rdE Γ (evOr Γ.cf ms))
  | .nil, _, _, _, h => by simp [Es.len] at h
  | .cons m .nil, [e], pos, h, _ => by
    simp only [SL] at h
    refine PE.wk (pe_one h.1.1) fun σ H Q q => ?_
    obtain ⟨ρ, O, rs, q⟩ := q
    simp only [evOr] at q
    exact TEm.truth rs q fun b H1 e1 hb => hb _ _ e1 ((val_bl (H := H1)).back e1)
  | .cons m (.cons m2 ms), e :: e2 :: es, pos, h, _ => by
    have h' : (SE Γ m e ∧ ST Γ m e) ∧ SL Γ (.cons m2 ms) (e2 :: es) := by simpa only [SL] using h
    refine PE.wk (pe_or h'.1.1 (pe_ors h'.2 (by simp [Es.len]))) fun σ H Q q => ?_
    obtain ⟨ρ, O, rs, q⟩ := q
    simp only [evOr] at q
    refine TEm.truth rs q fun b H1 e1 hb => ⟨b, rfl, ?_⟩
    cases b with
    | false =>
      rw [if_neg Bool.false_ne_true]
      exact ⟨ρ, O, rs.ext e1, Fin.mono hb fun d _ hd v H2 e2 vl => hd v H2 (e1.trans e2) (vl.back e1)⟩
    | true =>
      rw [if_pos rfl]
      exact hb _ _ e1 ((val_bl (H := H1)).back e1)
  | .cons _ .nil, [], _, h, _ => by simp [SL] at h
  | .cons _ .nil, _ :: _ :: _, _, h, _ => by simp [SL] at h
  | .cons _ (.cons _ _), [], _, h, _ => by simp [SL] at h
  | .cons _ (.cons _ _), [_], _, h, _ => by simp [SL] at h
theorem se_and {ms : Es} {es : List Expr} {pos : Pos} (h : SL Γ ms es) (h0 : 0 < ms.len) : SE Γ (.and ms) (.BoolOp .And es pos) := PE.wk (pe_ands h h0) fun σ H Q q => by
  obtain ⟨ρ, O, rs, q⟩ := q
  simp only [ev] at q
  exact ⟨ρ, O, rs, q.mono fun d _ hd v H2 e2 vl => hd v H2 e2 vl.out⟩
theorem se_or {ms : Es} {es : List Expr} {pos : Pos} (h : SL Γ ms es) (h0 : 0 < ms.len) : SE Γ (.or ms) (.BoolOp .Or es pos) := PE.wk (pe_ors h h0) fun σ H Q q => by
  obtain ⟨ρ, O, rs, q⟩ := q
  simp only [ev] at q
  exact ⟨ρ, O, rs, q.mono fun d _ hd v H2 e2 vl => hd v H2 e2 vl.out⟩
theorem TTm.step {m : E} {σ : Sg} {H : Hp} {β : Type} {k : Bool → Res β} {K : β → Prop} {ρ : Env} {O : List Addr} (rs : RS Γ O σ H ρ) (h : Fin Γ σ H ((ev Γ.cf m ρ).bind fun x => (asBool x).bind k) K) :
    ∀ {Q : Bool → Hp → Prop}, (∀ b H1, Ex H H1 → Fin Γ σ H1 (k b) (fun a => K a) → Q b H1) → TTm Γ m σ H Q := fun {Q} q => by
  refine ⟨ρ, O, rs, ?_⟩
  cases e : ev Γ.cf m ρ with
  | ok d =>
    rw [e] at h
    cases d <;> simp only [asBool, Res.bind_bad, Res.bind_ok] at h ⊢ <;> try exact h.elim
    case bl b => exact fun H1 e1 => q b H1 e1 (h.imp e1 fun _ _ z => z)
  | err c => rw [e] at h; exact h
  | bad => rw [e] at h; exact h
theorem asB_asB {r : Res D} : ((r.bind fun x => (asBool x).bind fun k => .ok (.bl k)).bind asBool) = r.bind asBool := by
  cases r with
  | ok d => cases d <;> rfl
  | err c => rfl
  | bad => rfl
theorem bind_assoc {α β γ : Type} (r : Res α) (f : α → Res β) (g : β → Res γ) : (r.bind f).bind g = r.bind fun a => (f a).bind g := by cases r <;> rfl
theorem pw_ands : ∀ {ms : Es} {es : List Expr} {pos : Pos}, SL Γ ms es → 0 < ms.len → PW Γ.X (.BoolOp .And es pos) (rdT Γ (evAnd Γ.cf ms))
  | .nil, _, _, _, h => by simp [Es.len] at h
  | .cons m .nil, [e], pos, h, _ => by
    simp only [SL] at h
    refine PW.wk (pw_and1 h.1.2) fun σ H Q q => ?_
    obtain ⟨ρ, O, rs, q⟩ := q
    simp only [evAnd, asB_asB] at q
    exact ⟨ρ, O, rs, q⟩
  | .cons m (.cons m2 ms), e :: e2 :: es, pos, h, _ => by
    have h' : (SE Γ m e ∧ ST Γ m e) ∧ SL Γ (.cons m2 ms) (e2 :: es) := by simpa only [SL] using h
    refine PW.wk (pw_and h'.1.2 (pw_ands h'.2 (by simp [Es.len]))) fun σ H Q q => ?_
    obtain ⟨ρ, O, rs, q⟩ := q
    simp only [evAnd, bind_assoc] at q
    refine TTm.step rs q fun b H1 e1 hb => ?_
    cases b with
    | true =>
      rw [if_pos rfl]
      simp only [if_true] at hb
      exact ⟨ρ, O, rs.ext e1, hb.mono fun b _ hd H2 e2 => hd H2 (e1.trans e2)⟩
    | false =>
      rw [if_neg Bool.false_ne_true]
      exact hb H1 e1
  | .cons _ .nil, [], _, h, _ => by simp [SL] at h
  | .cons _ .nil, _ :: _ :: _, _, h, _ => by simp [SL] at h
  | .cons _ (.cons _ _), [], _, h, _ => by simp [SL] at h
  | .cons _ (.cons _ _), [_], _, h, _ => by simp [SL] at h
theorem pw_ors : ∀ {ms : Es} {es : List Expr} {pos : Pos}, SL Γ ms es → 0 < ms.len → PW Γ.X (.BoolOp .Or es pos) (rdT Γ (evOr Γ.cf ms))
  | .nil, _, _, _, h => by simp [Es.len] at h
  | .cons m .nil, [e], pos, h, _ => by
    simp only [SL] at h
    refine PW.wk (pw_or1 h.1.2) fun σ H Q q => ?_
    obtain ⟨ρ, O, rs, q⟩ := q
    simp only [evOr, asB_asB] at q
    exact ⟨ρ, O, rs, q⟩
  | .cons m (.cons m2 ms), e :: e2 :: es, pos, h, _ => by
    have h' : (SE Γ m e ∧ ST Γ m e) ∧ SL Γ (.cons m2 ms) (e2 :: es) := by simpa only [SL] using h
    refine PW.wk (pw_or h'.1.2 (pw_ors h'.2 (by simp [Es.len]))) fun σ H Q q => ?_
    obtain ⟨ρ, O, rs, q⟩ := q
    simp only [evOr, bind_assoc] at q
    refine TTm.step rs q fun b H1 e1 hb => ?_
    cases b with
    | false =>
      rw [if_neg Bool.false_ne_true]
      simp only [Bool.false_eq_true, if_false] at hb
      exact ⟨ρ, O, rs.ext e1, hb.mono fun b _ hd H2 e2 => hd H2 (e1.trans e2)⟩
    | true =>
      rw [if_pos rfl]
      exact hb H1 e1
  | .cons _ .nil, [], _, h, _ => by simp [SL] at h
  | .cons _ .nil, _ :: _ :: _, _, h, _ => by simp [SL] at h
  | .cons _ (.cons _ _), [], _, h, _ => by simp [SL] at h
  | .cons _ (.cons _ _), [_], _, h, _ => by simp [SL] at h
theorem st_and {ms : Es} {es : List Expr} {pos : Pos} (h : SL Γ ms es) (h0 : 0 < ms.len) : ST Γ (.and ms) (.BoolOp .And es pos) := PT.wk (pw_ands h h0).pt fun σ H Q q => by
  obtain ⟨ρ, O, rs, q⟩ := q
  simp only [ev] at q
  exact ⟨ρ, O, rs, q⟩
theorem st_or {ms : Es} {es : List Expr} {pos : Pos} (h : SL Γ ms es) (h0 : 0 < ms.len) : ST Γ (.or ms) (.BoolOp .Or es pos) := PT.wk (pw_ors h h0).pt fun σ H Q q => by
  obtain ⟨ρ, O, rs, q⟩ := q
  simp only [ev] at q
  exact ⟨ρ, O, rs, q⟩
/-- the way into a branch -/
theorem Out.mk' {O : List Addr} {H H1 H' : Hp} {d : D} {v : V} {m m' : E} (e : Ex H H1) (h : Out Γ O m H1 H' d v) (h1 : lk Γ.ks m' = true → lk Γ.ks m = true) (h2 : fr Γ.FR m' = true → fr Γ.FR m = true) (h3 : farB Γ.ks m' = true → farB Γ.ks m = true) : Out Γ O m' H H' d v :=
  ⟨h.one, fun q => h.ord (h1 q), fun q => (h.new (h2 q)).back e, fun q => h.far (h3 q)⟩
theorem se_ite {t a b : E} {c x y : Expr} {pos : Pos} (hc : ST Γ t c) (ha : SE Γ a x) (hb : SE Γ b y) : SE Γ (.ite t a b) (.IfExp c x y pos) :=
  PE.wk (pe_ifExp hc ha hb) fun σ H Q q => by
    obtain ⟨ρ, O, rs, q⟩ := q
    simp only [ev] at q
    refine TTm.step rs q fun b H1 e1 hb => ?_
    cases b with
    | true =>
      rw [if_pos rfl]
      simp only [if_true] at hb
      exact ⟨ρ, O, rs.ext e1, hb.mono fun d _ hd v H2 e2 o => hd v H2 (e1.trans e2) (o.mk' e1 (fun q => by simp only [lk, Bool.and_eq_true] at q; exact q.1) (fun q => by simp only [fr, Bool.and_eq_true] at q; exact q.1) (fun q => by simp only [farB, Bool.and_eq_true] at q; exact q.1))⟩
    | false =>
      rw [if_neg Bool.false_ne_true]
      simp only [Bool.false_eq_true, if_false] at hb
      exact ⟨ρ, O, rs.ext e1, hb.mono fun d _ hd v H2 e2 o => hd v H2 (e1.trans e2) (o.mk' e1 (fun q => by simp only [lk, Bool.and_eq_true] at q; exact q.2) (fun q => by simp only [fr, Bool.and_eq_true] at q; exact q.2) (fun q => by simp only [farB, Bool.and_eq_true] at q; exact q.2))⟩
end VE

/-! Chains, places, slices; the built-ins. -/
namespace VE
open PySem PySem.Spec PyProof.Rows L2
variable {Γ : Ctx}
theorem TEm.chain {o p : COp} {a b c : E} {σ : Sg} {H : Hp} {Q : VK} (h : TEm Γ (.cmp2 o p a b c) σ H Q) : tChain (rCmp Γ.K o) (rCmp Γ.K p) (TEm Γ a) (TEm Γ b) (TEm Γ c) σ H Q := by
  obtain ⟨ρ, O, rs, h⟩ := h
  simp only [ev] at h
  refine ⟨ρ, O, rs, h.bnd.mono fun x ex hx v H1 e1 o1 => ?_⟩
  refine ⟨ρ, O, rs.ext e1, hx.bnd.imp e1 fun y ey hy u H2 e2 o2 => ?_⟩
  have hy' := hy.bnd
  cases q : cmpD o x y with
  | err k => exact absurd q (cmpD_err o x y k)
  | bad => rw [q] at hy'; exact hy'.elim
  | ok t =>
    rw [q] at hy'
    obtain ⟨k, rfl⟩ := cmpD_bool q
    refine cmp_ok ((rs.ext e1).ext e2) (o1.one.ex e2) o2.one q fun w H3 e3 vl => ?_
    have := vl.ord
    simp only [Rep] at this
    subst this
    refine ⟨k, rfl, ?_⟩
    have hy2 : Fin Γ σ H (if k = true then (ev Γ.cf c ρ).bind fun z => cmpD p y z else .ok (.bl false)) _ := hy'
    cases k with
    | false =>
      rw [if_neg Bool.false_ne_true] at hy2 ⊢
      exact hy2 _ _ ((e1.trans e2).trans e3) ((val_bl (H := H3)).back ((e1.trans e2).trans e3)).out
    | true =>
      rw [if_pos rfl] at hy2 ⊢
      refine ⟨ρ, O, ((rs.ext e1).ext e2).ext e3, hy2.bnd.imp ((e1.trans e2).trans e3) fun z ez hz w' H4 e4 o4 => ?_⟩
      have hz' : Fin Γ σ H (cmpD p y z) _ := hz
      cases q2 : cmpD p y z with
      | err k => exact absurd q2 (cmpD_err p y z k)
      | bad => rw [q2] at hz'; exact hz'.elim
      | ok d =>
        rw [q2] at hz'
        exact cmp_ok ((((rs.ext e1).ext e2).ext e3).ext e4) ((o2.one.ex e3).ex e4) o4.one q2 fun w5 H5 e5 v5 => hz' w5 H5 ((((e1.trans e2).trans e3).trans e4).trans e5) (v5.back (((e1.trans e2).trans e3).trans e4)).out
theorem last_of {o p : CmpOp} {b c : Expr} (h : noSet c = true) : lastMarks [o, p] [b, c] = false := by
  show behindInMarks p c = false
  exact marks_of h
theorem se_cmp2 (ok : XOk Γ) {o p : COp} {a b c : E} {x y z : Expr} {pos : Pos} (ha : SE Γ a x) (hb : SE Γ b y) (hc : SE Γ c z) (hn : noSet z = true) : SE Γ (.cmp2 o p a b c) (.Compare x [cmpOf o, cmpOf p] [y, z] pos) :=
  PE.wk (pe_chain (op_cmp ok.units o) (op_cmp ok.units p) ha hb hc (last_of hn)) fun σ H Q h => h.chain
theorem st_cmp2 (ok : XOk Γ) {o p : COp} {a b c : E} {x y z : Expr} {pos : Pos} (ha : SE Γ a x) (hb : SE Γ b y) (hc : SE Γ c z) (hn : noSet z = true) : ST Γ (.cmp2 o p a b c) (.Compare x [cmpOf o, cmpOf p] [y, z] pos) :=
  PT.wk (pt_chain (op_cmp ok.units o) (op_cmp ok.units p) ha hb hc (last_of hn)) fun σ H Q h => h.of.chain

/-! ### places -/
theorem atI_same {α : Type} (xs : List α) (i : Int) : atI xs i = L2.atI xs i := rfl
theorem atI_reps {K : Frag} {H : Hp} {P : Addr → Prop} {ds : List D} {vs : List V} {i : Int} {d : D} (h : Reps K H P ds vs) (e : atI ds i = some d) : ∃ v, L2.atI vs i = some v ∧ Rep K H P d v := by
  unfold atI at e
  unfold L2.atI
  have hl := h.length
  have e2 : ixN ds.length i = L2.ixN vs.length i := by rw [hl]; rfl
  rw [e2] at e
  cases q : L2.ixN vs.length i with
  | none => rw [q] at e; cases e
  | some j =>
    rw [q] at e
    exact reps_get h e
def rIxA (K : Frag) : R2 := fun x y H Q => rIx K x y H Q
/-- what comes out of a container is any value, not a new one -/
theorem TEm.bin' {a b m : E} {k : D → D → Res D} {r : R2} {σ : Sg} {H : Hp} {Q : VK} (hm : ∀ ρ, ev Γ.cf m ρ = (ev Γ.cf a ρ).bind fun x => (ev Γ.cf b ρ).bind fun y => k x y) (hf : fr Γ.FR m = false)
    (hr : ∀ {ρ O H x y v u d Q}, RS Γ O σ H ρ → Rep1 Γ.K H (Pc Γ O) x v → Rep1 Γ.K H (Pc Γ O) y u → k x y = .ok d → (∀ w H', Ex H H' → Rep Γ.K H' (Pc Γ O) d w → Q w H') → r v u H Q)
    (hk : ∀ x y c, k x y ≠ .err c) (h : TEm Γ m σ H Q) : tOp r (TEm Γ a) (TEm Γ b) σ H Q := by
  obtain ⟨ρ, O, rs, h⟩ := h
  rw [hm] at h
  refine ⟨ρ, O, rs, h.bnd.mono fun x ex hx v H1 e1 o1 => ?_⟩
  refine ⟨ρ, O, rs.ext e1, hx.bnd.imp e1 fun y ey hy u H2 e2 o2 => ?_⟩
  have hy' : Fin Γ σ H (k x y) _ := hy
  cases q : k x y with
  | ok d =>
    rw [q] at hy'
    exact hr ((rs.ext e1).ext e2) (o1.one.ex e2) o2.one q fun w H3 e3 vl => hy' w H3 ((e1.trans e2).trans e3) ⟨vl.one, fun _ => vl, (fun z => by rw [hf] at z; cases z), fun _ => Rep.away (Γ := Γ) vl⟩
  | err c => exact absurd q (hk x y c)
  | bad => rw [q] at hy'; exact hy'.elim
theorem ofO_ok {α : Type} {o : Option α} {d : α} (h : ofO o = .ok d) : o = some d := by cases o with | none => cases h | some a => cases h; rfl
theorem ofO_err {α : Type} {o : Option α} {c : Nat} : ofO o ≠ .err c := by cases o <;> (intro h; cases h)
theorem ix_ok {σ : Sg} {ρ : Env} {O : List Addr} {H : Hp} {x y d : D} {v u : V} {Q : VK} (rs : RS Γ O σ H ρ) (hd : ∀ ks vs, x ≠ .dic ks vs) (hx : Rep1 Γ.K H (Pc Γ O) x v) (hy : Rep1 Γ.K H (Pc Γ O) y u) (e : ixD x y = .ok d)
    (q : ∀ w H', Ex H H' → Rep Γ.K H' (Pc Γ O) d w → Q w H') : rIx Γ.K v u H Q := by
  cases x <;> cases y <;> simp only [ixD] at e <;> (try contradiction) <;> (try (exact absurd rfl (hd _ _)))
  case lst.int ds i =>
    obtain ⟨a, xs, ex, ha, hr⟩ := hx
    simp only [Rep1, Rep] at hy
    subst ex hy
    obtain ⟨w, hw, hr'⟩ := atI_reps hr (ofO_ok e)
    exact .inl ⟨a, xs, i, w, rfl, rfl, SqL.of ha, hw, q _ _ (Ex.refl H) hr'⟩
  case tup.int ds i =>
    simp only [Rep1, Rep] at hx hy
    obtain ⟨a, xs, ex, ha, hr⟩ := hx
    subst ex hy
    obtain ⟨w, hw, hr'⟩ := atI_reps hr (ofO_ok e)
    exact .inr (.inl ⟨a, xs, i, w, rfl, rfl, ha.sq, hw, q _ _ (Ex.refl H) hr'⟩)
  case str.int s i =>
    simp only [Rep1, Rep] at hx hy
    obtain ⟨hx, hl⟩ := hx
    subst hx hy
    have e1 := ofO_ok e
    cases q1 : atI s i with
    | none => rw [q1] at e1; cases e1
    | some c =>
      rw [q1] at e1
      cases e1
      refine .inr (.inr ⟨mkS s, i, c, rfl, rfl, by rw [mkS_len]; exact hl, q1, q _ _ (Ex.refl H) ?_⟩)
      unfold Rep
      exact ⟨rfl, by rw [sizeLine_eq]; simp⟩
  case scr.int ns i =>
    simp only [Rep1, Rep] at hx hy
    obtain ⟨a, ex, ha⟩ := hx
    subst ex hy
    have e1 := ofO_ok e
    cases q1 : atI ns i with
    | none => rw [q1] at e1; cases e1
    | some n =>
      rw [q1] at e1
      cases e1
      refine .inl ⟨a, ns.map V.int, i, .int n, rfl, rfl, ha.sq, ?_, q _ _ (Ex.refl H) (by simp [Rep])⟩
      unfold atI at q1
      unfold L2.atI
      rw [List.length_map]
      have e2 : ixN ns.length i = L2.ixN ns.length i := rfl
      rw [e2] at q1
      cases q3 : L2.ixN ns.length i with
      | none => rw [q3] at q1; cases q1
      | some j =>
        rw [q3] at q1
        have : ns[j]? = some n := q1
        show (ns.map V.int)[j]? = some (V.int n)
        rw [List.getElem?_map, this]
        rfl
theorem PE.orr {X : Cx} {e : Expr} {t t' : TE} (h : PE X e t) (h' : PE X e t') : PE X e (fun σ H Q => t σ H Q ∨ t' σ H Q) :=
  ⟨fun pins s σ H Q I q => q.elim (h.run pins s σ H Q I) (h'.run pins s σ H Q I)⟩
theorem dicix_ok {σ : Sg} {ρ : Env} {O : List Addr} {H : Hp} {ks vs : List D} {y d : D} {v u : V} {Q : VK} (rs : RS Γ O σ H ρ) (hx : Rep1 Γ.K H (Pc Γ O) (.dic ks vs) v) (hy : Rep1 Γ.K H (Pc Γ O) y u) (e : ixD (.dic ks vs) y = .ok d)
    (q : ∀ w H', Ex H H' → Rep Γ.K H' (Pc Γ O) d w → Q w H') : ∃ a z, v = .ref a ∧ DGet H a u (some z) ∧ Q z H := by
  have e' : (if isKey y = true then ofO (dget y ks vs) else .bad) = .ok d := by cases y <;> exact e
  by_cases hk : isKey y = true
  · rw [if_pos hk] at e'
    obtain ⟨k, ex, ev'⟩ := isKey_kD hk hy
    obtain ⟨a, kvs, ey, hr, ⟨hm, hsh⟩, hs⟩ := hx
    subst ex ev' ey hm
    have g := dget_kv (k := k) hs
    rw [ofO_ok e'] at g
    obtain ⟨w, hw, rw'⟩ := g
    exact ⟨a, w, rfl, .inl ⟨kvs, k, hr, rfl, hw.symm⟩, q _ _ (Ex.refl H) rw'⟩
  · rw [if_neg hk] at e'; cases e'
theorem ixD_err (x y : D) (c : Nat) : ixD x y ≠ .err c := by
  intro h
  cases x <;> cases y <;> simp only [ixD] at h <;> first | contradiction | exact ofO_err h | (split at h; exact ofO_err h; contradiction)
def noSlice : Expr → Bool
  | .Slice _ _ _ _ => false
  | _ => true
theorem plain_ix {b : Expr} (h : noSlice b = true) : PlainIx b := fun o i => by
  cases b <;> first | rfl | simp [noSlice] at h
theorem se_ix (ok : XOk Γ) {a b : E} {x y : Expr} {pos : Pos} (ha : SE Γ a x) (hb : SE Γ b y) (hn : noSlice y = true) : SE Γ (.ix a b) (.Subscript x y pos) :=
  PE.wk (PE.orr (pe_ix ix_seq ha hb (plain_ix hn)) (pe_dget (by have := ok.units; omega) ha hb (plain_ix hn))) fun σ H Q h => by
    obtain ⟨ρ, O, rs, h⟩ := h
    simp only [ev] at h
    by_cases hd : ∃ ks vs, ev Γ.cf a ρ = .ok (.dic ks vs)
    · obtain ⟨ks, vs, hd⟩ := hd
      right
      refine ⟨ρ, O, rs, h.bnd.mono fun x ex hx v H1 e1 o1 => ?_⟩
      rw [hd] at ex
      cases ex
      refine ⟨ρ, O, rs.ext e1, hx.bnd.imp e1 fun y ey hy u H2 e2 o2 => ?_⟩
      have hy' : Fin Γ σ H (ixD (.dic ks vs) y) _ := hy
      cases q : ixD (.dic ks vs) y with
      | ok d =>
        rw [q] at hy'
        exact dicix_ok ((rs.ext e1).ext e2) (o1.one.ex e2) o2.one q fun w H3 e3 vl => hy' w H3 ((e1.trans e2).trans e3) ⟨vl.one, fun _ => vl, (fun z => by simp [fr] at z), fun _ => Rep.away (Γ := Γ) vl⟩
      | err c => exact absurd q (ixD_err _ _ c)
      | bad => rw [q] at hy'; exact hy'.elim
    · left
      refine ⟨ρ, O, rs, h.bnd.mono fun x ex hx v H1 e1 o1 => ?_⟩
      refine ⟨ρ, O, rs.ext e1, hx.bnd.imp e1 fun y ey hy u H2 e2 o2 => ?_⟩
      have hy' : Fin Γ σ H (ixD x y) _ := hy
      cases q : ixD x y with
      | ok d =>
        rw [q] at hy'
        exact ix_ok ((rs.ext e1).ext e2) (fun ks vs e => hd ⟨ks, vs, by rw [ex, e]⟩) (o1.one.ex e2) o2.one q fun w H3 e3 vl => hy' w H3 ((e1.trans e2).trans e3) ⟨vl.one, fun _ => vl, (fun z => by simp [fr] at z), fun _ => Rep.away (Γ := Γ) vl⟩
      | err c => exact absurd q (ixD_err _ _ c)
      | bad => rw [q] at hy'; exact hy'.elim

/-! ### slices -/
def OE : Option Expr → Eo → (E → Expr → Prop) → Prop
  | none, .no, _ => True
  | some e, .yes m, P => P m e
  | _, _, _ => False
def TOm (Γ : Ctx) (m : Eo) : TO := fun σ H Q => ∃ ρ O, RS Γ O σ H ρ ∧ Fin Γ σ H (evo Γ.cf m ρ) fun o => ∀ H', Ex H H' → Q o H'
theorem po_of {o : Option Expr} {m : Eo} (h : OE o m (SE Γ)) : PO Γ.X o (TOm Γ m) := by
  cases o with
  | none => cases m with
    | yes _ => exact h.elim
    | no => exact ⟨fun pins s σ H Q I q => po_none.run pins s σ H Q I (by
        obtain ⟨ρ, O, rs, q⟩ := q
        simp only [evo] at q
        exact q H (Ex.refl H))⟩
  | some e => cases m with
    | no => exact h.elim
    | yes m => exact ⟨fun pins s σ H Q I q => (po_some (show PE Γ.X e (TEm Γ m) from h)).run pins s σ H Q I (by
        obtain ⟨ρ, O, rs, q⟩ := q
        simp only [evo] at q
        refine ⟨ρ, O, rs, q.bnd.mono fun d ed hd v H1 e1 o1 => ?_⟩
        have hd' : Fin Γ σ H ((asInt d).bind fun i => .ok (some i)) _ := hd
        cases d <;> simp only [asInt, Res.bind_bad, Res.bind_ok] at hd' <;> try exact hd'.elim
        case int i =>
          have := o1.one
          simp only [Rep1, Rep] at this
          exact ⟨i, this, hd' H1 e1⟩)⟩
theorem sIx_same (n d : Nat) (o : Option Int) : HT.sIx n d o = sIx n d o := by
  cases o with
  | none => rfl
  | some i =>
    first
      | rfl
      | (unfold HT.sIx sIx; dsimp only; split <;> omega)
theorem reps_cut {K : Frag} {H : Hp} {P : Addr → Prop} {ds : List D} {vs : List V} (h : Reps K H P ds vs) (lo hi : Option Int) : Reps K H P (cut ds lo hi) (cutV vs lo hi) := by
  unfold cut cutV
  rw [sIx_same, sIx_same, ← h.length]
  exact reps_take _ (reps_drop _ h)
theorem cut_str (s : List Nat) (lo hi : Option Int) : cutS (mkS s) lo hi = mkS (cut s lo hi) := by
  apply PySem.W.str_of_cps
  unfold cutS cut
  simp only [sIx_same, PySem.Str.length]
  simp
def rSl3 (K : Frag) : V → Option Int → Option Int → Hp → VK → Prop := fun x lo hi H Q => rSlL K x lo hi H Q ∨ rSlP K x lo hi H Q ∨ rSlS x lo hi H Q
theorem sl_all {X : Cx} : SlR X (rSl3 X.K) := sl_list.or (sl_tupP.or sl_str)
theorem cut_len {α : Type} (xs : List α) (lo hi : Option Int) : (cut xs lo hi).length ≤ xs.length := by
  unfold cut
  rw [List.length_take, List.length_drop]
  omega
theorem cut_whole {α : Type} (xs : List α) (lo hi : Option Int) (h : sIx xs.length 0 lo = 0 ∧ sIx xs.length xs.length hi = xs.length) : cut xs lo hi = xs := by
  unfold cut
  rw [h.1, h.2]
  simp
theorem se_sl {a : E} {lo hi : Eo} {x : Expr} {l h : Option Expr} {p2 pos : Pos} (ha : SE Γ a x) (hl : OE l lo (SE Γ)) (hh : OE h hi (SE Γ)) : SE Γ (.sl a lo hi) (.Subscript x (.Slice l h none p2) pos) :=
  PE.wk (pe_slice sl_all ha (po_of hl) (po_of hh)) fun σ H Q q => by
    obtain ⟨ρ, O, rs, q⟩ := q
    simp only [ev] at q
    refine ⟨ρ, O, rs, q.bnd.mono fun d ed hd v H1 e1 o1 => ?_⟩
    refine ⟨ρ, O, rs.ext e1, hd.bnd.imp e1 fun l el hl H2 e2 => ?_⟩
    refine ⟨ρ, O, (rs.ext e1).ext e2, hl.bnd.imp (e1.trans e2) fun h eh hh H3 e3 => ?_⟩
    have hh' : Fin Γ σ H (slD l h d) _ := hh
    have o3 := (o1.one.ex e2).ex e3
    have rs3 := ((rs.ext e1).ext e2).ext e3
    have e4 := (e1.trans e2).trans e3
    cases d <;> simp only [slD] at hh' <;> try exact hh'.elim
    case lst ds =>
      obtain ⟨b, xs, ex, hb, hr⟩ := o3
      subst ex
      exact .inl ⟨b, xs, rfl, SqL.of hb, fun p hp => hh' _ _ (e4.trans (Ex.new hp)) ((val_lst rs3 hp (reps_cut hr l h)).back e4).out⟩
    case tup ds =>
      simp only [Rep1, Rep] at o3
      obtain ⟨b, xs, ex, hb, hr⟩ := o3
      subst ex
      refine .inr (.inl ⟨b, xs, rfl, hb.sq, fun hw => ?_, fun _ p o hp ho => hh' _ _ (e4.trans (Ex.new hp)) ((val_tupN hp ho (reps_cut hr l h)).back e4).out⟩)
      rw [sIx_same, sIx_same, ← hr.length] at hw
      rw [cut_whole ds l h hw] at hh'
      exact hh' _ _ e4 ((val_tup hb hr : Val (Γ := Γ) O H3 H3 (.tup ds) (.ref b)).back e4).out
    case str s =>
      simp only [Rep1, Rep] at o3
      obtain ⟨ex, hl⟩ := o3
      subst ex
      refine .inr (.inr ⟨mkS s, rfl, by rw [mkS_len]; exact hl, ?_⟩)
      rw [cut_str]
      exact hh' _ _ e4 ((val_str (H := H3) (Nat.le_trans (cut_len s l h) hl)).back e4).out
end VE

/-! Signs in texts; built-in functions of one thing. -/
namespace VE
open PySem PySem.Spec PyProof.Rows L2
/-! ### where a sign stands -/
/-- the places from k on -/
def places (c : Nat) : List Nat → Nat → List Nat
  | [], _ => []
  | x :: r, k => if x = c then k :: places c r (k + 1) else places c r (k + 1)
theorem subAt_one (s : List Nat) (c i : Nat) : Builtin.Str.subAt (mkS s) (mkS [c]) i = decide (s[i]? = some c) := by
  have e1 : (mkS [c]).length = 1 := rfl
  unfold Builtin.Str.subAt
  rw [e1]
  have e2 : (mkS s).cps.extract i (i + 1) = ((s.drop i).take 1).toArray := by
    show s.toArray.extract i (i + 1) = _
    rw [List.extract_toArray, List.extract_eq_drop_take]
    congr 2
    omega
  rw [e2]
  by_cases h : i < s.length
  · rw [List.drop_eq_getElem_cons h, List.getElem?_eq_getElem h]
    simp only [List.take_succ_cons, List.take_zero]
    by_cases e : s[i] = c
    · rw [e]; simp
    · simp [e]
  · rw [List.drop_eq_nil_of_le (by omega), List.getElem?_eq_none (by omega)]
    simp
theorem occ_run (s : List Nat) (c limit : Nat) : ∀ (n a : Nat) (acc : Array Nat) (free : Nat), a + n = s.length + 1 → free ≤ a →
    ((forIn (List.range' a n) (acc, free) (PySem.StrLaws.occBody (mkS s) (mkS [c]) s.length limit)).run.fst).toList = acc.toList ++ (places c (s.drop a) a).take (limit - acc.size)
  | 0, a, acc, free, h, hf => by
    rw [List.drop_eq_nil_of_le (by omega)]
    simp [places]
  | n + 1, a, acc, free, h, hf => by
    rw [List.range'_succ, List.forIn_cons]
    have e1 : (mkS [c]).length = 1 := rfl
    unfold PySem.StrLaws.occBody
    rw [subAt_one, e1]
    simp only
    by_cases ha : a < s.length
    · have hd : s.drop a = s[a] :: s.drop (a + 1) := List.drop_eq_getElem_cons ha
      have hg : s[a]? = some s[a] := List.getElem?_eq_getElem ha
      by_cases hc : s[a] = c
      · by_cases hl : acc.size < limit
        · rw [if_pos ⟨⟨⟨hl, hf⟩, by omega⟩, by rw [hg, hc]; simp⟩]
          have ih := occ_run s c limit n (a + 1) (acc.push a) (a + 1) (by omega) (Nat.le_refl _)
          refine Eq.trans ih ?_
          rw [hd]
          simp only [places, hc, if_true, Array.toList_push, Array.size_push]
          have e2 : limit - acc.size = (limit - (acc.size + 1)) + 1 := by omega
          rw [e2, List.take_succ_cons, List.append_assoc]
          rfl
        · rw [if_neg fun q => hl q.1.1.1]
          have ih := occ_run s c limit n (a + 1) acc free (by omega) (by omega)
          refine Eq.trans ih ?_
          have e2 : limit - acc.size = 0 := by omega
          rw [e2]
          simp
      · rw [if_neg fun q => by
          have := q.2
          rw [hg] at this
          simp at this
          exact hc this]
        have ih := occ_run s c limit n (a + 1) acc free (by omega) (by omega)
        refine Eq.trans ih ?_
        rw [hd]
        simp only [places, hc, if_false]
    · rw [if_neg fun q => by have := q.1.2; omega]
      have ih := occ_run s c limit n (a + 1) acc free (by omega) (by omega)
      refine Eq.trans ih ?_
      rw [List.drop_eq_nil_of_le (by omega), List.drop_eq_nil_of_le (by omega)]
      simp [places]
theorem occ_one (s : List Nat) (c lo limit : Nat) (h : lo ≤ s.length) : Builtin.Str.occurrences (mkS s) (mkS [c]) lo s.length limit = (places c (s.drop lo) lo).take limit := by
  rw [PySem.StrLaws.occ_eq, occ_run s c limit _ lo #[] lo (by omega) (Nat.le_refl _)]
  simp
theorem occ_far (s : List Nat) (c lo limit : Nat) (h : s.length < lo) : Builtin.Str.occurrences (mkS s) (mkS [c]) lo s.length limit = [] := by
  rw [PySem.StrLaws.occ_eq]
  have : s.length + 1 - lo = 0 := by omega
  rw [this]
  rfl
theorem places_len (c : Nat) : ∀ (s : List Nat) (k : Nat), (places c s k).length = s.count c
  | [], k => by simp [places]
  | x :: r, k => by
    simp only [places, List.count_cons]
    split
    · rename_i h; subst h; simp [places_len x r (k + 1)]
    · rename_i h; simp [places_len c r (k + 1), h]
theorem places_find (c : Nat) : ∀ (s : List Nat) (k : Nat), (places c s k).head? = findAt c s k
  | [], k => by simp [places, findAt]
  | x :: r, k => by
    simp only [places, findAt]
    split
    · rfl
    · exact places_find c r (k + 1)
theorem count_sign (s : List Nat) (c : Nat) : Txt.count (mkS s) (mkS [c]) = (s.count c : Nat) := by
  unfold Txt.count
  have e : (mkS s).length = s.length := mkS_len s
  rw [e, occ_one s c 0 _ (Nat.zero_le _), List.drop_zero, List.length_take, places_len]
  have : s.count c ≤ s.length := List.count_le_length
  congr 1
  omega
theorem find_sign (s : List Nat) (c : Nat) (k : Int) (hk : 0 ≤ k) : Txt.find3 (mkS s) (mkS [c]) k = match findAt c (s.drop k.toNat) k.toNat with | some j => (j : Int) | none => -1 := by
  unfold Txt.find3
  have e : (mkS s).length = s.length := mkS_len s
  have e2 : fromIndex s.length k = k.toNat := by unfold fromIndex; rw [if_neg (by omega), Int.max_eq_right hk]
  rw [e, e2]
  by_cases h : k.toNat ≤ s.length
  · rw [occ_one s c _ 1 h, ← places_find]
    cases places c (s.drop k.toNat) k.toNat <;> rfl
  · rw [occ_far s c _ 1 (by omega), List.drop_eq_nil_of_le (by omega)]
    rfl
theorem index_sign (s : List Nat) (c j : Nat) (h : findAt c s 0 = some j) : Builtin.Str.occurrences (mkS s) (mkS [c]) 0 s.length 1 = [j] := by
  rw [occ_one s c 0 1 (Nat.zero_le _), List.drop_zero]
  rw [← places_find] at h
  cases q : places c s 0 with
  | nil => rw [q] at h; cases h
  | cons x r => rw [q] at h; simp at h; subst h; rfl

variable {Γ : Ctx}
/-! ### built-ins of one thing -/
theorem se_b1B {f : B1} {a : E} {x : Expr} {nm : PySem.Str} {id : String} {p pos : Pos} {r : List V → Hp → VK → Prop} (hc : CallR Γ.X (.builtin id) r) (hg : Gl Γ.X nm) (hm : Γ.X.mg nm = none) (hv : bootBuiltins nm = some (.builtin id)) (ha : SE Γ a x) (hs : noStar x = true)
    (hf : fr Γ.FR (.b1 f a) = true) (hn : nm ≠ "__name__") (hd : (nm == ("__debug__" : PySem.Str)) = false)
    (hr : ∀ {σ ρ O H x v d Q}, RS Γ O σ H ρ → Rep1 Γ.K H (Pc Γ O) x v → b1D f x = .ok d → (∀ w H', Ex H H' → Val (Γ := Γ) O H H' d w → Q w H') → r [v] H Q) (he : ∀ x c, b1D f x ≠ .err c) : SE Γ (.b1 f a) (.Call (.Name nm p) [x] [] pos) :=
  PE.wk (pe_callB hc hg hm hv (pa_cons ha pa_nil (star_of hs)) hn hd (star_of hs) rfl) fun σ H Q h => TEm.un (r := fun x H Q => r [x] H Q) (k := b1D f) (fun ρ => by simp only [ev]) (fun rs hx e q => hr rs hx e q) he h
theorem se_b1T {f : B1} {a : E} {x : Expr} {nm : PySem.Str} {id : String} {p pos : Pos} {r : List V → Hp → VK → Prop} (hc : CallR Γ.X (.type id) r) (hg : Gl Γ.X nm) (hm : Γ.X.mg nm = none) (hv : bootBuiltins nm = some (.type id)) (ha : SE Γ a x) (hs : noStar x = true)
    (hf : fr Γ.FR (.b1 f a) = true) (hn : nm ≠ "__name__") (hd : (nm == ("__debug__" : PySem.Str)) = false)
    (hr : ∀ {σ ρ O H x v d Q}, RS Γ O σ H ρ → Rep1 Γ.K H (Pc Γ O) x v → b1D f x = .ok d → (∀ w H', Ex H H' → Val (Γ := Γ) O H H' d w → Q w H') → r [v] H Q) (he : ∀ x c, b1D f x ≠ .err c) : SE Γ (.b1 f a) (.Call (.Name nm p) [x] [] pos) :=
  PE.wk (pe_callTy hc hg hm hv (pa_cons ha pa_nil (star_of hs)) hn hd (star_of hs) rfl) fun σ H Q h => TEm.un (r := fun x H Q => r [x] H Q) (k := b1D f) (fun ρ => by simp only [ev]) (fun rs hx e q => hr rs hx e q) he h
theorem b1D_err (f : B1) (x : D) (c : Nat) : b1D f x ≠ .err c := by
  intro h
  unfold b1D at h
  split at h <;> first | contradiction | exact ofO_err h | (split at h <;> contradiction)
abbrev rLenA (K : Frag) : List V → Hp → VK → Prop := fun xs H Q => (∃ x n, xs = [x] ∧ LenV K x H n ∧ Q (.int n) H) ∨ ∃ a kvs, xs = [.ref a] ∧ Rd H a (.dK kvs) ∧ Q (.int kvs.length) H
theorem vals_ref {a : Addr} {us : List Value} (r : Vals [V.ref a] us) : us = [Value.ref a] := by
  cases r with
  | cons r t => cases t; cases r; rfl
theorem call_lenA {X : Cx} : CallR X (.builtin "len") (rLenA X.K) := by
  refine call_len.or ?_
  intro pins s σ H xs us Q I r h
  obtain ⟨a, kvs, rfl, hr, q⟩ := h
  rw [vals_ref r]
  exact d_len I hr fun t s' I' => ⟨.int kvs.length, H, I', ⟨t, rfl⟩, q⟩
theorem len_ok {σ : Sg} {ρ : Env} {O : List Addr} {H : Hp} {x d : D} {v : V} {Q : VK} (rs : RS Γ O σ H ρ) (hx : Rep1 Γ.K H (Pc Γ O) x v) (e : b1D .len x = .ok d) (q : ∀ w H', Ex H H' → Val (Γ := Γ) O H H' d w → Q w H') : rLenA Γ.K [v] H Q := by
  cases x <;> simp only [b1D] at e <;> try contradiction
  case str s =>
    simp only [Rep1, Rep] at hx
    obtain ⟨hx, hl⟩ := hx
    subst hx
    cases e
    exact .inl ⟨_, s.length, rfl, ⟨by rw [mkS_len]; exact hl, (mkS_len s).symm⟩, q _ _ (Ex.refl H) val_int⟩
  case lst ds =>
    obtain ⟨a, xs, ex, ha, hr⟩ := hx
    subst ex
    cases e
    exact .inl ⟨_, ds.length, rfl, .inl ⟨xs, SqL.of ha, hr.length⟩, q _ _ (Ex.refl H) val_int⟩
  case tup ds =>
    simp only [Rep1, Rep] at hx
    obtain ⟨a, xs, ex, ha, hr⟩ := hx
    subst ex
    cases e
    exact .inl ⟨_, ds.length, rfl, .inr ⟨xs, ha.sq, hr.length⟩, q _ _ (Ex.refl H) val_int⟩
  case dic ks vs =>
    obtain ⟨a, kvs, ex, ha, ⟨hk, hsh⟩, hr⟩ := hx
    subst ex hk
    cases e
    refine .inr ⟨a, kvs, rfl, ha, ?_⟩
    have := q _ _ (Ex.refl H) val_int
    rw [List.length_map] at this
    exact this
  case scr ns =>
    simp only [Rep1, Rep] at hx
    obtain ⟨a, ex, ha⟩ := hx
    subst ex
    cases e
    exact .inl ⟨_, ns.length, rfl, .inl ⟨_, ha.sq, (List.length_map ..).symm⟩, q _ _ (Ex.refl H) val_int⟩
theorem se_len {a : E} {x : Expr} {p pos : Pos} (hg : Gl Γ.X "len") (hm : Γ.X.mg "len" = none) (ha : SE Γ a x) (hs : noStar x = true) : SE Γ (.b1 .len a) (.Call (.Name "len" p) [x] [] pos) :=
  se_b1B call_lenA hg hm PySem.boot_len ha hs rfl (by decide) (by decide) (fun rs hx e q => len_ok rs hx e q) (b1D_err _)
theorem reps_bools {K : Frag} {H : Hp} {P : Addr → Prop} : ∀ {ds : List D} {xs : List V} {bs : List Bool}, Reps K H P ds xs → bools ds = some bs → xs = bs.map V.bl
  | [], [], bs, _, e => by simp only [bools] at e; cases e; rfl
  | d :: ds, v :: vs, bs, h, e => by
    rw [reps_cons] at h
    cases d <;> simp only [bools] at e <;> try contradiction
    case bl b =>
      cases q : bools ds with
      | none => rw [q] at e; cases e
      | some r =>
        rw [q] at e
        cases e
        simp only [Rep] at h
        rw [h.1, reps_bools h.2 q]
        rfl
  | [], _ :: _, _, h, _ => by simp [Reps] at h
  | _ :: _, [], _, h, _ => by simp [Reps] at h
theorem reps_ints {K : Frag} {H : Hp} {P : Addr → Prop} : ∀ {ds : List D} {xs : List V} {bs : List Int}, Reps K H P ds xs → intsD ds = some bs → xs = bs.map V.int
  | [], [], bs, _, e => by simp only [intsD] at e; cases e; rfl
  | d :: ds, v :: vs, bs, h, e => by
    rw [reps_cons] at h
    cases d <;> simp only [intsD] at e <;> try contradiction
    case int b =>
      cases q : intsD ds with
      | none => rw [q] at e; cases e
      | some r =>
        rw [q] at e
        cases e
        simp only [Rep] at h
        rw [h.1, reps_ints h.2 q]
        rfl
  | [], _ :: _, _, h, _ => by simp [Reps] at h
  | _ :: _, [], _, h, _ => by simp [Reps] at h
theorem reps_strs {K : Frag} {H : Hp} {P : Addr → Prop} : ∀ {ds : List D} {xs : List V} {bs : List (List Nat)}, Reps K H P ds xs → strsD ds = some bs → xs = bs.map fun s => V.str (mkS s)
  | [], [], bs, _, e => by simp only [strsD] at e; cases e; rfl
  | d :: ds, v :: vs, bs, h, e => by
    rw [reps_cons] at h
    cases d <;> simp only [strsD] at e <;> try contradiction
    case str b =>
      cases q : strsD ds with
      | none => rw [q] at e; cases e
      | some r =>
        rw [q] at e
        cases e
        simp only [Rep] at h
        rw [h.1.1, reps_strs h.2 q]
        rfl
  | [], _ :: _, _, h, _ => by simp [Reps] at h
  | _ :: _, [], _, h, _ => by simp [Reps] at h
theorem map_ok {α : Type} {o : Option α} {f : α → D} {d : D} (h : ofO (o.map f) = .ok d) : ∃ a, o = some a ∧ d = f a := by
  cases o with
  | none => cases h
  | some a => cases h; exact ⟨a, rfl, rfl⟩
theorem all_ok {σ : Sg} {ρ : Env} {O : List Addr} {H : Hp} {x d : D} {v : V} {Q : VK} (rs : RS Γ O σ H ρ) (hx : Rep1 Γ.K H (Pc Γ O) x v) (e : b1D .all x = .ok d) (q : ∀ w H', Ex H H' → Val (Γ := Γ) O H H' d w → Q w H') : rAll Γ.K [v] H Q := by
  cases x <;> simp only [b1D] at e <;> try contradiction
  case lst ds =>
    obtain ⟨a, xs, ex, ha, hr⟩ := hx
    subst ex
    obtain ⟨bs, e1, rfl⟩ := map_ok e
    have e2 := reps_bools hr e1
    subst e2
    exact ⟨a, bs, rfl, SqL.of ha, q _ _ (Ex.refl H) val_bl⟩
theorem any_ok {σ : Sg} {ρ : Env} {O : List Addr} {H : Hp} {x d : D} {v : V} {Q : VK} (rs : RS Γ O σ H ρ) (hx : Rep1 Γ.K H (Pc Γ O) x v) (e : b1D .any x = .ok d) (q : ∀ w H', Ex H H' → Val (Γ := Γ) O H H' d w → Q w H') : rAny Γ.K [v] H Q := by
  cases x <;> simp only [b1D] at e <;> try contradiction
  case lst ds =>
    obtain ⟨a, xs, ex, ha, hr⟩ := hx
    subst ex
    obtain ⟨bs, e1, rfl⟩ := map_ok e
    have e2 := reps_bools hr e1
    subst e2
    exact ⟨a, bs, rfl, SqL.of ha, q _ _ (Ex.refl H) val_bl⟩
theorem sum_ok {σ : Sg} {ρ : Env} {O : List Addr} {H : Hp} {x d : D} {v : V} {Q : VK} (rs : RS Γ O σ H ρ) (hx : Rep1 Γ.K H (Pc Γ O) x v) (e : b1D .sum x = .ok d) (q : ∀ w H', Ex H H' → Val (Γ := Γ) O H H' d w → Q w H') : rSum Γ.K [v] H Q := by
  cases x <;> simp only [b1D] at e <;> try contradiction
  case lst ds =>
    obtain ⟨a, xs, ex, ha, hr⟩ := hx
    subst ex
    obtain ⟨bs, e1, rfl⟩ := map_ok e
    have e2 := reps_ints hr e1
    subst e2
    exact ⟨a, bs, rfl, SqL.of ha, q _ _ (Ex.refl H) val_int⟩
theorem se_all (ok : XOk Γ) {a : E} {x : Expr} {p pos : Pos} (hg : Gl Γ.X "all") (hm : Γ.X.mg "all" = none) (ha : SE Γ a x) (hs : noStar x = true) : SE Γ (.b1 .all a) (.Call (.Name "all" p) [x] [] pos) :=
  se_b1B (cr_all ok.calm) hg hm (by decide +kernel) ha hs rfl (by decide) (by decide) (fun rs hx e q => all_ok rs hx e q) (b1D_err _)
theorem se_any (ok : XOk Γ) {a : E} {x : Expr} {p pos : Pos} (hg : Gl Γ.X "any") (hm : Γ.X.mg "any" = none) (ha : SE Γ a x) (hs : noStar x = true) : SE Γ (.b1 .any a) (.Call (.Name "any" p) [x] [] pos) :=
  se_b1B (cr_any ok.calm) hg hm (by decide +kernel) ha hs rfl (by decide) (by decide) (fun rs hx e q => any_ok rs hx e q) (b1D_err _)
theorem se_sum (ok : XOk Γ) {a : E} {x : Expr} {p pos : Pos} (hg : Gl Γ.X "sum") (hm : Γ.X.mg "sum" = none) (ha : SE Γ a x) (hs : noStar x = true) : SE Γ (.b1 .sum a) (.Call (.Name "sum" p) [x] [] pos) :=
  se_b1B (cr_sum ok.calm) hg hm (by decide +kernel) ha hs rfl (by decide) (by decide) (fun rs hx e q => sum_ok rs hx e q) (b1D_err _)
abbrev rListOf (K : Frag) : List V → Hp → VK → Prop := fun xs H Q => ∃ p ys, xs = [.ref p] ∧ (SqL K H p ys ∨ SqT K H p ys) ∧ ∀ l, H l = none → Q (.ref l) (upd H l (.lst ys))
theorem list_ok {σ : Sg} {ρ : Env} {O : List Addr} {H : Hp} {x d : D} {v : V} {Q : VK} (rs : RS Γ O σ H ρ) (hx : Rep1 Γ.K H (Pc Γ O) x v) (e : b1D .list x = .ok d) (q : ∀ w H', Ex H H' → Val (Γ := Γ) O H H' d w → Q w H') : rListOf Γ.K [v] H Q := by
  cases x <;> simp only [b1D] at e <;> try contradiction
  case lst ds =>
    obtain ⟨a, xs, ex, ha, hr⟩ := hx
    subst ex
    cases e
    exact ⟨a, xs, rfl, .inl (SqL.of ha), fun p hp => q _ _ (Ex.new hp) (val_lst rs hp hr)⟩
  case tup ds =>
    simp only [Rep1, Rep] at hx
    obtain ⟨a, xs, ex, ha, hr⟩ := hx
    subst ex
    cases e
    exact ⟨a, xs, rfl, .inr ha.sq, fun p hp => q _ _ (Ex.new hp) (val_lst rs hp hr)⟩
theorem tuple_ok {σ : Sg} {ρ : Env} {O : List Addr} {H : Hp} {x d : D} {v : V} {Q : VK} (rs : RS Γ O σ H ρ) (hx : Rep1 Γ.K H (Pc Γ O) x v) (e : b1D .tuple x = .ok d) (q : ∀ w H', Ex H H' → Val (Γ := Γ) O H H' d w → Q w H') : rTupleOf Γ.K [v] H Q := by
  cases x <;> simp only [b1D] at e <;> try contradiction
  case lst ds =>
    obtain ⟨a, xs, ex, ha, hr⟩ := hx
    subst ex
    cases e
    exact ⟨a, xs, rfl, .inl ⟨SqL.of ha, fun p o hp ho => q _ _ (Ex.new hp) (val_tupN hp ho hr)⟩⟩
  case tup ds =>
    simp only [Rep1, Rep] at hx
    obtain ⟨a, xs, ex, ha, hr⟩ := hx
    subst ex
    cases e
    exact ⟨a, xs, rfl, .inr ⟨ha, q _ _ (Ex.refl H) (val_tup ha hr)⟩⟩
theorem se_list {a : E} {x : Expr} {p pos : Pos} (hg : Gl Γ.X "list") (hm : Γ.X.mg "list" = none) (ha : SE Γ a x) (hs : noStar x = true) : SE Γ (.b1 .list a) (.Call (.Name "list" p) [x] [] pos) :=
  se_b1T call_list_of hg hm (by decide +kernel) ha hs rfl (by decide) (by decide) (fun rs hx e q => list_ok rs hx e q) (b1D_err _)
theorem se_tuple {a : E} {x : Expr} {p pos : Pos} (hg : Gl Γ.X "tuple") (hm : Γ.X.mg "tuple" = none) (ha : SE Γ a x) (hs : noStar x = true) : SE Γ (.b1 .tuple a) (.Call (.Name "tuple" p) [x] [] pos) :=
  se_b1T call_tupleP hg hm (by decide +kernel) ha hs rfl (by decide) (by decide) (fun rs hx e q => tuple_ok rs hx e q) (b1D_err _)
abbrev rIntOf : List V → Hp → VK → Prop := fun xs H Q => ((∃ i, xs = [.int i] ∧ Q (.int i) H) ∨ ∃ k, xs = [.bl k] ∧ Q (.int (if k then 1 else 0)) H) ∨ ∃ a n, xs = [.str a] ∧ PySem.intText? a = some n ∧ a.length ≤ 640 ∧ Q (.int n) H
theorem digit_int {s : List Nat} {n : Int} (h : digit s = some n) : PySem.intText? (mkS s) = some n ∧ (mkS s).length ≤ 640 := by
  unfold digit at h
  split at h
  · rename_i c
    split at h
    · rename_i hc
      cases h
      have : c = 48 ∨ c = 49 ∨ c = 50 ∨ c = 51 ∨ c = 52 ∨ c = 53 ∨ c = 54 ∨ c = 55 ∨ c = 56 ∨ c = 57 := by omega
      rcases this with h | h | h | h | h | h | h | h | h | h <;> subst h <;> decide +kernel
    · cases h
  · cases h
theorem int_ok {σ : Sg} {ρ : Env} {O : List Addr} {H : Hp} {x d : D} {v : V} {Q : VK} (rs : RS Γ O σ H ρ) (hx : Rep1 Γ.K H (Pc Γ O) x v) (e : b1D .int x = .ok d) (q : ∀ w H', Ex H H' → Val (Γ := Γ) O H H' d w → Q w H') : rIntOf [v] H Q := by
  cases x <;> simp only [b1D] at e <;> try contradiction
  case int i =>
    simp only [Rep1, Rep] at hx
    subst hx
    cases e
    exact .inl (.inl ⟨i, rfl, q _ _ (Ex.refl H) val_int⟩)
  case bl i =>
    simp only [Rep1, Rep] at hx
    subst hx
    cases e
    exact .inl (.inr ⟨i, rfl, q _ _ (Ex.refl H) val_int⟩)
  case str s =>
    simp only [Rep1, Rep] at hx
    obtain ⟨hx, _⟩ := hx
    subst hx
    obtain ⟨n, e1, rfl⟩ := map_ok e
    obtain ⟨h1, h2⟩ := digit_int e1
    exact .inr ⟨_, n, rfl, h1, h2, q _ _ (Ex.refl H) val_int⟩
theorem se_intc {a : E} {x : Expr} {p pos : Pos} (hg : Gl Γ.X "int") (hm : Γ.X.mg "int" = none) (ha : SE Γ a x) (hs : noStar x = true) : SE Γ (.b1 .int a) (.Call (.Name "int" p) [x] [] pos) :=
  se_b1T (call_int1.or call_int_str) hg hm (by decide +kernel) ha hs rfl (by decide) (by decide) (fun rs hx e q => int_ok rs hx e q) (b1D_err _)
abbrev rStrOf : List V → Hp → VK → Prop := fun xs H Q => ∃ i : Int, xs = [.int i] ∧ i.natAbs.log2 < 1920 ∧ Q (.str (toString i)) H
theorem str_ok {σ : Sg} {ρ : Env} {O : List Addr} {H : Hp} {x d : D} {v : V} {Q : VK} (rs : RS Γ O σ H ρ) (hx : Rep1 Γ.K H (Pc Γ O) x v) (e : b1D .str x = .ok d) (q : ∀ w H', Ex H H' → Val (Γ := Γ) O H H' d w → Q w H') : rStrOf [v] H Q := by
  cases x <;> simp only [b1D] at e <;> try contradiction
  case int i =>
    simp only [Rep1, Rep] at hx
    subst hx
    split at e
    · rename_i hc
      cases e
      have h1 := q _ _ (Ex.refl H) (val_str (by rw [sizeLine_eq]; simp))
      have hi : i = 0 ∨ i = 1 ∨ i = 2 ∨ i = 3 ∨ i = 4 ∨ i = 5 ∨ i = 6 ∨ i = 7 ∨ i = 8 ∨ i = 9 := by omega
      refine ⟨i, rfl, ?_, ?_⟩
      · rcases hi with h | h | h | h | h | h | h | h | h | h <;> subst h <;> decide
      · have e2 : (PySem.Str.ofString (toString i)) = mkS [48 + i.toNat] := by
          rcases hi with h | h | h | h | h | h | h | h | h | h <;> subst h <;> decide +kernel
        rw [e2]
        exact h1
    · cases e
theorem se_strc {a : E} {x : Expr} {p pos : Pos} (hg : Gl Γ.X "str") (hm : Γ.X.mg "str" = none) (ha : SE Γ a x) (hs : noStar x = true) : SE Γ (.b1 .str a) (.Call (.Name "str" p) [x] [] pos) :=
  se_b1T call_str_int hg hm (by decide +kernel) ha hs rfl (by decide) (by decide) (fun rs hx e q => str_ok rs hx e q) (b1D_err _)
/-! ### max, min of two -/
def b2Nm : B2 → PySem.Str
  | .max => "max"
  | .min => "min"
theorem b2D_err (f : B2) (x y : D) (c : Nat) : b2D f x y ≠ .err c := by
  intro h
  unfold b2D at h
  split at h <;> contradiction
theorem se_b2 (ok : XOk Γ) {f : B2} {a b : E} {x y : Expr} {p pos : Pos} (hg : Gl Γ.X (b2Nm f)) (hm : Γ.X.mg (b2Nm f) = none) (ha : SE Γ a x) (hb : SE Γ b y) (hs : noStar x = true) (ht : noStar y = true) : SE Γ (.b2 f a b) (.Call (.Name (b2Nm f) p) [x, y] [] pos) := by
  have hany : (backTo pos (starEach [y] Γ.X.env)).any (·.1) = false := star_any (by simp [ht])
  cases f with
  | max =>
    refine PE.wk (pe_callB (call_max2 ok.calm) hg hm (by decide +kernel) (pa_cons ha (pa_cons hb pa_nil (star_of ht)) (star_of hs)) (by decide) (by decide) (star_of hs) hany) fun σ H Q h => ?_
    exact TEm.bin (r := fun x y H Q => ∃ i j, [x, y] = [V.int i, V.int j] ∧ Q (.int (if j > i then j else i)) H) (k := b2D .max) (fun ρ => by simp only [ev]) (fun {ρ O H x y v u d Q} rs hx hy e q => by
      cases x <;> cases y <;> simp only [b2D] at e <;> try contradiction
      case int.int i j =>
        simp only [Rep1, Rep] at hx hy
        subst hx hy
        cases e
        exact ⟨i, j, rfl, q _ _ (Ex.refl H) val_int⟩) (b2D_err _) h
  | min =>
    refine PE.wk (pe_callB (call_min2 ok.calm) hg hm (by decide +kernel) (pa_cons ha (pa_cons hb pa_nil (star_of ht)) (star_of hs)) (by decide) (by decide) (star_of hs) hany) fun σ H Q h => ?_
    exact TEm.bin (r := fun x y H Q => ∃ i j, [x, y] = [V.int i, V.int j] ∧ Q (.int (if j < i then j else i)) H) (k := b2D .min) (fun ρ => by simp only [ev]) (fun {ρ O H x y v u d Q} rs hx hy e q => by
      cases x <;> cases y <;> simp only [b2D] at e <;> try contradiction
      case int.int i j =>
        simp only [Rep1, Rep] at hx hy
        subst hx hy
        cases e
        exact ⟨i, j, rfl, q _ _ (Ex.refl H) val_int⟩) (b2D_err _) h
end VE

/-! Sets of texts and ints: made of a list or a text; counted; sorted. -/
namespace VE
open PySem PySem.Spec PyProof.Rows L2

/-- the key that a value is -/
def kOf : Value → Key
  | .int i _ => .inl i
  | .str x _ => .inr x
  | _ => .inl 0
theorem kOf_is {k : Key} {v : Value} (h : keyIs k v = true) : kOf v = k := by
  rcases keyIs_shape h with ⟨i, t, rfl, rfl⟩ | ⟨x, t, rfl, rfl⟩ <;> rfl
theorem scan_is {k : Key} {v : Value} (h : keyIs k v = true) : v.scannable = true := by
  rcases keyIs_shape h with ⟨i, t, rfl, rfl⟩ | ⟨x, t, rfl, rfl⟩ <;> rfl
def GdE (w : World) (e : Int × Value) : Prop := ∃ k, keyIs k e.2 = true ∧ e.1 = keyH w k
abbrev kE (e : Int × Value) : Key := kOf e.2
theorem gd_elems {P : Program} {w : World} {l : List (Int × Value)} (g : ∀ e ∈ l, GdE w e) : ElemsOf (mixKind P w) l := fun e he => by
  obtain ⟨k, h1, h2⟩ := g e he
  exact ⟨⟨k, h1, h2⟩, scan_is h1⟩
theorem gd_is {w : World} {e : Int × Value} (g : GdE w e) (k : Key) : keyIs k e.2 = true ↔ kE e = k := by
  obtain ⟨k0, h1, _⟩ := g
  constructor
  · exact fun h => kOf_is h
  · intro h
    have := kOf_is h1
    rw [show kOf e.2 = k from h] at this
    rw [this]; exact h1
/-- what the set at a holds: the keys ks -/
def SK (w : World) (h : Heap) (a : Addr) (ks : List Key) : Prop :=
  ∃ o es ep t, h.get? a = some o ∧ o.ExactSet ∧ o.data = .set es ep t ∧ (∀ e ∈ es.toList, GdE w e) ∧ (es.toList.map kE).Nodup ∧ (∀ k, k ∈ ks ↔ k ∈ es.toList.map kE) ∧
    es.size ≤ ks.length ∧ es.size < scanBound ∧ t.fits es.size = true ∧ Ris t.place.toList ∧ (w.params.followText "set-order" = true ∨ t.led = true)
theorem SK.mv {w : World} {h h' : Heap} {a : Addr} {ks : List Key} (R : SK w h a ks) (k : ∀ o, h.get? a = some o → h'.get? a = some o) : SK w h' a ks := by
  obtain ⟨o, es, ep, t, ho, r⟩ := R
  exact ⟨o, es, ep, t, k o ho, r⟩
abbrev sObj0 (w : World) : Obj := { cls := .type "set", dict := none, data := .set #[] 0 (.fresh 0 0 (!w.params.followText "set-order")) }
theorem SK.new {w : World} {h : Heap} {a : Addr} (ho : h.get? a = some (sObj0 w)) : SK w h a [] := by
  refine ⟨_, #[], 0, _, ho, ⟨rfl, rfl, rfl⟩, rfl, (fun e he => by simp at he), by simp, fun k => by simp, by simp, by decide, by rfl, List.Pairwise.nil, ?_⟩
  show _ ∨ (!w.params.followText "set-order") = true
  cases w.params.followText "set-order" <;> simp

section
variable {P : Program} {w : World} {A : Around} {E : Value → Shared → Prop} {s : Shared} {a : Addr} {ks : List Key}
theorem sk_tail {g : Bool → Sem Unit} (hg : ∀ (b : Bool) (s₁ : Shared) (Q' : Unit → Shared → Prop), Q' () s₁ → wpAny (model P w) A (g b) Q' E s₁)
    {o : Obj} {es es1 : Array (Int × Value)} {ep : Nat} {t t2 : SetTable} {ks' : List Key} {wd : Bool} {R : Option Bool → Shared → Prop} (ho : s.heap.get? a = some o) (hex : o.ExactSet) (hd : o.data = .set es ep t)
    (g1 : ∀ e ∈ es1.toList, GdE w e) (nd1 : (es1.toList.map kE).Nodup) (m1 : ∀ k, k ∈ ks' ↔ k ∈ es1.toList.map kE) (hc : es1.size ≤ ks'.length) (hb1 : es1.size < scanBound) (hf2 : t2.fits es1.size = true)
    (hr : Ris t2.place.toList) (hl : w.params.followText "set-order" = true ∨ t2.led = true) (hR : ∀ h', Heap.SameBut a s.heap h' → SK w h' a ks' → R (some true) { s with heap := h' }) :
    wpAny (model P w) A (do
        storeSet a es1 t2
        if (!wd && t2.tooFull) = true then do
            g (relayAll t2 es1 (SetTable.grown es1.size)).2.2
            storeSet a (relayAll t2 es1 (SetTable.grown es1.size)).1 (relayAll t2 es1 (SetTable.grown es1.size)).2.1
            pure (some true)
          else pure (some true)) R E s := by
  refine wpAny_bind (wpAny_storeSet_of ho hd ?_ (fits_of_scanBound hb1))
  have ho1 := store_at (es' := es1) (t' := t2) ho hd
  have sb := Heap.SameBut.update s.heap a (Obj.putSet es1 t2)
  split
  · have pm := relayAll_perm t2 es1 (SetTable.grown es1.size)
    have f3 := relayAll_fits t2 es1 (SetTable.grown es1.size)
    have r3 := relayAll_ris t2 es1 (SetTable.grown es1.size)
    have l3 := relayAll_led t2 es1 (SetTable.grown es1.size)
    generalize relayAll t2 es1 (SetTable.grown es1.size) = Z at pm f3 r3 l3 ⊢
    obtain ⟨es2, t3, gave⟩ := Z
    dsimp only at pm f3 r3 l3 ⊢
    have hz : es2.size = es1.size := by rw [← Array.length_toList, pm.length_eq, Array.length_toList]
    refine wpAny_bind (hg _ _ _ (wpAny_bind (wpAny_storeSet_of ho1 rfl ?_ (fits_of_scanBound (by rw [hz]; exact hb1)))))
    have ho2 := store_at (es' := es2) (t' := t3) ho1 rfl
    refine wpAny_pure (hR _ (sb.trans (Heap.SameBut.update _ a _)) ⟨_, es2, _, t3, ho2, hex, rfl, fun e he => g1 e (pm.mem_iff.mp he), (pm.map kE).nodup_iff.mpr nd1, fun k => (m1 k).trans (pm.map kE).mem_iff.symm, by rw [hz]; exact hc, by rw [hz]; exact hb1, f3, r3, ?_⟩)
    exact hl.imp id fun z => by rw [l3]; exact z
  · exact wpAny_pure (hR _ sb ⟨_, es1, _, t2, ho1, hex, rfl, g1, nd1, m1, hc, hb1, hf2, hr, hl⟩)
theorem sk_add {k : Key} {v : Value} {Q : Bool → Shared → Prop} (hk : keyIs k v = true) (R : SK w s.heap a ks) (room : ks.length + 1 < scanBound)
    (hQ : ∀ h' b, Heap.SameBut a s.heap h' → SK w h' a (ks ++ [k]) → Q b { s with heap := h' }) : wpAny (model P w) A (setAddHashed a v ((mixKind P w).hash k)) Q E s := by
  obtain ⟨o, es, ep, t, ho, hex, hd, g, nd, hm, hc, hb, hf, hr, hl⟩ := R
  have hkey : (mixKind P w).is k v = true := hk
  have hsc := scan_is hk
  have hel : ElemsOf (mixKind P w) es.toList := gd_elems g
  unfold setAddHashed setAddHashedIn
  refine wpAny_holding (wpAny_bind (wpAny_setState_of ho hd hf ?_))
  dsimp only
  rw [byScan_of hsc hb hel]
  simp only [↓reduceIte]
  unfold setAddByScan
  refine wpAny_bind (wpAny_bind (wpAny_rule (wpAny_bind (wpAny_setScan_of hkey ho hd hf hel ?_))))
  cases hfi : List.findIdx? (fun e => (mixKind P w).is k e.2) es.toList with
  | some j =>
    dsimp only
    obtain ⟨hj, pj, _⟩ := List.findIdx?_eq_some_iff_getElem.mp hfi
    have hin : k ∈ es.toList.map kE := List.mem_map.mpr ⟨es.toList[j], List.getElem_mem hj, (gd_is (g _ (List.getElem_mem hj)) k).1 pj⟩
    refine wpAny_pure (wpAny_pure (hQ s.heap _ (Heap.SameBut.refl a s.heap) ⟨o, es, ep, t, ho, hex, hd, g, nd, fun i => ?_, by rw [List.length_append]; omega, hb, hf, hr, hl⟩))
    rw [List.mem_append, List.mem_singleton, hm i]
    exact ⟨fun z => z.elim id (fun e => e ▸ hin), .inl⟩
  | none =>
    dsimp only
    have hnk : k ∉ es.toList.map kE := fun z => by
      obtain ⟨e, he, q⟩ := List.mem_map.mp z
      have c := List.findIdx?_eq_none_iff.mp hfi e he
      rw [show (mixKind P w).is k e.2 = true from (gd_is (g e he) k).2 q] at c
      cases c
    have pm := layNew_perm t es ((mixKind P w).hash k) v
    have f1 := layNew_fits t es ((mixKind P w).hash k) v
    have r1 := layNew_ris t es ((mixKind P w).hash k) v hr
    have l1 := layNew_led t es ((mixKind P w).hash k) v
    generalize layNew t es ((mixKind P w).hash k) v = Z at pm f1 r1 l1 ⊢
    obtain ⟨es1, t1, wd, gave⟩ := Z
    dsimp only at pm f1 r1 l1 ⊢
    rw [Array.toList_push] at pm
    have pc : es1.toList.Perm (((mixKind P w).hash k, v) :: es.toList) := pm.trans (List.perm_append_singleton _ _)
    have pk : (es1.toList.map kE).Perm (k :: es.toList.map kE) := by
      have q := pc.map kE
      rw [List.map_cons, show kE ((mixKind P w).hash k, v) = k from kOf_is hk] at q
      exact q
    have g1 : ∀ e ∈ es1.toList, GdE w e := fun e he => by
      rcases List.mem_cons.mp (pc.mem_iff.mp he) with z | z
      · rw [z]; exact ⟨k, hk, rfl⟩
      · exact g e z
    have nd1 : (es1.toList.map kE).Nodup := pk.nodup_iff.mpr (List.nodup_cons.mpr ⟨hnk, nd⟩)
    have m1 : ∀ i, i ∈ ks ++ [k] ↔ i ∈ es1.toList.map kE := fun i => by
      rw [List.mem_append, List.mem_singleton, hm i, pk.mem_iff, List.mem_cons]
      exact Or.comm
    have hsz : es1.size = es.size + 1 := by rw [← Array.length_toList, pc.length_eq, List.length_cons, Array.length_toList]
    have hc1 : es1.size ≤ (ks ++ [k]).length := by rw [List.length_append, List.length_singleton]; omega
    have hb1 : es1.size < scanBound := by rw [List.length_append, List.length_singleton] at hc1; omega
    have hled : w.params.followText "set-order" = true ∨ t1.led = true := hl.imp id fun z => by rw [l1]; exact z
    have hgw : ∀ (b : Bool) {s₁ : Shared} {Q' : Unit → Shared → Prop}, Q' () s₁ → wpAny (model P w) A (match b with | true => rule "set.scan.the-table-gave-way" | false => pure ()) Q' E s₁ :=
      fun b s₁ Q' q => by cases b <;> first | exact wpAny_pure q | exact wpAny_rule q
    refine wpAny_bind (hgw _ ?_)
    split
    · refine wpAny_bind ?_
      rw [hashByValue_scannable 8 hsc]
      refine wpAny_pure (sk_tail ?_ ho hex hd g1 nd1 m1 hc1 hb1 ?_ ?_ ?_ ?_)
      · intro b s₁ Q' q; cases b <;> first | exact wpAny_pure q | exact wpAny_rule q
      · first | (split <;> first | exact f1 | exact SetTable.fits_plain_off f1) | exact f1
      · first | (split <;> exact r1) | exact r1
      · first | (split <;> exact hled) | exact hled
      · intro h' sb r; dsimp only; exact wpAny_pure (hQ h' _ sb r)
    · refine wpAny_bind (wpAny_pure ?_)
      simp only [↓reduceIte]
      refine sk_tail ?_ ho hex hd g1 nd1 m1 hc1 hb1 f1 r1 hled ?_
      · intro b s₁ Q' q; cases b <;> first | exact wpAny_pure q | exact wpAny_rule q
      · intro h' sb r; dsimp only; exact wpAny_pure (hQ h' _ sb r)
theorem sk_loop {I : Addr} {fp wr : List Addr} {G : Array GenState → Array GenState → Prop} {n : Nat} {Pv : Nat → Value → Prop} {St : Nat → Shared → Prop} {R : Result → Shared → Prop}
    (W : WalksS P w A.in1 I fp wr G n Pv St) (S : Addr) (hSf : S ∉ fp) (ks : List Key) (hn : n = ks.length) (hb : ks.length + 1 < scanBound) (hval : ∀ i v, Pv i v → ∃ k, ks[i]? = some k ∧ keyIs k v = true) :
    ∀ (m i : Nat) (s : Shared), n - i = m → i ≤ n → St i s → SK w s.heap S (ks.take i) → (∀ s', Moved (S :: wr) G s s' → SK w s'.heap S ks → R (.ok (.ret .none)) s') →
      codeAny (model P w) A (.builtin "set.update.loop" ⟨[.ref S, .ref I], []⟩) R s := by
  have hSw : S ∉ wr := fun h => hSf (W.sub _ h)
  have hsub : ∀ b ∈ wr, b ∈ S :: wr := fun b hb => List.mem_cons_of_mem _ hb
  intro m
  induction m with
  | zero =>
    intro i s hm hi hst hS hR
    obtain rfl : i = n := by omega
    refine codeAny_builtin F.entry_set_update_loop ?_
    rw [Around.under_plainId F.plain_set_update_loop _]
    show wpAny _ A.in1 (pyNext (.ref I) >>= _) _ _ s
    refine wpAny_bind (W.done s _ _ hst fun s' mo => ?_)
    show wpAny _ A.in1 (ret Value.none) _ _ s'
    rw [List.take_of_length_le (by omega)] at hS
    exact wpAny_pure (hR s' (mo.mono hsub) (hS.mv fun o e => mo.heap S o hSw e))
  | succ m ih =>
    intro i s hm hi hst hS hR
    have hlt : i < n := by omega
    refine codeAny_builtin F.entry_set_update_loop ?_
    rw [Around.under_plainId F.plain_set_update_loop _]
    show wpAny _ A.in1 (pyNext (.ref I) >>= _) _ _ s
    refine wpAny_bind (W.item i s _ _ hlt hst fun v s' hP hst' mo => ?_)
    obtain ⟨k, hk, kv⟩ := hval i v hP
    have hS' : SK w s'.heap S (ks.take i) := hS.mv fun o e => mo.heap S o hSw e
    show wpAny _ A.in1 (holding [v] (setAdd S v) >>= _) _ _ s'
    refine wpAny_bind (wpAny_holding ?_)
    unfold setAdd
    refine wpAny_holding (wpAny_bind ((mixKind P w).pyHash (k := k) kv ?_))
    refine sk_add (s := { s' with toks := s'.toks + 1 }) kv hS' (by rw [List.length_take]; omega) fun h' _ sb hS2 => ?_
    have e3 : ks.take (i + 1) = ks.take i ++ [k] := by rw [List.take_add_one, hk]; rfl
    rw [← e3] at hS2
    refine wpAny_pure ⟨plainId_quiet F.plain_set_update_loop _, ih (i + 1) _ (by omega) hlt (W.frame _ s' _ _ hst' (Nat.le_succ _) fun b hb o e => ?_) hS2 fun s2 m2 hS3 => ?_⟩
    · rw [sb.2 b (fun h : b = S => hSf (by rw [← h]; exact hb))]; exact e
    · refine hR s2 (Moved.trans W.gtrans ((mo.mono hsub).then_heap (Nat.le_succ _) fun b o hb e => ?_) m2) hS3
      rw [sb.2 b (fun h : b = S => hb (by rw [h]; exact List.mem_cons_self))]; exact e
/-- the shell of set(v): what __init__ does with v is told apart -/
theorem call_set_sh {v : Value} {ks : List Key} {Q : Value → Shared → Prop}
    (hi : ∀ (E' : Value → Shared → Prop) (Q' : PySem.Fin → Shared → Prop), (∀ h' tk, SK w h' s.heap.objs.size ks → (∀ b o, s.heap.get? b = some o → h'.get? b = some o) → Q' (.done (.ret .none)) { s with heap := h', toks := tk }) →
      wpAny (model P w) A.in1.in1 (Builtin.«set.__init__» ⟨[.ref s.heap.objs.size, v], []⟩) Q' E' { s with heap := s.heap.push (sObj0 w) })
    (h : ∀ h' tk, SK w h' s.heap.objs.size ks → (∀ b o, s.heap.get? b = some o → h'.get? b = some o) → Q (.ref s.heap.objs.size) { s with heap := h', toks := tk }) :
    wpAny (model P w) A (call (.type "set") [v]) Q E s := by
  obtain ⟨c, tl, hmro⟩ := F.called_set.mro
  have hmade := F.called_set.made
  have hsub := F.called_set.sub
  refine wpAny_call (codeAny_of_tree ?_)
  show wpAny _ _ (callAny (.type "set") _) _ _ _
  refine wpAny_pure ⟨Code.quiet_builtin _ (by decide +kernel), codeAny_builtin F.entry_type_call ?_⟩
  rw [Around.under_plain (weight_type_call_type "set" [v] []) rfl]
  have h1 := F.called_set.notType
  have h2 := F.called_set.canCreate
  have hct := F.typeCall_set_1 v
  repeat (any_goals (first | assumption | wp_step))
  refine codeAny_mono (code_set_led1 v (E := E) (Q₁ := fun obj s₁ => obj = .ref s.heap.objs.size ∧ s₁ = { s with heap := s.heap.push (sObj0 w) }) ⟨rfl, rfl⟩) fun r s₁ hr => ?_
  cases r with
  | error e => exact hr
  | ok fl => cases fl with
    | ret obj =>
      obtain ⟨rfl, rfl⟩ := hr
      have hS : (s.heap.push (sObj0 w)).get? s.heap.objs.size = some (sObj0 w) := Heap.get?_push_size _ rfl
      have hT : Shared.TypeIs { s with heap := s.heap.push (sObj0 w) } (.ref s.heap.objs.size) "set" := ⟨_, hS, rfl⟩
      have hli := F.called_set.init.lookup
      have hbi := F.called_set.init.bind (.ref s.heap.objs.size)
      repeat (any_goals (first | assumption | wp_step))
      refine codeAny_mono (codeAny_call_builtin (R := wants (fun r s₂ => r = .none ∧ ∃ h' tk, s₂ = { s with heap := h', toks := tk } ∧ SK w h' s.heap.objs.size ks ∧ (∀ b o, s.heap.get? b = some o → h'.get? b = some o)) E) F.called_set.init.plain F.entry_set_init (check_set_init_1 hT ?_)) fun r₂ s₂ hr₂ => ?_
      · exact hi _ _ fun h' tk k1 k2 => ⟨rfl, h', tk, rfl, k1, k2⟩
      · cases r₂ with
        | error e => exact hr₂
        | ok fl₂ => cases fl₂ with
          | ret r =>
            obtain ⟨rfl, h', tk, rfl, k1, k2⟩ := hr₂
            repeat (any_goals (first | assumption | wp_step))
            exact h _ _ k1 k2
          | _ => exact hr₂.elim
    | _ => exact hr.elim
end
end VE

/-! Sorting. -/
namespace VE
open PySem PySem.Spec PyProof.Rows L2

/-! ### insertion sort is the stable sort -/
section
variable {α : Type} {le : α → α → Bool}
theorem ins_mem {x y : α} : ∀ {l : List α}, y ∈ ins le x l ↔ y = x ∨ y ∈ l
  | [] => by simp [ins]
  | z :: r => by
    unfold ins
    split
    · simp
    · rw [List.mem_cons, ins_mem (l := r), List.mem_cons]
      constructor
      · rintro (h | h | h) <;> simp [h]
      · rintro (h | h | h) <;> simp [h]
theorem ins_pw (h : PySem.W.TotalLe le) (x : α) : ∀ {l : List α}, l.Pairwise (fun a b => le a b = true) → (ins le x l).Pairwise fun a b => le a b = true
  | [], _ => by simp [ins]
  | y :: r, hp => by
    unfold ins
    rw [List.pairwise_cons] at hp
    split
    · rename_i hx
      refine List.pairwise_cons.mpr ⟨fun z hz => ?_, List.pairwise_cons.mpr hp⟩
      rcases List.mem_cons.mp hz with e | e
      · rw [e]; exact hx
      · exact h.trans _ _ _ hx (hp.1 z e)
    · rename_i hx
      refine List.pairwise_cons.mpr ⟨fun z hz => ?_, ins_pw h x hp.2⟩
      rcases ins_mem.mp hz with e | e
      · rw [e]; exact (h.total y x).resolve_right hx
      · exact hp.1 z e
theorem ins_filter (h : PySem.W.TotalLe le) (c x : α) : ∀ (l : List α), (ins le x l).filter (PySem.W.sameRank le c) = (x :: l).filter (PySem.W.sameRank le c)
  | [] => by simp [ins]
  | y :: r => by
    unfold ins
    split
    · rfl
    · rename_i hx
      have ih := ins_filter h c x r
      rw [List.filter_cons, ih]
      simp only [List.filter_cons]
      cases hy : PySem.W.sameRank le c y with
      | false => simp
      | true =>
        cases hz : PySem.W.sameRank le c x with
        | false => simp
        | true =>
          exfalso
          unfold PySem.W.sameRank at hy hz
          rw [Bool.and_eq_true] at hy hz
          exact hx (h.trans _ _ _ hz.2 hy.1)
theorem isort_pw (h : PySem.W.TotalLe le) : ∀ (l : List α), (isort le l).Pairwise fun a b => le a b = true
  | [] => by simp [isort]
  | x :: r => by unfold isort; exact ins_pw h x (isort_pw h r)
theorem isort_filter (h : PySem.W.TotalLe le) (c : α) : ∀ (l : List α), (isort le l).filter (PySem.W.sameRank le c) = l.filter (PySem.W.sameRank le c)
  | [] => by simp [isort]
  | x :: r => by
    unfold isort
    rw [ins_filter h]
    simp only [List.filter_cons]
    rw [isort_filter h c r]
theorem isort_merge (h : PySem.W.TotalLe le) (l : List α) : isort le l = l.mergeSort le := PySem.W.sort_unique h (isort_pw h l) fun c => isort_filter h c l
theorem ins_congr {le' : α → α → Bool} {x : α} : ∀ {l : List α}, (∀ y ∈ l, le x y = le' x y) → ins le x l = ins le' x l
  | [], _ => rfl
  | y :: r, h => by
    unfold ins
    rw [h y List.mem_cons_self, ins_congr fun z hz => h z (List.mem_cons_of_mem _ hz)]
theorem isort_mem {x : α} : ∀ {l : List α}, x ∈ isort le l ↔ x ∈ l
  | [] => by simp [isort]
  | y :: r => by unfold isort; rw [ins_mem, isort_mem, List.mem_cons]
theorem isort_congr {le' : α → α → Bool} : ∀ {l : List α}, (∀ x ∈ l, ∀ y ∈ l, le x y = le' x y) → isort le l = isort le' l
  | [], _ => rfl
  | x :: r, h => by
    unfold isort
    rw [isort_congr fun a ha b hb => h a (List.mem_cons_of_mem _ ha) b (List.mem_cons_of_mem _ hb)]
    exact ins_congr fun y hy => h x List.mem_cons_self y (List.mem_cons_of_mem _ (isort_mem.mp hy))
theorem ins_perm (x : α) : ∀ (l : List α), (ins le x l).Perm (x :: l)
  | [] => List.Perm.refl _
  | y :: r => by
    unfold ins
    split
    · exact List.Perm.refl _
    · exact ((ins_perm x r).cons y).trans (List.Perm.swap x y r)
theorem isort_perm : ∀ (l : List α), (isort le l).Perm l
  | [] => List.Perm.refl _
  | x :: r => by unfold isort; exact (ins_perm x _).trans ((isort_perm r).cons x)
end

theorem le_py {x y : D} (h : alike y x = true) (px : plain x = true) (py : plain y = true) : PySem.W.dataLe false toPy x y = leD x y := by
  show (!PySem.W.dataLt (toPy y) (toPy x)) = leD x y
  rw [lt_py y x h py px]
  rfl
theorem dataLe_total {β : Type} (k : β → PyData) : PySem.W.TotalLe (PySem.W.dataLe false k) := PySem.W.sortLe_total _ _ _
theorem merge_isort {ds : List D} (h : (ds.all fun x => ds.all fun y => alike x y) = true) : ds.mergeSort (PySem.W.dataLe false toPy) = isort leD ds := by
  have al : ∀ x ∈ ds, ∀ y ∈ ds, alike x y = true := fun x hx y hy => List.all_eq_true.mp (List.all_eq_true.mp h x hx) y hy
  have pl : ∀ x ∈ ds, plain x = true := fun x hx => alike_plain x x (al x hx x hx) (al x hx x hx)
  rw [← isort_merge (dataLe_total toPy)]
  exact isort_congr fun x hx y hy => le_py (al y hy x hx) (pl x hx) (pl y hy)

/-! ### sorted(a list) -/
variable {Γ : Ctx}
theorem deeps_mem : ∀ {ds : List D} {d : D}, d ∈ ds → deep d ≤ deeps ds
  | x :: xs, d, h => by
    simp only [deeps]
    rcases List.mem_cons.mp h with e | e
    · rw [e]; omega
    · have := deeps_mem e; omega
theorem reps_each {K : Frag} {H : Hp} {P : Addr → Prop} : ∀ {ds : List D} {vs : List V} {us : List Value}, Reps K H P ds vs → Vals vs us → PySem.W.EachIs (fun u d => ∃ v, RelV v u ∧ Rep K H P d v) us ds
  | [], [], [], _, _ => .nil
  | d :: ds, v :: vs, u :: us, h, r => by
    rw [reps_cons] at h
    cases r with
    | cons r t => exact .cons ⟨v, r, h.1⟩ (reps_each h.2 t)
  | [], _ :: _, _, h, _ => by simp [Reps] at h
  | _ :: _, [], _, h, _ => by simp [Reps] at h
  | [], [], _ :: _, _, r => by cases r
  | _ :: _, _ :: _, [], _, r => by cases r
theorem each_reps {K : Frag} {H : Hp} {P : Addr → Prop} : ∀ {ds : List D} {us : List Value}, PySem.W.EachIs (fun u d => ∃ v, RelV v u ∧ Rep K H P d v) us ds → ∃ vs, Vals vs us ∧ Reps K H P ds vs
  | _, _, .nil => ⟨[], .nil, reps_nil⟩
  | _, _, .cons ⟨v, r, h⟩ t => by
    obtain ⟨vs, h1, h2⟩ := each_reps t
    exact ⟨v :: vs, .cons r h1, reps_cons.mpr ⟨h, h2⟩⟩
structure SOk (ds : List D) : Prop where
  al : (ds.all fun x => ds.all fun y => alike x y) = true
  dp : deeps ds ≤ 60
  st : PySem.W.Sortable (ds.map toPy)
theorem sok_of {ds : List D} (h : sortable ds = true) : SOk ds := by
  unfold sortable at h
  rw [Bool.and_eq_true, Bool.and_eq_true, decide_eq_true_eq, Bool.or_eq_true] at h
  refine ⟨h.1.1, h.1.2, ?_⟩
  rcases h.2 with q | q
  · left
    intro d hd
    obtain ⟨x, hx, rfl⟩ := List.mem_map.mp hd
    have := List.all_eq_true.mp q x hx
    cases x <;> (try exact absurd this Bool.false_ne_true)
    case tup xs =>
      cases xs with
      | nil => exact absurd this (by decide)
      | cons y r => exact ⟨toPy y, toPys r, by simp only [toPy, toPys]⟩
  · right
    intro d hd
    obtain ⟨x, hx, rfl⟩ := List.mem_map.mp hd
    have := List.all_eq_true.mp q x hx
    have al := List.all_eq_true.mp (List.all_eq_true.mp h.1.1 x hx) x hx
    cases x <;> simp only [alike] at al <;> (try contradiction) <;> simp [toPy] at this ⊢
theorem SOk.alm {ds : List D} (h : SOk ds) : ∀ x ∈ ds, ∀ y ∈ ds, alike x y = true := fun x hx y hy => List.all_eq_true.mp (List.all_eq_true.mp h.al x hx) y hy
theorem SOk.pl {ds : List D} (h : SOk ds) : ∀ x ∈ ds, plain x = true := fun x hx => alike_plain x x (h.alm x hx x hx) (h.alm x hx x hx)
theorem SOk.all {ds : List D} (h : SOk ds) : PySem.W.AllAlike (ds.map toPy) := fun d hd d' hd' => by
  obtain ⟨x, hx, rfl⟩ := List.mem_map.mp hd
  obtain ⟨y, hy, rfl⟩ := List.mem_map.mp hd'
  exact alike_py x y (h.alm x hx y hy)
abbrev rSortL (Γ : Ctx) (P : Addr → Prop) : List V → Hp → VK → Prop := fun xs H Q => ∃ (a : Addr) (vs : List V) (ds : List D), xs = [.ref a] ∧ SqL Γ.K H a vs ∧ Reps Γ.K H P ds vs ∧ sortable ds = true ∧
  ∀ (p : Addr) (ws : List V), H p = none → Reps Γ.K H P (isort leD ds) ws → Q (.ref p) (upd H p (.lst ws))
theorem call_sortL (ok : XOk Γ) (P : Addr → Prop) : CallR Γ.X (.builtin "sorted") (rSortL Γ P) := by
  intro pins s σ H xs us Q I r h
  obtain ⟨a, vs, ds, rfl, hs, hr, so, q⟩ := h
  obtain ⟨its, rv, hl, hz⟩ := I.list hs
  rw [vals_ref r]
  have so := sok_of so
  have e := reps_each hr rv
  have er : PySem.W.EachIs (fun u d => ∃ as, Reads s.heap u (toPy d) as) its ds := by
    have := PySem.W.each_mem e
    exact this.mono fun u d ⟨⟨v, r1, r2⟩, hd⟩ => Dp.reads I _ v u (r2.dp (so.pl d hd)) r1
  refine PySem.W.sorted_data (enc := toPy) hl.isList e er so.all so.st (by rw [hr.length]; exact hz) (fun b hb => ?_) fun out ho eo => ?_
  · have := ok.units
    have h1 := deeps_mem hb
    have h2 := so.dp
    rw [deep_py b (so.pl b hb)]
    show Γ.X.A.units + 2 + deep b < cLine
    omega
  · rw [merge_isort so.al] at eo
    obtain ⟨ws, w1, w2⟩ := each_reps eo
    obtain ⟨ep, he'⟩ := PyProof.Rows.sortedAll_at s.heap its out.toArray
    exact ⟨.ref _, upd H (s.heap.objs.size + 1) (.lst ws), I.laid (t' := s.toks) (fun _ _ => PyProof.Rows.sortedAll_old) (Nat.le_succ _) ⟨by rw [← w2.length, (isort_perm ds).length_eq, hr.length]; exact hz, out, ep, w1, he'⟩, rfl, q _ _ (I.hok.fresh (Nat.le_succ _)) w2⟩
end VE

/-! set(..) counted, set(..) sorted. -/
namespace VE
open PySem PySem.Spec PyProof.Rows L2
section
variable {P : Program} {w : World} {A : Around} {E : Value → Shared → Prop} {s : Shared}
theorem vals_keys (P : Program) (w : World) : ∀ {ks : List Key} {us : List Value}, Vals (ks.map kV) us → ∀ (i : Nat) (u : Value), us[i]? = some u → ∃ k, ks[i]? = some k ∧ keyIs k u = true
  | [], us, h, i, u, e => by
    cases h
    simp at e
  | k :: ks, us, h, i, u, e => by
    cases h with
    | cons r t =>
      cases i with
      | zero =>
        simp at e
        subst e
        exact ⟨k, rfl, kV_is (P := P) (w := w) r⟩
      | succ i => exact vals_keys P w t i u (by simpa using e)
theorem set_of_list {l : Addr} {its : Array Value} {ks : List Key} {Q : Value → Shared → Prop} (hh : A.handled = none) (hl : s.heap.IsList l its) (hv : Vals (ks.map kV) its.toList) (hb : ks.length + 1 < scanBound)
    (h : ∀ h' tk, SK w h' s.heap.objs.size ks → (∀ b o, s.heap.get? b = some o → h'.get? b = some o) → Q (.ref s.heap.objs.size) { s with heap := h', toks := tk }) :
    wpAny (model P w) A (call (.type "set") [.ref l]) Q E s := by
  have hz : its.size = ks.length := by have q := Paired.length hv; rw [List.length_map, Array.length_toList] at q; exact q.symm
  refine call_set_sh (fun E' Q' hQ => ?_) h
  have hS : (s.heap.push (sObj0 w)).get? s.heap.objs.size = some (sObj0 w) := Heap.get?_push_size _ rfl
  have hT : Shared.TypeIs { s with heap := s.heap.push (sObj0 w) } (.ref s.heap.objs.size) "set" := ⟨_, hS, rfl⟩
  obtain ⟨ol, hol, hcl, nl, hdl⟩ := hl
  obtain ⟨ocls, odict, odata, oslots⟩ := ol
  simp only at hcl hdl
  subst hcl; subst hdl
  have hol' : (s.heap.push (sObj0 w)).get? l = some { cls := .type "list", dict := odict, data := .seq its nl, slots := oslots } := Heap.get?_push_of_some _ hol
  have hsls := PySem.F.sub_list_set
  have hslf := PySem.F.sub_list_frozenset
  have hne : (Value.type "list" == Value.type "dict") = false := by decide
  have hl1 : (s.heap.push (sObj0 w)).IsList l its := ⟨_, hol', rfl, nl, rfl⟩
  unfold Builtin.«set.__init__» noKeywords Builtin.Frozenset.updateFrom
  generalize hPI : pyIter = PI
  wp_walk
  subst hPI
  refine wpAny_pyIter_list hl1 (wpAny_bind (wpAny_runValue ?_))
  have hlS : l < s.heap.objs.size := Heap.lt_size hol
  have hh3 : A.in1.in1.in1.handled = none := by simp [hh]
  have hneI : l ≠ (s.heap.push (sObj0 w)).objs.size := by rw [Heap.size_push]; exact Nat.ne_of_lt (Nat.lt_succ_of_lt hlS)
  have hSf : s.heap.objs.size ∉ [(s.heap.push (sObj0 w)).objs.size, l] := by
    rw [Heap.size_push]
    simp only [List.mem_cons, List.not_mem_nil, or_false, not_or]
    exact ⟨Nat.ne_of_lt (Nat.lt_succ_self _), Nat.ne_of_gt hlS⟩
  refine sk_loop ((Walks.list hh3 _ l hneI its).toS) s.heap.objs.size hSf ks hz hb (fun i v q => vals_keys P w hv i v (by rw [Array.getElem?_toList]; exact q)) (its.size - 0) 0 _ (by omega) (Nat.zero_le _)
    ⟨⟨_, Heap.get?_push_size _ rfl, rfl, rfl⟩, (hl1.push _)⟩ ?hS0 ?hR
  case hS0 =>
    rw [List.take_zero]
    exact SK.new (Heap.get?_push_of_some _ hS)
  case hR =>
    intro s' hm hS'
    obtain ⟨h', g', d', tk', os'⟩ := s'
    have eg : g' = s.gens := hm.gens
    have ed : d' = s.drawn := hm.drawn
    have eo : os' = s.os := hm.os
    subst eg; subst ed; subst eo
    show wpAny _ _ _ _ _ _
    refine wpAny_pure ?_
    show wpAny _ _ (ret Value.none) _ _ _
    refine wpAny_pure (hQ h' tk' hS' fun b o e => ?_)
    have hb0 : b < s.heap.objs.size := Heap.lt_size e
    refine hm.heap b o ?_ (Heap.get?_push_of_some _ (Heap.get?_push_of_some _ e))
    rw [Heap.size_push]
    simp only [List.mem_cons, List.not_mem_nil, or_false, not_or]
    exact ⟨Nat.ne_of_lt hb0, Nat.ne_of_lt (Nat.lt_succ_of_lt hb0)⟩
theorem set_of_str {x : PySem.Str} {t : Tok} {Q : Value → Shared → Prop} (hh : A.handled = none) (hb : x.cps.size + 1 < scanBound)
    (h : ∀ h' tk, SK w h' s.heap.objs.size (x.cps.toList.map fun c => .inr (mkS [c])) → (∀ b o, s.heap.get? b = some o → h'.get? b = some o) → Q (.ref s.heap.objs.size) { s with heap := h', toks := tk }) :
    wpAny (model P w) A (call (.type "set") [.str x t]) Q E s := by
  refine call_set_sh (fun E' Q' hQ => ?_) h
  have hS : (s.heap.push (sObj0 w)).get? s.heap.objs.size = some (sObj0 w) := Heap.get?_push_size _ rfl
  have hT : Shared.TypeIs { s with heap := s.heap.push (sObj0 w) } (.ref s.heap.objs.size) "set" := ⟨_, hS, rfl⟩
  have hT2 : Shared.TypeIs { s with heap := s.heap.push (sObj0 w) } (.str x t) "str" := typeIs_str _ _ _
  have hsls := PySem.F.sub_str_set
  have hslf := PySem.F.sub_str_frozenset
  have hne : (Value.type "str" == Value.type "dict") = false := by decide
  unfold Builtin.«set.__init__» noKeywords Builtin.Frozenset.updateFrom
  generalize hPI : pyIter = PI
  wp_walk
  subst hPI
  refine wpAny_pyIter_str fun o St hW hst => wpAny_bind (wpAny_runValue ?_)
  have hh3 : A.in1.in1.in1.handled = none := by simp [hh]
  have hSf : s.heap.objs.size ∉ [(s.heap.push (sObj0 w)).objs.size] := by
    rw [Heap.size_push]
    simp only [List.mem_cons, List.not_mem_nil, or_false]
    exact Nat.ne_of_lt (Nat.lt_succ_self _)
  refine sk_loop ((hW _ hh3).toS) s.heap.objs.size hSf (x.cps.toList.map fun c => .inr (mkS [c])) (by simp) (by simpa using hb) (fun i v q => ?_) (x.cps.size - 0) 0 _ (by omega) (Nat.zero_le _) hst ?hS0 ?hR
  · obtain ⟨c, u, h1, rfl⟩ := q
    refine ⟨.inr (mkS [c]), ?_, keyIs_str _ _⟩
    rw [List.getElem?_map, Array.getElem?_toList, h1]
    rfl
  case hS0 =>
    rw [List.take_zero]
    exact SK.new (Heap.get?_push_of_some _ hS)
  case hR =>
    intro s' hm hS'
    obtain ⟨h', g', d', tk', os'⟩ := s'
    have eg : g' = s.gens := hm.gens
    have ed : d' = s.drawn := hm.drawn
    have eo : os' = s.os := hm.os
    subst eg; subst ed; subst eo
    show wpAny _ _ _ _ _ _
    refine wpAny_pure ?_
    show wpAny _ _ (ret Value.none) _ _ _
    refine wpAny_pure (hQ h' tk' hS' fun b o e => ?_)
    have hb0 : b < s.heap.objs.size := Heap.lt_size e
    refine hm.heap b o ?_ (Heap.get?_push_of_some _ (Heap.get?_push_of_some _ e))
    rw [Heap.size_push]
    simp only [List.mem_cons, List.not_mem_nil, or_false, not_or]
    exact ⟨Nat.ne_of_lt hb0, Nat.ne_of_lt (Nat.lt_succ_of_lt hb0)⟩
end
end VE

/-! len(set(..)), sorted(set(..)) as expressions. -/
namespace VE
open PySem PySem.Spec PyProof.Rows L2
def kPy : Key → PyData
  | .inl i => .int i
  | .inr x => .str x
/-- where the members come from -/
def SrcK (K : Frag) (H : Hp) (v : V) (ks : List Key) : Prop := (∃ a, v = .ref a ∧ SqL K H a (ks.map kV)) ∨ ∃ x : PySem.Str, v = .str x ∧ ks = x.cps.toList.map fun c => .inr (mkS [c])
def tLenSet (K : Frag) (te : TE) : TE := fun σ H Q => te σ H fun v H1 => ∃ ks, SrcK K H1 v ks ∧ ks.length + 1 < 4096 ∧ ∀ m : List Key, m.Nodup → (∀ k, k ∈ m ↔ k ∈ ks) → Q (.int m.length) H1
def oneKind (ks : List Key) : Prop := (∀ k ∈ ks, ∃ i, k = .inl i) ∨ ∀ k ∈ ks, ∃ x, k = .inr x
def kLe (a b : Key) : Bool := PySem.W.dataLe false kPy a b
def tSortSet (K : Frag) (te : TE) : TE := fun σ H Q => te σ H fun v H1 => ∃ ks, SrcK K H1 v ks ∧ ks.length + 1 < 4096 ∧ oneKind ks ∧
  ∀ (p : Addr) (m : List Key), H1 p = none → m.Nodup → (∀ k, k ∈ m ↔ k ∈ ks) → m.Pairwise (fun a b => kLe a b = true) → Q (.ref p) (upd H1 p (.lst (m.map kV)))
theorem each_keys : ∀ {us : List Value} {ks : List Key}, PySem.W.EachIs (fun u k => keyIs k u = true) us ks → Vals (ks.map kV) us
  | _, _, .nil => .nil
  | _, _, .cons (a := u) (b := k) h t => by
    refine .cons ?_ (each_keys t)
    rcases keyIs_shape h with ⟨i, tt, rfl, rfl⟩ | ⟨x, tt, rfl, rfl⟩
    · exact ⟨tt, rfl⟩
    · exact ⟨tt, rfl⟩
theorem each_kOf : ∀ {us : List Value}, (∀ u ∈ us, ∃ k, keyIs k u = true) → PySem.W.EachIs (fun u k => keyIs k u = true) us (us.map kOf)
  | [], _ => .nil
  | u :: us, h => by
    obtain ⟨k, hk⟩ := h u List.mem_cons_self
    refine .cons ?_ (each_kOf fun v hv => h v (List.mem_cons_of_mem _ hv))
    rw [kOf_is hk]; exact hk
section
variable {X : Cx}
theorem inv_same {pins : List (Addr × Obj)} {s s2 : Shared} {σ : Sg} {H : Hp} (I : Inv X pins σ H s) (eh : s2.heap = s.heap) (eg : s2.gens = s.gens) (eo : s2.os = s.os) : Inv X pins σ H s2 :=
  ⟨I.ok, eo.trans I.os, by rw [eg]; exact I.bare, by rw [eh]; exact I.base, by rw [eh]; exact I.loc, by rw [eh]; exact I.cell, I.free, I.freeC, by rw [eh]; exact I.pin, by rw [eh]; exact I.hok, I.len⟩
theorem set_made {A : Around} {v : V} {u : Value} {ks : List Key} {pins : List (Addr × Obj)} {s : Shared} {σ : Sg} {H : Hp} {E : Value → Shared → Prop} {Q : Value → Shared → Prop} (hh : A.handled = none) (I : Inv X pins σ H s) (rv : RelV v u) (hs : SrcK X.K H v ks) (hl : ks.length + 1 < 4096)
    (h : ∀ s', Inv X pins σ H s' → SK X.w s'.heap s.heap.objs.size ks → Q (.ref s.heap.objs.size) s') : wpAny (model X.prog X.w) A (call (.type "set") [u]) Q E s := by
  rcases hs with ⟨a, rfl, hq⟩ | ⟨x, rfl, rfl⟩
  · cases (show u = Value.ref a from rv)
    obtain ⟨its, r, pl, hz⟩ := I.list hq
    refine set_of_list hh pl.isList (by simpa using r) hl fun h' tk sk k => h _ (I.kept k) sk
  · obtain ⟨t, rfl⟩ := rv
    refine set_of_str hh (by simpa [scanBound] using hl) fun h' tk sk k => h _ (I.kept k) sk
theorem pe_setIn {x : Expr} {te : TE} {p pos : Pos} (hx : PE X x te) (hc : X.calm = true) (hg : Gl X "set") (hm : X.mg "set" = none) (hs : noStar x = true) {pins : List (Addr × Obj)} {s : Shared} {σ : Sg} {H : Hp} {Q0 : VK} {Q : Value → Shared → Prop} (I : Inv X pins σ H s)
    (h : te σ H Q0) (hq : ∀ v H1, Q0 v H1 → ∃ ks, SrcK X.K H1 v ks ∧ ks.length + 1 < 4096 ∧ ∀ s' a, Inv X pins σ H1 s' → SK X.w s'.heap a ks → Q (.ref a) s') :
    wpAny (model X.prog X.w) X.A (eval (.Call (.Name "set" p) [x] [] pos) X.env) Q X.xe s := by
  refine wpAny_Call_Name_kw (ld_blt (u := .type "set") I hg hm (by decide +kernel) ?_ (by decide) (by decide))
  refine PyProof.Rows.callWith_type1 ?_ (star_of hs) rfl
  rw [star_of hs]
  refine Calls.spliced_cons (L2.thn (hx.run pins s σ H _ I h) fun u s1 ⟨v, H1, I1, rv, q0⟩ => Calls.spliced_nil ?_)
  obtain ⟨ks, hk, hl, q⟩ := hq v H1 q0
  exact set_made (I1.ok.hd hc) I1 rv hk hl fun s' I' sk => q s' _ I' sk
theorem pe_lenset {x : Expr} {te : TE} {p pos p2 pos2 : Pos} (hx : PE X x te) (hc : X.calm = true) (hg : Gl X "set") (hm : X.mg "set" = none) (hg2 : Gl X "len") (hm2 : X.mg "len" = none) (hs : noStar x = true) :
    PE X (.Call (.Name "len" p) [.Call (.Name "set" p2) [x] [] pos2] [] pos) (tLenSet X.K te) := by
  refine ⟨fun pins s σ H Q I h => ?_⟩
  refine wpAny_Call_Name_kw (ld_blt I hg2 hm2 PySem.boot_len ?_ (by decide) (by decide))
  refine PyProof.Rows.callWith_builtin1 ?_ rfl rfl
  refine Calls.spliced_cons (x := eval (.Call (.Name "set" p2) [x] [] pos2) X.env) (rest := []) (pe_setIn hx hc hg hm hs I h fun v H1 ⟨ks, h1, h2, q⟩ => ⟨ks, h1, h2, fun s' a I' sk => Calls.spliced_nil ?_⟩)
  obtain ⟨o, es, ep, t, ho, hex, hd, g, nd, hm', hc', hb, hf, hr, hl⟩ := sk
  refine call_len_set ho hex hd hf (by unfold scanBound at hb; omega) ⟨.int es.size, H1, I'.tok _, ⟨_, rfl⟩, ?_⟩
  have := q (es.toList.map kE) nd fun k => (hm' k).symm
  rw [List.length_map, Array.length_toList] at this
  exact this
theorem pe_sortset {x : Expr} {te : TE} {p pos p2 pos2 : Pos} (hx : PE X x te) (hc : X.calm = true) (hu : X.A.units + 200 < cLine) (hg : Gl X "set") (hm : X.mg "set" = none) (hg2 : Gl X "sorted") (hm2 : X.mg "sorted" = none) (hs : noStar x = true) :
    PE X (.Call (.Name "sorted" p) [.Call (.Name "set" p2) [x] [] pos2] [] pos) (tSortSet X.K te) := by
  refine ⟨fun pins s σ H Q I h => ?_⟩
  refine wpAny_Call_Name_kw (ld_blt (u := .builtin "sorted") I hg2 hm2 (by decide +kernel) ?_ (by decide) (by decide))
  refine PyProof.Rows.callWith_builtin1 ?_ rfl rfl
  refine Calls.spliced_cons (x := eval (.Call (.Name "set" p2) [x] [] pos2) X.env) (rest := []) (pe_setIn hx hc hg hm hs I h fun v H1 ⟨ks, h1, h2, h3, q⟩ => ⟨ks, h1, h2, fun s' a I' sk => Calls.spliced_nil ?_⟩)
  obtain ⟨o, es, ep, t, ho, hex, hd, g, nd, hm', hc', hb, hf, hr, hl⟩ := sk
  refine Calls.call_function_entry kind_sorted plain_sorted entry_sorted (args_sorted1 _) ?_
  unfold Builtin.«sorted»
  refine wpAny_bind (m := checkCount "sorted" 1 1 _) (wpAny_pure ?_)
  refine wpAny_bind (collect_set (A := X.A.in1) (I'.ok.hd hc) ⟨o, ho, hex.1, hd⟩ hf hb hr hl fun s1 vs k1 hz g1 o1 pm => ?_)
  have hvl : vs.length < 4096 := by
    rw [pm.length_eq, List.length_map, Array.length_toList]
    exact hb
  have pk : (vs.map kOf).Perm (es.toList.map kE) := by
    have r := pm.map kOf
    rw [List.map_map] at r
    exact r
  have hv : ∀ u ∈ vs, ∃ k, keyIs k u = true := fun u hu => by
    obtain ⟨e, he, r⟩ := List.mem_map.mp (pm.mem_iff.mp hu)
    obtain ⟨k, h4, _⟩ := g e he
    exact ⟨k, by rw [← r]; exact h4⟩
  have e1 := each_kOf hv
  have mem : ∀ k, k ∈ vs.map kOf ↔ k ∈ ks := fun k => by rw [pk.mem_iff, ← hm' k]
  refine wpAny_bind (wpAny_newList ?_ (by rw [sizeLine_eq]; omega))
  have hoL : (s1.heap.push (seqObj "list" vs.toArray 0)).get? s1.heap.objs.size = some (seqObj "list" vs.toArray 0) := Heap.get?_push_size _ rfl
  have al : PySem.W.AllAlike ((vs.map kOf).map kPy) := fun d hd d' hd' => by
    obtain ⟨k, hk, rfl⟩ := List.mem_map.mp hd
    obtain ⟨k', hk', rfl⟩ := List.mem_map.mp hd'
    rcases h3 with z | z
    · obtain ⟨i, rfl⟩ := z k ((mem k).1 hk)
      obtain ⟨j, rfl⟩ := z k' ((mem k').1 hk')
      simp [kPy, PySem.W.alike]
    · obtain ⟨i, rfl⟩ := z k ((mem k).1 hk)
      obtain ⟨j, rfl⟩ := z k' ((mem k').1 hk')
      simp [kPy, PySem.W.alike]
  have st : PySem.W.Sortable ((vs.map kOf).map kPy) := .inr fun d hd => by
    obtain ⟨k, hk, rfl⟩ := List.mem_map.mp hd
    cases k <;> exact ⟨(fun z => by cases z), fun xs z => by cases z⟩
  have er : PySem.W.EachIs (fun v b => ∃ as, Reads (s1.heap.push (seqObj "list" vs.toArray 0)) v (kPy b) as ∧ s1.heap.objs.size ∉ as) vs (vs.map kOf) := e1.mono fun u k hk => by
    rcases keyIs_shape hk with ⟨i, tt, rfl, rfl⟩ | ⟨y, tt, rfl, rfl⟩
    · exact ⟨[], .int .., by simp⟩
    · exact ⟨[], .str .., by simp⟩
  refine wpAny_bind (wpAny_holding (PySem.W.list_sort_data (s := { s1 with heap := s1.heap.push (seqObj "list" vs.toArray 0) }) (enc := kPy) hoL e1 er al st (by rw [List.length_map, sizeLine_eq]; omega) (fun b hb => ?_) fun out ho2 eo => ?_))
  · show X.A.units + 1 + 1 + (kPy b).depth < cLine
    have : (kPy b).depth = 0 := by cases b <;> simp [kPy, PyData.depth]
    omega
  obtain ⟨c, hc2⟩ := sortedHeap_at (vs := vs) (out := out.toArray) hoL
  have kp : ∀ b u, s'.heap.get? b = some u → (sortedHeap (s1.heap.push (seqObj "list" vs.toArray 0)) s1.heap.objs.size vs out.toArray).get? b = some u := fun b u e => by
    have r := k1 b u e
    have hlt := Heap.lt_size r
    rw [sortedHeap_old (Nat.ne_of_lt hlt) (by rw [size_push']; exact Nat.lt_succ_of_lt hlt)]
    exact Heap.get?_push_of_some _ r
  have mp := List.mergeSort_perm (vs.map kOf) (PySem.W.dataLe false kPy)
  refine wpAny_pure ⟨_, rfl, .ref s1.heap.objs.size, upd H1 s1.heap.objs.size (.lst (((vs.map kOf).mergeSort (PySem.W.dataLe false kPy)).map kV)), ?_, rfl, ?_⟩
  · have J := I'.laid (t' := s'.toks) (h' := sortedHeap (s1.heap.push (seqObj "list" vs.toArray 0)) s1.heap.objs.size vs out.toArray) kp hz
      (o := .lst (((vs.map kOf).mergeSort (PySem.W.dataLe false kPy)).map kV)) ⟨by rw [List.length_map, mp.length_eq, List.length_map, sizeLine_eq]; omega, out, c, each_keys eo, hc2⟩
    exact inv_same J rfl g1 o1
  · refine q _ _ (I'.hok.fresh hz) (mp.nodup_iff.mpr (pk.nodup_iff.mpr nd)) (fun k => by rw [mp.mem_iff, mem k]) ?_
    exact PySem.W.sort_pairwise (dataLe_total kPy) _
end
end VE

/-! The set expressions, sorted, in the small language. -/
namespace VE
open PySem PySem.Spec PyProof.Rows L2
variable {Γ : Ctx}
theorem kD_inj {a b : Key} (h : kD a = kD b) : a = b := by
  cases a <;> cases b <;> simp only [kD] at h
  · cases h; rfl
  · cases h
  · cases h
  · rename_i x y
    have : x.cps.toList = y.cps.toList := by injection h
    rw [PySem.W.str_of_cps this]
theorem eqv_kD (a b : Key) : eqv (kD a) (kD b) = decide (a = b) := by
  cases a <;> cases b <;> simp only [kD, eqv]
  · rename_i i j
    by_cases e : i = j
    · subst e; simp
    · rw [beq_eq_false_iff_ne.mpr e, decide_eq_false fun q => e (Sum.inl.inj q)]
  · rw [decide_eq_false fun q => by cases q]
  · rw [decide_eq_false fun q => by cases q]
  · rename_i x y
    by_cases e : x = y
    · subst e; simp
    · rw [decide_eq_false fun q => e (Sum.inr.inj q), beq_eq_false_iff_ne.mpr fun q => e (PySem.W.str_of_cps q)]
def kdd : List Key → List Key
  | [] => []
  | k :: r => if r.any (fun x => decide (k = x)) = true then kdd r else k :: kdd r
theorem any_kD (k : Key) (r : List Key) : (r.map kD).any (eqv (kD k)) = r.any fun x => decide (k = x) := by
  induction r with
  | nil => rfl
  | cons x r ih => rw [List.map_cons, List.any_cons, ih, eqv_kD, List.any_cons]
theorem any_in {k : Key} {r : List Key} : r.any (fun x => decide (k = x)) = true ↔ k ∈ r := by
  rw [List.any_eq_true]
  constructor
  · rintro ⟨x, hx, h⟩
    rw [of_decide_eq_true h]; exact hx
  · exact fun h => ⟨k, h, by simp⟩
theorem dedup_kD : ∀ ks : List Key, dedup (ks.map kD) = (kdd ks).map kD
  | [] => rfl
  | k :: r => by
    rw [List.map_cons]
    unfold dedup kdd
    rw [any_kD, dedup_kD r]
    split <;> rfl
theorem kdd_mem {k : Key} : ∀ {ks : List Key}, k ∈ kdd ks ↔ k ∈ ks
  | [] => by simp [kdd]
  | x :: r => by
    rw [kdd]
    split
    · rename_i h
      rw [kdd_mem, List.mem_cons]
      exact ⟨.inr, fun q => q.elim (fun e => e ▸ any_in.mp h) id⟩
    · rw [List.mem_cons, kdd_mem, List.mem_cons]
theorem kdd_nodup : ∀ ks : List Key, (kdd ks).Nodup
  | [] => by simp [kdd]
  | x :: r => by
    rw [kdd]
    split
    · exact kdd_nodup r
    · rename_i h
      exact List.nodup_cons.mpr ⟨fun q => h (any_in.mpr (kdd_mem.mp q)), kdd_nodup r⟩
theorem toPy_kD (k : Key) : toPy (kD k) = kPy k := by
  cases k with
  | inl i => rfl
  | inr x =>
    show PyData.str (mkS x.cps.toList) = .str x
    congr 1
theorem kLe_D {a b : Key} (h : (∃ i j, a = .inl i ∧ b = .inl j) ∨ ∃ x y, a = .inr x ∧ b = .inr y) : leD (kD a) (kD b) = kLe a b := by
  have al : alike (kD b) (kD a) = true := by rcases h with ⟨i, j, rfl, rfl⟩ | ⟨x, y, rfl, rfl⟩ <;> rfl
  have p1 : plain (kD a) = true := by cases a <;> rfl
  have p2 : plain (kD b) = true := by cases b <;> rfl
  rw [← le_py al p1 p2]
  show PySem.W.dataLe false toPy (kD a) (kD b) = PySem.W.dataLe false kPy a b
  unfold PySem.W.dataLe PySem.W.sortLe
  simp only [toPy_kD]
theorem isort_map {f : Key → D} {le : D → D → Bool} {le' : Key → Key → Bool} : ∀ {l : List Key}, (∀ x ∈ l, ∀ y ∈ l, le (f x) (f y) = le' x y) → isort le (l.map f) = (isort le' l).map f
  | [], _ => rfl
  | x :: r, h => by
    have ih := isort_map (le := le) (le' := le') (f := f) (l := r) fun a ha b hb => h a (List.mem_cons_of_mem _ ha) b (List.mem_cons_of_mem _ hb)
    rw [List.map_cons]
    unfold isort
    rw [ih]
    have go : ∀ l : List Key, (∀ y ∈ l, le (f x) (f y) = le' x y) → ins le (f x) (l.map f) = (ins le' x l).map f := fun l => by
      induction l with
      | nil => intro _; rfl
      | cons y l ih =>
        intro hh
        rw [List.map_cons]
        unfold ins
        rw [hh y List.mem_cons_self, ih fun z hz => hh z (List.mem_cons_of_mem _ hz)]
        split <;> rfl
    exact go _ fun y hy => h x List.mem_cons_self y (List.mem_cons_of_mem _ (isort_mem.mp hy))
theorem kTot : PySem.W.TotalLe kLe := dataLe_total kPy
theorem kLe_anti {a b : Key} (h : (∃ i j, a = .inl i ∧ b = .inl j) ∨ ∃ x y, a = .inr x ∧ b = .inr y) (h1 : kLe a b = true) (h2 : kLe b a = true) : a = b := by
  have q1 : PySem.W.dataLt (kPy b) (kPy a) = false := by simpa [kLe, PySem.W.dataLe, PySem.W.sortLe, PySem.W.dataLt] using h1
  have q2 : PySem.W.dataLt (kPy a) (kPy b) = false := by simpa [kLe, PySem.W.dataLe, PySem.W.sortLe, PySem.W.dataLt] using h2
  rcases h with ⟨i, j, rfl, rfl⟩ | ⟨x, y, rfl, rfl⟩
  · have e1 := PySem.W.dataLt_int i j
    have e2 := PySem.W.dataLt_int j i
    simp only [kPy] at q1 q2
    rw [q2] at e1
    rw [q1] at e2
    have a1 : ¬ i < j := by simpa using e1
    have a2 : ¬ j < i := by simpa using e2
    rw [show i = j by omega]
  · have e1 := PySem.W.dataLt_str x y
    have e2 := PySem.W.dataLt_str y x
    simp only [kPy] at q1 q2
    rw [q2] at e1
    rw [q1] at e2
    have a1 : ¬ x.cps.toList < y.cps.toList := by simpa using e1
    have a2 : ¬ y.cps.toList < x.cps.toList := by simpa using e2
    have : x.cps.toList = y.cps.toList := List.le_antisymm (a2) (a1)
    rw [PySem.W.str_of_cps this]
theorem kind_two {ks : List Key} (h : oneKind ks) {a b : Key} (ha : a ∈ ks) (hb : b ∈ ks) : (∃ i j, a = .inl i ∧ b = .inl j) ∨ ∃ x y, a = .inr x ∧ b = .inr y := by
  rcases h with h | h
  · obtain ⟨i, rfl⟩ := h a ha
    obtain ⟨j, rfl⟩ := h b hb
    exact .inl ⟨i, j, rfl, rfl⟩
  · obtain ⟨i, rfl⟩ := h a ha
    obtain ⟨j, rfl⟩ := h b hb
    exact .inr ⟨i, j, rfl, rfl⟩
theorem sortset_eq {ks m : List Key} (hk : oneKind ks) (nd : m.Nodup) (hm : ∀ k, k ∈ m ↔ k ∈ ks) (pw : m.Pairwise fun a b => kLe a b = true) : m.map kD = isort leD (dedup (ks.map kD)) := by
  rw [dedup_kD, isort_map (le' := kLe) fun x hx y hy => kLe_D (kind_two hk (kdd_mem.mp hx) (kdd_mem.mp hy))]
  congr 1
  have p : m.Perm (isort kLe (kdd ks)) := ((List.perm_ext_iff_of_nodup nd (kdd_nodup ks)).mpr fun k => by rw [hm, kdd_mem]).trans (isort_perm _).symm
  refine List.Perm.eq_of_pairwise (fun a b ha hb h1 h2 => kLe_anti (kind_two hk ((hm a).1 ha) ((hm b).1 (p.mem_iff.mpr hb))) h1 h2) pw (isort_pw kTot _) p
theorem lenset_eq {ks m : List Key} (nd : m.Nodup) (hm : ∀ k, k ∈ m ↔ k ∈ ks) : m.length = (dedup (ks.map kD)).length := by
  rw [dedup_kD, List.length_map]
  exact ((List.perm_ext_iff_of_nodup nd (kdd_nodup ks)).mpr fun k => by rw [hm, kdd_mem]).length_eq
/-! values that are keys -/
theorem strs_keys {K : Frag} {H : Hp} {P : Addr → Prop} : ∀ {ds : List D} {vs : List V}, ds.all isStr = true → Reps K H P ds vs → ∃ ks : List Key, vs = ks.map kV ∧ ds = ks.map kD ∧ ∀ k ∈ ks, ∃ x, k = .inr x
  | [], [], _, _ => ⟨[], rfl, rfl, fun k h => by cases h⟩
  | d :: ds, v :: vs, h, hr => by
    rw [reps_cons] at hr
    rw [List.all_cons, Bool.and_eq_true] at h
    obtain ⟨ks, e1, e2, e3⟩ := strs_keys h.2 hr.2
    cases d <;> simp only [isStr] at h <;> try (exact absurd h.1 Bool.false_ne_true)
    case str s =>
      have := hr.1
      simp only [Rep] at this
      refine ⟨.inr (mkS s) :: ks, by rw [this.1, e1]; rfl, by rw [e2]; rfl, fun k hk => ?_⟩
      rcases List.mem_cons.mp hk with e | e
      · exact ⟨_, e⟩
      · exact e3 k e
  | [], _ :: _, _, h => by simp [Reps] at h
  | _ :: _, [], _, h => by simp [Reps] at h
theorem ints_keys {K : Frag} {H : Hp} {P : Addr → Prop} : ∀ {ds : List D} {vs : List V}, ds.all isInt = true → Reps K H P ds vs → ∃ ks : List Key, vs = ks.map kV ∧ ds = ks.map kD ∧ ∀ k ∈ ks, ∃ x, k = .inl x
  | [], [], _, _ => ⟨[], rfl, rfl, fun k h => by cases h⟩
  | d :: ds, v :: vs, h, hr => by
    rw [reps_cons] at hr
    rw [List.all_cons, Bool.and_eq_true] at h
    obtain ⟨ks, e1, e2, e3⟩ := ints_keys h.2 hr.2
    cases d <;> simp only [isInt] at h <;> try (exact absurd h.1 Bool.false_ne_true)
    case int s =>
      have := hr.1
      simp only [Rep] at this
      refine ⟨.inl s :: ks, by rw [this, e1]; rfl, by rw [e2]; rfl, fun k hk => ?_⟩
      rcases List.mem_cons.mp hk with e | e
      · exact ⟨_, e⟩
      · exact e3 k e
  | [], _ :: _, _, h => by simp [Reps] at h
  | _ :: _, [], _, h => by simp [Reps] at h
theorem keys_of {K : Frag} {H : Hp} {P : Addr → Prop} {ds : List D} {vs : List V} (h : (ds.all isStr || ds.all isInt) = true) (hr : Reps K H P ds vs) : ∃ ks : List Key, vs = ks.map kV ∧ ds = ks.map kD ∧ oneKind ks := by
  rw [Bool.or_eq_true] at h
  rcases h with h | h
  · obtain ⟨ks, e1, e2, e3⟩ := strs_keys h hr
    exact ⟨ks, e1, e2, .inr e3⟩
  · obtain ⟨ks, e1, e2, e3⟩ := ints_keys h hr
    exact ⟨ks, e1, e2, .inl e3⟩
theorem reps_keys {K : Frag} {H : Hp} {P : Addr → Prop} : ∀ {ks : List Key}, (∀ k ∈ ks, ∀ x, k = .inr x → x.length ≤ sizeLine) → Reps K H P (ks.map kD) (ks.map kV)
  | [], _ => reps_nil
  | k :: ks, h => by
    refine reps_cons.mpr ⟨?_, reps_keys fun k hk => h k (List.mem_cons_of_mem _ hk)⟩
    cases k with
    | inl i => simp only [kD, kV, Rep]
    | inr x =>
      have := h _ List.mem_cons_self x rfl
      simp only [kD, kV, Rep]
      exact ⟨trivial, by simpa [PySem.Str.length] using this⟩
theorem keys_short {K : Frag} {H : Hp} {P : Addr → Prop} : ∀ {ks : List Key}, Reps K H P (ks.map kD) (ks.map kV) → ∀ k ∈ ks, ∀ x, k = .inr x → x.length ≤ sizeLine
  | k :: ks, h, k', hk, x, e => by
    rw [List.map_cons, List.map_cons, reps_cons] at h
    rcases List.mem_cons.mp hk with e' | e'
    · subst e' e
      have := h.1
      simp only [kD, Rep] at this
      simpa [PySem.Str.length] using this.2
    · exact keys_short h.2 k' e' x e
/-- what both set expressions ask -/
theorem set_src {σ : Sg} {ρ : Env} {O : List Addr} {H : Hp} {x : D} {v : V} {f : B1} {d : D} (rs : RS Γ O σ H ρ) (hx : Rep1 Γ.K H (Pc Γ O) x v) (hf : f = .sortset ∨ f = .lenset) (e : b1D f x = .ok d) :
    ∃ ks, SrcK Γ.K H v ks ∧ ks.length + 1 < 4096 ∧ oneKind ks ∧ Reps Γ.K H (Pc Γ O) (ks.map kD) (ks.map kV) ∧ d = (if f = .sortset then .lst (isort leD (dedup (ks.map kD))) else .int (dedup (ks.map kD)).length) := by
  cases x <;> (try (rcases hf with rfl | rfl <;> simp only [b1D] at e <;> contradiction))
  case str s =>
    simp only [Rep1, Rep] at hx
    obtain ⟨hx, hl⟩ := hx
    subst hx
    refine ⟨s.map fun c => .inr (mkS [c]), .inr ⟨mkS s, rfl, by simp⟩, ?_, .inr fun k hk => ?_, ?_, ?_⟩
    · rw [List.length_map]
      rcases hf with rfl | rfl <;> simp only [b1D] at e <;> split at e <;> first | omega | contradiction
    · obtain ⟨c, _, rfl⟩ := List.mem_map.mp hk
      exact ⟨_, rfl⟩
    · refine reps_keys fun k hk x ex => ?_
      obtain ⟨c, _, rfl⟩ := List.mem_map.mp hk
      cases ex
      rw [mkS_len, sizeLine_eq]
      simp
    · have em : (s.map fun c => (.inr (mkS [c]) : Key)).map kD = s.map fun c => .str [c] := by
        rw [List.map_map]
        rfl
      rw [em]
      rcases hf with rfl | rfl <;> simp only [b1D] at e <;> split at e <;> first | (cases e; rfl) | contradiction
  case lst ds =>
    obtain ⟨a, xs, ex, ha, hr⟩ := hx
    subst ex
    have hc : ((ds.all isStr || ds.all isInt) && decide (ds.length ≤ 4000)) = true := by
      rcases hf with rfl | rfl <;> simp only [b1D] at e <;> split at e <;> first | assumption | contradiction
    have hd : d = (if f = .sortset then .lst (isort leD (dedup ds)) else .int (dedup ds).length) := by
      rcases hf with rfl | rfl <;> simp only [b1D] at e <;> split at e <;> first | (cases e; rfl) | contradiction
    rw [Bool.and_eq_true, decide_eq_true_eq] at hc
    obtain ⟨ks, e1, e2, e3⟩ := keys_of hc.1 hr
    subst e1 e2
    refine ⟨ks, .inl ⟨a, rfl, SqL.of ha⟩, ?_, e3, hr, hd⟩
    have := hc.2
    rw [List.length_map] at this
    omega
theorem se_lenset (ok : XOk Γ) {a : E} {x : Expr} {p pos p2 pos2 : Pos} (hg : Gl Γ.X "set") (hm : Γ.X.mg "set" = none) (hg2 : Gl Γ.X "len") (hm2 : Γ.X.mg "len" = none) (ha : SE Γ a x) (hs : noStar x = true) :
    SE Γ (.b1 .lenset a) (.Call (.Name "len" p) [.Call (.Name "set" p2) [x] [] pos2] [] pos) :=
  PE.wk (pe_lenset ha ok.calm hg hm hg2 hm2 hs) fun σ H Q h => TEm.un (r := fun v H1 Q => ∃ ks, SrcK Γ.K H1 v ks ∧ ks.length + 1 < 4096 ∧ ∀ m : List Key, m.Nodup → (∀ k, k ∈ m ↔ k ∈ ks) → Q (.int m.length) H1) (k := b1D .lenset) (fun ρ => by simp only [ev]) (fun {ρ O H x v d Q} rs hx e q => by
    obtain ⟨ks, h1, h2, h3, h4, rfl⟩ := set_src rs hx (.inr rfl) e
    refine ⟨ks, h1, h2, fun m nd hm => ?_⟩
    rw [if_neg (by decide)] at q
    rw [lenset_eq nd hm]
    exact q _ _ (Ex.refl H) val_int) (b1D_err _) h
theorem se_sortset (ok : XOk Γ) {a : E} {x : Expr} {p pos p2 pos2 : Pos} (hg : Gl Γ.X "set") (hm : Γ.X.mg "set" = none) (hg2 : Gl Γ.X "sorted") (hm2 : Γ.X.mg "sorted" = none) (ha : SE Γ a x) (hs : noStar x = true) :
    SE Γ (.b1 .sortset a) (.Call (.Name "sorted" p) [.Call (.Name "set" p2) [x] [] pos2] [] pos) :=
  PE.wk (pe_sortset ha ok.calm (by have := ok.units; omega) hg hm hg2 hm2 hs) fun σ H Q h => TEm.un (r := fun v H1 Q => ∃ ks, SrcK Γ.K H1 v ks ∧ ks.length + 1 < 4096 ∧ oneKind ks ∧
      ∀ (p : Addr) (m : List Key), H1 p = none → m.Nodup → (∀ k, k ∈ m ↔ k ∈ ks) → m.Pairwise (fun a b => kLe a b = true) → Q (.ref p) (upd H1 p (.lst (m.map kV)))) (k := b1D .sortset) (fun ρ => by simp only [ev]) (fun {ρ O H x v d Q} rs hx e q => by
    obtain ⟨ks, h1, h2, h3, h4, rfl⟩ := set_src rs hx (.inl rfl) e
    refine ⟨ks, h1, h2, h3, fun p m hp nd hm pw => ?_⟩
    rw [if_pos rfl, ← sortset_eq h3 nd hm pw] at q
    refine q _ _ (Ex.new hp) (val_lst rs hp (reps_keys fun k hk x ex => keys_short h4 k ((hm k).1 hk) x ex))) (b1D_err _) h
/-! ### sorted(a list), sorted(a dict) -/
theorem rising_pw : ∀ (ys : List PySem.Str) (x : PySem.Str), PyProof.Rows.risingS x ys = true → (∀ y ∈ ys, kLe (.inr x) (.inr y) = true) ∧ (ys.map (Sum.inr : PySem.Str → Key)).Pairwise fun a b => kLe a b = true
  | [], _, _ => ⟨(fun y h => by cases h), List.Pairwise.nil⟩
  | z :: r, x, h => by
    unfold PyProof.Rows.risingS at h
    rw [Bool.and_eq_true] at h
    have h1 : kLe (.inr x) (.inr z) = true := by
      show (!PySem.W.dataLt (.str z) (.str x)) = true
      rw [PySem.W.dataLt_str, ← PyProof.Rows.ltCps_eq]
      exact h.1
    obtain ⟨h2, h3⟩ := rising_pw r z h.2
    refine ⟨fun y hy => ?_, ?_⟩
    · rcases List.mem_cons.mp hy with e | e
      · rw [e]; exact h1
      · exact kTot.trans _ _ _ h1 (h2 y e)
    · rw [List.map_cons]
      refine List.pairwise_cons.mpr ⟨fun k hk => ?_, h3⟩
      obtain ⟨y, hy, rfl⟩ := List.mem_map.mp hk
      exact h2 y hy
theorem sortedS_pw {ys : List PySem.Str} (h : sortedS ys = true) : (ys.map (Sum.inr : PySem.Str → Key)).Pairwise fun a b => kLe a b = true := by
  cases ys with
  | nil => exact List.Pairwise.nil
  | cons x r =>
    obtain ⟨h2, h3⟩ := rising_pw r x h
    rw [List.map_cons]
    refine List.pairwise_cons.mpr ⟨fun k hk => ?_, h3⟩
    obtain ⟨y, hy, rfl⟩ := List.mem_map.mp hk
    exact h2 y hy
theorem sortdict_eq {ks : List PySem.Str} {ys : List PySem.Str} (p : ys.Perm ks) (h : sortedS ys = true) : (ys.map (Sum.inr : PySem.Str → Key)).map kD = isort leD ((ks.map (Sum.inr : PySem.Str → Key)).map kD) := by
  have k2 : ∀ a ∈ ks.map (Sum.inr : PySem.Str → Key), ∀ b ∈ ks.map (Sum.inr : PySem.Str → Key), (∃ i j, a = .inl i ∧ b = .inl j) ∨ ∃ x y, a = .inr x ∧ b = .inr y := fun a ha b hb => by
    obtain ⟨x, _, rfl⟩ := List.mem_map.mp ha
    obtain ⟨y, _, rfl⟩ := List.mem_map.mp hb
    exact .inr ⟨x, y, rfl, rfl⟩
  rw [isort_map (le' := kLe) fun x hx y hy => kLe_D (k2 x hx y hy)]
  congr 1
  have q := (p.map (Sum.inr : PySem.Str → Key)).trans (isort_perm (le := kLe) (ks.map Sum.inr)).symm
  exact List.Perm.eq_of_pairwise (fun a b ha hb h1 h2 => kLe_anti (k2 a ((p.map _).mem_iff.mp ha) b (isort_mem.mp hb)) h1 h2) (sortedS_pw h) (isort_pw kTot _) q
theorem inr_keys : ∀ {kvs : List (Key × V)}, (kvs.map fun p => kD p.1).all isStr = true → ∃ ks : List PySem.Str, kvs.map (·.1) = ks.map Sum.inr
  | [], _ => ⟨[], rfl⟩
  | (k, v) :: r, h => by
    rw [List.map_cons, List.all_cons, Bool.and_eq_true] at h
    obtain ⟨ks, e⟩ := inr_keys h.2
    cases k with
    | inl i => exact absurd h.1 Bool.false_ne_true
    | inr x => exact ⟨x :: ks, by rw [List.map_cons, e]; rfl⟩
def rSorted2 (Γ : Ctx) (P : Addr → Prop) : List V → Hp → VK → Prop := fun xs H Q => rSortL Γ P xs H Q ∨ ∃ (a : Addr) (kvs : List (Key × V)) (ks : List PySem.Str), xs = [.ref a] ∧ Rd H a (.dK kvs) ∧ kvs.map (·.1) = ks.map Sum.inr ∧ ks.length < 64 ∧
    ∀ ys p, ys.Perm ks → sortedS ys = true → H p = none → Q (.ref p) (upd H p (.lst (ys.map V.str)))
/-- the set of places is known only when it runs -/
theorem call_sorted2 (ok : XOk Γ) : CallR Γ.X (.builtin "sorted") (fun xs H Q => ∃ P, rSorted2 Γ P xs H Q) := by
  intro pins s σ H xs us Q I r ⟨P, h⟩
  exact ((call_sortL ok P).or (call_sortedD ok.calm)) pins s σ H xs us Q I r h
theorem sorted_ok {σ : Sg} {ρ : Env} {O : List Addr} {H : Hp} {x d : D} {v : V} {Q : VK} (rs : RS Γ O σ H ρ) (hx : Rep1 Γ.K H (Pc Γ O) x v) (e : b1D .sorted x = .ok d) (q : ∀ w H', Ex H H' → Val (Γ := Γ) O H H' d w → Q w H') : ∃ P, rSorted2 Γ P [v] H Q := by
  refine ⟨Pc Γ O, ?_⟩
  cases x <;> simp only [b1D] at e <;> try contradiction
  case lst ds =>
    obtain ⟨a, xs, ex, ha, hr⟩ := hx
    subst ex
    split at e
    · rename_i so
      cases e
      exact .inl ⟨a, xs, ds, rfl, SqL.of ha, hr, so, fun p ws hp hw => q _ _ (Ex.new hp) (val_lst rs hp hw)⟩
    · cases e
  case dic ks vs =>
    obtain ⟨a, kvs, ex, ha, ⟨hk, hsh⟩, hr⟩ := hx
    subst ex hk
    split at e
    · rename_i hc
      rw [Bool.and_eq_true, decide_eq_true_eq] at hc
      cases e
      obtain ⟨ks, ek⟩ := inr_keys hc.1
      have eL : (kvs.map fun p => kD p.1) = (ks.map (Sum.inr : PySem.Str → Key)).map kD := by rw [← ek, List.map_map]; rfl
      refine .inr ⟨a, kvs, ks, rfl, ha, ek, by have := hc.2; rw [eL, List.length_map, List.length_map] at this; exact this, fun ys p pm sd hp => ?_⟩
      have := q (.ref p) (upd H p (.lst (ys.map V.str))) (Ex.new hp)
      rw [eL, ← sortdict_eq pm sd] at this
      refine this (val_lst rs hp ?_)
      have e2 : ys.map V.str = (ys.map (Sum.inr : PySem.Str → Key)).map kV := by rw [List.map_map]; rfl
      rw [e2]
      refine reps_keys fun k hk x ex => ?_
      subst ex
      have h1 : (Sum.inr x : Key) ∈ kvs.map (·.1) := by rw [ek]; exact (pm.map _).mem_iff.mp hk
      obtain ⟨p', hp1, hp2⟩ := List.mem_map.mp h1
      exact hsh p' hp1 x hp2
    · cases e
theorem se_sorted (ok : XOk Γ) {a : E} {x : Expr} {p pos : Pos} (hg : Gl Γ.X "sorted") (hm : Γ.X.mg "sorted" = none) (ha : SE Γ a x) (hs : noStar x = true) : SE Γ (.b1 .sorted a) (.Call (.Name "sorted" p) [x] [] pos) :=
  se_b1B (call_sorted2 ok) hg hm (by decide +kernel) ha hs rfl (by decide) (by decide) (fun rs hx e q => sorted_ok rs hx e q) (b1D_err _)
end VE

/-! isinstance, methods, turned about. -/
namespace VE
open PySem PySem.Spec PyProof.Rows L2
variable {Γ : Ctx}
def tyNm : Ty → String
  | .str => "str"
  | .int => "int"
  | .bool => "bool"
  | .list => "list"
  | .tuple => "tuple"
def tyOf : D → String
  | .non => "NoneType"
  | .bl _ => "bool"
  | .int _ => "int"
  | .str _ => "str"
  | .lst _ => "list"
  | .tup _ => "tuple"
  | _ => "dict"
def kTab (n : String) : Ty → Bool
  | .str => n == "str"
  | .int => n == "int" || n == "bool"
  | .bool => n == "bool"
  | .list => n == "list"
  | .tuple => n == "tuple"
theorem kit_tab {n : String} (h : n = "NoneType" ∨ n = "bool" ∨ n = "int" ∨ n = "str" ∨ n = "list" ∨ n = "tuple") (t : Ty) : kitB n (tyNm t) = some (kTab n t) := by
  rcases h with rfl | rfl | rfl | rfl | rfl | rfl <;> cases t <;> decide +kernel
theorem tab_of {d r : D} {ts : List Ty} (h : isiD ts d = .ok r) : (tyOf d = "NoneType" ∨ tyOf d = "bool" ∨ tyOf d = "int" ∨ tyOf d = "str" ∨ tyOf d = "list" ∨ tyOf d = "tuple") ∧ ∀ t, isTy t d = kTab (tyOf d) t := by
  cases d <;> simp only [isiD] at h <;> (try contradiction) <;> refine ⟨by simp [tyOf], fun t => ?_⟩ <;> cases t <;> simp only [isTy, tyOf, kTab] <;> decide
theorem kit_all (t : Ty) (d : D) (h : ∃ r, isiD [t] d = .ok r) : kitB (tyOf d) (tyNm t) = some (isTy t d) := by
  obtain ⟨r, h⟩ := h
  rw [(tab_of h).2 t]
  exact kit_tab (tab_of h).1 t
theorem tyx_of {K : Frag} {H : Hp} {P : Addr → Prop} {d r : D} {v : V} {ts : List Ty} (hr : Rep1 K H P d v) (h : isiD ts d = .ok r) : TyX K H v (.type (tyOf d)) := by
  cases d <;> simp only [isiD] at h <;> (try contradiction) <;> simp only [Rep1, Rep] at hr <;> simp only [tyOf]
  case non => subst hr; exact .base .non
  case bl b => subst hr; exact .base (.bl b)
  case int b => subst hr; exact .base (.int b)
  case str b => obtain ⟨hr, _⟩ := hr; subst hr; exact .base (.str _)
  case lst ds =>
    obtain ⟨a, xs, e, ha, _⟩ := hr
    subst e
    exact .base (.lst ha)
  case tup ds =>
    obtain ⟨a, xs, e, ha, _⟩ := hr
    subst e
    rcases ha with ⟨o, ha, _⟩ | ⟨o, its, n, h1, h2, _⟩
    · exact .fTuple ha
    · exact .kTuple h1 h2.1
theorem isiD_err (ts : List Ty) (x : D) (c : Nat) : isiD ts x ≠ .err c := by
  intro h
  cases x <;> simp only [isiD] at h <;> contradiction
theorem se_isi {t : Ty} {a : E} {x : Expr} {p p2 pos : Pos} (hg : Gl Γ.X "isinstance") (hm : Γ.X.mg "isinstance" = none) (hg2 : Gl Γ.X (PySem.Str.ofString (tyNm t))) (hm2 : Γ.X.mg (PySem.Str.ofString (tyNm t)) = none) (ha : SE Γ a x) (hs : noStar x = true) :
    SE Γ (.isi a [t]) (.Call (.Name "isinstance" p) [x, .Name (PySem.Str.ofString (tyNm t)) p2] [] pos) := by
  have hb : bootBuiltins (PySem.Str.ofString (tyNm t)) = some (.type (tyNm t)) := by cases t <;> decide +kernel
  have h1 : PE Γ.X (.Name (PySem.Str.ofString (tyNm t)) p2) (tC (.ty (tyNm t))) := pe_bltn hg2 hm2 hb rfl (by cases t <;> decide) (by cases t <;> decide)
  refine PE.wk (pe_callB call_isi hg hm (by decide +kernel) (pa_cons ha (pa_cons h1 pa_nil (star_of rfl)) (star_of hs)) (by decide) (by decide) (star_of hs) rfl) fun σ H Q h => ?_
  refine TEm.un (r := fun v H1 Q => rIsi Γ.K [v, .ty (tyNm t)] H1 Q) (k := isiD [t]) (fun ρ => by simp only [ev]) (fun {ρ O H x v d Q} rs hx e q => ?_) (isiD_err _) h
  have e2 : d = .bl (isTy t x) := by cases x <;> simp only [isiD, List.any_cons, List.any_nil, Bool.or_false] at e <;> first | contradiction | (cases e; rfl)
  subst e2
  exact ⟨v, .ty (tyNm t), .type (tyOf x), .type (tyNm t), isTy t x, rfl, .ty _, tyx_of hx e, kit_ty (kit_all t x ⟨_, e⟩), q _ _ (Ex.refl H) val_bl⟩

theorem se_isi2 {t t2 : Ty} {a : E} {x : Expr} {kk : Nat} {p p2 p3 p4 pos : Pos} (hg : Gl Γ.X "isinstance") (hm : Γ.X.mg "isinstance" = none) (hg2 : Gl Γ.X (PySem.Str.ofString (tyNm t))) (hm2 : Γ.X.mg (PySem.Str.ofString (tyNm t)) = none)
    (hg3 : Gl Γ.X (PySem.Str.ofString (tyNm t2))) (hm3 : Γ.X.mg (PySem.Str.ofString (tyNm t2)) = none) (ha : SE Γ a x) (hs : noStar x = true) :
    SE Γ (.isi a [t, t2]) (.Call (.Name "isinstance" p) [x, .Tuple [.Name (PySem.Str.ofString (tyNm t)) p2, .Name (PySem.Str.ofString (tyNm t2)) p3] kk p4] [] pos) := by
  have hb : ∀ t : Ty, bootBuiltins (PySem.Str.ofString (tyNm t)) = some (.type (tyNm t)) := fun t => by cases t <;> decide +kernel
  have h1 : PE Γ.X (.Name (PySem.Str.ofString (tyNm t)) p2) (tC (.ty (tyNm t))) := pe_bltn hg2 hm2 (hb t) rfl (by cases t <;> decide) (by cases t <;> decide)
  have h2 : PE Γ.X (.Name (PySem.Str.ofString (tyNm t2)) p3) (tC (.ty (tyNm t2))) := pe_bltn hg3 hm3 (hb t2) rfl (by cases t2 <;> decide) (by cases t2 <;> decide)
  refine PE.wk (pe_callB call_isiT hg hm (by decide +kernel) (pa_cons ha (pa_cons (pe_tup (x1 := kk) (pos := p4) (pa_cons h1 (pa_cons h2 pa_nil (star_of rfl)) (star_of rfl))) pa_nil (star_of rfl)) (star_of hs)) (by decide) (by decide) (star_of hs) rfl) fun σ H Q h => ?_
  obtain ⟨ρ, O, rs, h⟩ := h
  simp only [ev] at h
  refine ⟨ρ, O, rs, h.bnd.mono fun x ex hx v H1 e1 o1 => ?_⟩
  have hx' : Fin Γ σ H (isiD [t, t2] x) _ := hx
  cases q : isiD [t, t2] x with
  | err c => exact absurd q (isiD_err _ _ c)
  | bad => rw [q] at hx'; exact hx'.elim
  | ok d =>
    rw [q] at hx'
    have e2 : d = .bl (isTy t x || isTy t2 x) := by cases x <;> simp only [isiD, List.any_cons, List.any_nil, Bool.or_false] at q <;> first | contradiction | (cases q; rfl)
    subst e2
    have e3 : ∀ t : Ty, ∃ r, isiD [t] x = .ok r := fun t => by cases x <;> simp only [isiD] at q ⊢ <;> first | contradiction | exact ⟨_, rfl⟩
    obtain ⟨r1, hr1⟩ := e3 t
    refine ⟨by rw [sizeLine_eq]; simp, fun p hp => ?_⟩
    have e : Ex H1 (upd H1 p (.tup [.ty (tyNm t), .ty (tyNm t2)])) := Ex.new hp
    refine ⟨v, p, [.ty (tyNm t), .ty (tyNm t2)], .type (tyOf x), [.type (tyNm t), .type (tyNm t2)], isTy t x || isTy t2 x, rfl, upd_same, .cons (.ty _) (.cons (.ty _) .nil), tyx_of (o1.one.ex e) hr1, ?_, hx' _ _ (e1.trans e) ((val_bl (Γ := Γ)).back (e1.trans e)).out⟩
    have k1 := kit_ty (K := Γ.K) (kit_all t x (e3 t))
    have k2 := kit_ty (K := Γ.K) (kit_all t2 x (e3 t2))
    simp only [PySem.W.kitAny]
    rw [k1]
    cases isTy t x with
    | true => rfl
    | false =>
      simp only
      rw [k2]
      cases isTy t2 x <;> rfl

/-! ### turned about -/
def minus1 (k : Nat) (p1 p2 : Pos) : Expr := .UnaryOp .USub (.Constant (.int 1) k p1) p2
theorem revD_err (x : D) (c : Nat) : revD x ≠ .err c := by
  intro h
  cases x <;> simp only [revD] at h <;> contradiction
theorem rev_str (s : List Nat) (u : Tok) : Txt.sliceBy (mkS s) none none (-1, u) = mkS s.reverse := by
  apply PySem.W.str_of_cps
  rw [PyProof.Rows.step_rev_list]
  show _ = s.reverse
  rw [mkS_len]
  apply List.ext_getElem
  · simp
  · intro i h1 h2
    simp at h1
    have : s.length - 1 - i < s.length := by omega
    simp [Array.getD, this]
section
variable {prog : Program} {w : World} {A : Around} {E : Value → Shared → Prop} {s : Shared}
theorem applied_back {sl : Addr} {vl vu vs : Value} {n : Nat} {Q : Int × Int × Nat → Shared → Prop} (hs : s.heap.IsSliceOf sl vl vu vs) (pl : IsPart vl none) (pu : IsPart vu none) (ps : IsPart vs (some (-1)))
    (h : Q ((n : Int) - 1, -1, n) s) : wpAny (model prog w) A (Builtin.Slice.sliceApplied (.ref sl) (pure (n : Int))) Q E s := by
  obtain ⟨os, hos, hcs, hds⟩ := id hs
  unfold Builtin.Slice.sliceApplied Builtin.Slice.sliceFields
  refine wpAny_bind (wpAny_bind (wpAny_field hos hds (x := vl) rfl (wpAny_bind (wpAny_field hos hds (x := vu) rfl (wpAny_bind (wpAny_field hos hds (x := vs) rfl (wpAny_pure ?_)))))))
  refine wpAny_bind (HT.slicePart_ ps ?_)
  show wpAny _ _ (if ((-1 : Int) == 0) = true then _ else _) _ _ s
  rw [if_neg (by decide)]
  refine wpAny_bind (HT.slicePart_ pl (wpAny_bind (HT.slicePart_ pu (wpAny_bind (wpAny_pure ?_)))))
  show wpAny _ _ (match Builtin.Slice.sliceAdjust none none (-1) (n : Int) with | (lo, hi) => pure (lo, (-1 : Int), Builtin.Slice.slicePlaces lo hi (-1))) _ _ s
  have e1 : Builtin.Slice.sliceAdjust none none (-1) (n : Int) = ((n : Int) - 1, -1) := by simp [Builtin.Slice.sliceAdjust]
  have e2 : Builtin.Slice.slicePlaces ((n : Int) - 1) (-1) (-1) = n := by
    unfold Builtin.Slice.slicePlaces
    rw [if_neg (by decide)]
    by_cases hn : (n : Int) - 1 > -1
    · rw [if_pos hn]
      have : ((n : Int) - 1 - -1 - 1) / (- -1) + 1 = n := by
        show ((n : Int) - 1 - -1 - 1) / 1 + 1 = n
        rw [Int.ediv_one]; omega
      rw [this]; rfl
    · rw [if_neg hn]
      show (0 : Int).toNat = n
      simp; omega
  rw [e1]
  show wpAny _ _ (pure ((n : Int) - 1, (-1 : Int), Builtin.Slice.slicePlaces ((n : Int) - 1) (-1) (-1))) _ _ s
  rw [e2]
  exact wpAny_pure h
theorem pick_back (xs : Array Value) : ((List.range xs.size).filterMap fun (m : Nat) => xs[(((xs.size : Int) - 1) + (m : Int) * (-1)).toNat]?).toArray = xs.toList.reverse.toArray := by
  congr 1
  have e : ∀ m ∈ List.range xs.size, xs[(((xs.size : Int) - 1) + (m : Int) * (-1)).toNat]? = (xs.toList.reverse)[m]? := fun m hm => by
    have hm' := List.mem_range.mp hm
    have e : (((xs.size : Int) - 1) + (m : Int) * (-1)).toNat = xs.size - 1 - m := by omega
    rw [e, List.getElem?_reverse (by simpa using hm')]
    simp
  have fm : ∀ (l : List Nat) (f g : Nat → Option Value), (∀ m ∈ l, f m = g m) → l.filterMap f = l.filterMap g := fun l f g h => by
    induction l with
    | nil => rfl
    | cons x r ih => rw [List.filterMap_cons, List.filterMap_cons, h x List.mem_cons_self, ih fun y hy => h y (List.mem_cons_of_mem _ hy)]
  rw [fm _ _ _ e]
  have e3 : xs.size = xs.toList.reverse.length := by simp
  rw [e3]
  generalize xs.toList.reverse = l
  have key : ∀ (n : Nat), n ≤ l.length → (List.range n).filterMap (fun m => l[m]?) = l.take n := fun n => by
    induction n with
    | zero => intro _; simp
    | succ n ih =>
      intro hn
      rw [List.range_succ, List.filterMap_append, ih (by omega), List.take_succ]
      rw [List.filterMap_cons, List.filterMap_nil, List.getElem?_eq_getElem (show n < l.length by omega)]
      rfl
  rw [key _ (Nat.le_refl _), List.take_length]
theorem getItem_tuple_back {t sl : Addr} {items : Array Value} {vl vu vs : Value} {Q : Value → Shared → Prop} (ht : IsTup s.heap t items) (hs : s.heap.IsSliceOf sl vl vu vs) (pl : IsPart vl none) (pu : IsPart vu none) (ps : IsPart vs (some (-1)))
    (h : Q (.ref s.heap.objs.size) { s with heap := s.heap.push { cls := .type "tuple", data := .seq items.toList.reverse.toArray } })
    (hsz : items.size ≤ sizeLine) : wpAny (model prog w) A (getItem (.ref t) (.ref sl)) Q E s := by
  have htake : sizeOk (.seq items.toList.reverse.toArray) := by
    show items.toList.reverse.toArray.size ≤ sizeLine
    simpa using hsz
  obtain ⟨os, hos, hcs, hds⟩ := id hs
  have hTs : s.TypeIs (.ref sl) "slice" := ⟨os, hos, hcs⟩
  unfold getItem
  try with_reducible refine wpAny_holding ?_
  first | refine wpAny_bind (wpAny_pure ?_) | skip
  refine wpAny_bind (wpAny_sequenceKey ht.typeIs (by decide) ?_)
  refine wpAny_bind (wpAny_callSpecial?_slot (name := PySem.Str.ofString "__getitem__") ht.typeIs PyProof.Rows.slot_tuple_getitem
    (wpAny_call_entry PyProof.Rows.slot_tuple_getitem ht.typeIs entry_tuple_getitem ?_ (args_tuple_getitem _ _)))
  show wpAny _ _ (Builtin.Tuple.tupleItemsOf (.ref t) >>= _) _ _ s
  refine wpAny_bind (tupleItemsOf_ ht ?_)
  refine wpAny_bind (wpAny_typeOf hTs ?_)
  rw [if_pos (by decide)]
  refine wpAny_bind (applied_back hs pl pu ps ?_)
  show wpAny _ _ (if ((((items.size : Int) - 1) == 0 && (-1 : Int) == 1 && items.size == items.size) = true) then _ else _) _ _ s
  rw [if_neg (by simp), pick_back]
  first
    | exact wpAny_bind (m := Builtin.Tuple.tupleExact _) (wpAny_newObj_type (wpAny_pure ⟨_, rfl, wpAny_pure h⟩) htake)
    | exact wpAny_bind (m := Builtin.Tuple.tupleExact _) (wpAny_newObj_type (wpAny_bind (wpAny_pure (wpAny_pure ⟨_, rfl, wpAny_pure h⟩))) htake)
end
abbrev rRev2 (K : Frag) : V → Hp → VK → Prop := fun x H1 Q => (∃ a xs, x = .ref a ∧ SqT K H1 a xs ∧ ∀ p o, H1 p = none → PObj o → Q (.ref p) (upd H1 p (.frz o (.tup xs.reverse)))) ∨ (∃ a xs, x = .ref a ∧ SqL K H1 a xs ∧ ∀ p, H1 p = none → Q (.ref p) (upd H1 p (.lst xs.reverse))) ∨ ∃ s : List Nat, x = .str (mkS s) ∧ s.length ≤ sizeLine ∧ Q (.str (mkS s.reverse)) H1
def tRev2 (K : Frag) (te : TE) : TE := fun σ H Q => te σ H fun x H1 => rRev2 K x H1 Q
theorem pe_rev2 {X : Cx} {e : Expr} {te : TE} {k : Nat} {p1 p2 p3 pos : Pos} (he : PE X e te) : PE X (.Subscript e (.Slice none none (some (minus1 k p1 p2)) p3) pos) (tRev2 X.K te) := by
  refine ⟨fun pins s σ H Q I h => ?_⟩
  refine Subscript_ (L2.thn (he.run pins s σ H _ I h) fun v s1 ⟨x, H1, I1, r1, q1⟩ => ?_)
  have hst : PO X (some (minus1 k p1 p2)) (tPart (tUn (rU fun i => .int (-i)) (tC (.int 1)))) := po_some (pe_un un_neg pe_int)
  refine wpAny_Slice (L2.thn (po_none.run pins s1 σ H1 (fun o H2 => o = none ∧ H2 = H1) I1 ⟨rfl, rfl⟩) fun vl s2 ⟨l, H2, I2, pl, el, e2⟩ => ?_)
  subst el e2
  refine L2.thn (po_none.run pins s2 σ H2 (fun o H3 => o = none ∧ H3 = H2) I2 ⟨rfl, rfl⟩) fun vu s3 ⟨u, H3, I3, pu, eu, e3⟩ => ?_
  subst eu e3
  refine L2.thn (hst.run pins s3 σ H3 (fun o H4 => o = some (-1) ∧ H4 = H3) I3 ⟨1, rfl, -1, rfl, rfl, rfl⟩) fun vs s4 ⟨o, H4, I4, ps, eo, e4⟩ => ?_
  subst eo e4
  have I5 : Inv X pins σ H4 { s4 with heap := s4.heap.push { cls := .type "slice", data := .fields #[vl, vu, vs] } } := I4.kept (t' := s4.toks) fun b ob q => Heap.get?_push_of_some _ q
  show wpAny (model X.prog X.w) X.A (subscriptTail e (.Slice none none (some (minus1 k p1 p2)) p3) v (.ref s4.heap.objs.size)) (EP X pins σ Q) X.xe { s4 with heap := s4.heap.push { cls := .type "slice", data := .fields #[vl, vu, vs] } }
  rcases q1 with ⟨a, xs, ex, hx, q⟩ | ⟨a, xs, ex, hx, q⟩ | ⟨z, ex, hz, q⟩
  · subst ex
    cases r1
    obtain ⟨its, r, ht, hz⟩ := I5.tuple hx
    have hlen := r.length
    refine tail_any (ops := [.ref a, .ref s4.heap.objs.size]) ht.typeIs (PyProof.Rows.slot_tuple_getitem.lookup) ?_ (by with_unfolding_all rfl)
    refine getItem_tuple_back ht (Heap.IsSliceOf.new _ vl vu vs) pl pu ps ?_ (by rw [List.size_toArray]; omega)
    exact ⟨.ref _, _, laidP (t' := s4.toks) I5 (fun b ob q => Heap.get?_push_of_some _ q) (Nat.le_refl _) (by rw [List.length_reverse]; exact hz) r.reverse (Heap.get?_push_size _ rfl), rfl, q _ _ (I5.hok.fresh (Nat.le_refl _)) ⟨rfl, rfl⟩⟩
  · subst ex
    cases r1
    obtain ⟨its, r, ht, hz⟩ := I5.list hx
    have hlen := r.length
    refine tail_any (ops := [.ref a, .ref s4.heap.objs.size]) ht.isList.typeIs (PySem.slot_list_getitem.lookup) ?_ (by with_unfolding_all rfl)
    refine wpAny_getItem_list_slice ht.isList (Heap.IsSliceOf.new _ vl vu vs) pl pu ps (by decide) ?_ (by rw [List.size_toArray]; omega)
    rw [PySem.W.krv_pick]
    refine ⟨.ref _, _, I5.laid (t' := s4.toks) (o := .lst xs.reverse) (fun b ob q => Heap.get?_push_of_some _ q) (Nat.le_refl _) ?_, rfl, q _ (I5.hok.fresh (Nat.le_refl _))⟩
    exact ⟨by rw [List.length_reverse]; exact hz, _, 0, r.reverse, Heap.get?_push_size _ rfl⟩
  · subst ex
    obtain ⟨t, rfl⟩ := r1
    obtain ⟨l0, rfl, e1⟩ := IsPart.raw pl
    obtain ⟨u0, rfl, e2⟩ := IsPart.raw pu
    obtain ⟨st, rfl, e3⟩ := IsPart.raw ps
    have hl0 : l0 = none := by cases l0 with | none => rfl | some z => cases e1
    have hu0 : u0 = none := by cases u0 with | none => rfl | some z => cases e2
    subst hl0 hu0
    obtain ⟨uk, rfl⟩ : ∃ uk, st = some (-1, uk) := by
      cases st with
      | none => cases e3
      | some z =>
        obtain ⟨z1, z2⟩ := z
        have : z1 = -1 := by simpa using e3
        exact ⟨z2, by rw [this]⟩
    refine tail_any (ops := [.ref s4.heap.objs.size, .str (mkS z) t]) (typeIs_str _ _ _) (PySem.F.slot_str_getitem.lookup) ?_ (by with_unfolding_all rfl)
    refine wpAny_getItem_str_slice (l := none) (u := none) (st := some (-1, uk)) ⟨_, Heap.get?_push_size _ rfl, rfl, rfl⟩ rfl (post_val_or_str ⟨?_, fun t' c => ?_⟩)
    · show (Txt.sliceBy (mkS z) none none (-1, uk)).length ≤ sizeLine
      rw [rev_str, mkS_len, List.length_reverse]; exact hz
    · refine ⟨.str (mkS z.reverse), H4, I5.tok _, ?_, q⟩
      show L2.RelV (V.str (mkS z.reverse)) (Value.str (Txt.sliceBy (mkS z) none none (-1, uk)) t')
      rw [rev_str]
      exact ⟨_, rfl⟩
theorem se_rev {a : E} {x : Expr} {k : Nat} {p1 p2 p3 pos : Pos} (ha : SE Γ a x) : SE Γ (.rev a) (.Subscript x (.Slice none none (some (minus1 k p1 p2)) p3) pos) :=
  PE.wk (pe_rev2 ha) fun σ H Q h => TEm.un (r := rRev2 Γ.K) (k := revD) (fun ρ => by simp only [ev]) (fun {ρ O H x v d Q} rs hx e q => by
    cases x <;> simp only [revD] at e <;> try contradiction
    case lst ds =>
      obtain ⟨b, xs, ex, hb, hr⟩ := hx
      subst ex
      cases e
      exact .inr (.inl ⟨b, xs, rfl, SqL.of hb, fun p hp => q _ _ (Ex.new hp) (val_lst rs hp (reps_rev hr))⟩)
    case tup ds =>
      simp only [Rep1, Rep] at hx
      obtain ⟨b, xs, ex, hb, hr⟩ := hx
      subst ex
      cases e
      exact .inl ⟨b, xs, rfl, hb.sq, fun p o hp ho => q _ _ (Ex.new hp) (val_tupN hp ho (reps_rev hr))⟩
    case str s =>
      simp only [Rep1, Rep] at hx
      obtain ⟨ex, hl⟩ := hx
      subst ex
      cases e
      exact .inr (.inr ⟨s, rfl, hl, q _ _ (Ex.refl H) (val_str (by rw [List.length_reverse]; exact hl))⟩)) revD_err h
end VE

/-! Methods of one and two things. -/
namespace VE
open PySem PySem.Spec PyProof.Rows L2
variable {Γ : Ctx}
def noSup : Expr → Bool
  | .Call (.Name _ _) [] [] _ => false
  | _ => true
theorem base_of {o : Expr} {nm : PySem.Str} {env : PySem.Env} {whole : Sem Value} (h : noSup o = true) : attributeBase o nm env whole = whole := by
  unfold attributeBase
  split
  · simp [noSup] at h
  · rfl
theorem few1 {e : Expr} {env : PySem.Env} {cpos : Pos} (h : noStar e = true) : ((backTo cpos (starEach [e] env)).all (fun x => !x.1) && (backToKw cpos (keywordEach [] env)).all (fun x => x.1.isSome)
      && decide (([e] : List Expr).length + ([] : List Keyword).length + (if ([] : List Keyword).isEmpty then 0 else 1) < 30)) = true := by
  rw [star_of h]; rfl
theorem few2 {e f : Expr} {env : PySem.Env} {cpos : Pos} (h : noStar e = true) (h' : noStar f = true) : ((backTo cpos (starEach [e, f] env)).all (fun x => !x.1) && (backToKw cpos (keywordEach [] env)).all (fun x => x.1.isSome)
      && decide (([e, f] : List Expr).length + ([] : List Keyword).length + (if ([] : List Keyword).isEmpty then 0 else 1) < 30)) = true := by
  rw [star_of h, star_of h']; rfl
/-- o.m(a), where o is known -/
theorem TEm.meth {o a m : E} {k : D → Res D} {T : String} {r : V → List V → Hp → VK → Prop} {σ : Sg} {H : Hp} {Q : VK} {ρ : Env} {O : List Addr} {x0 : D} (rs : RS Γ O σ H ρ) (hx0 : ev Γ.cf o ρ = .ok x0)
    (hm : ev Γ.cf m ρ = (ev Γ.cf a ρ).bind k) (ht : ∀ {H v}, Rep1 Γ.K H (Pc Γ O) x0 v → tyV Γ.K T v H)
    (hr : ∀ {H y v u d Q}, RS Γ O σ H ρ → Rep1 Γ.K H (Pc Γ O) x0 v → Rep1 Γ.K H (Pc Γ O) y u → k y = .ok d → (∀ w H', Ex H H' → Val (Γ := Γ) O H H' d w → Q w H') → r v [u] H Q)
    (hk : ∀ y c, k y ≠ .err c) (h : Fin Γ σ H (ev Γ.cf m ρ) fun d => ∀ v H', Ex H H' → Out Γ O m H H' d v → Q v H') : tBM Γ.K T r (TEm Γ o) (tCons (TEm Γ a) tNil) σ H Q := by
  rw [hm] at h
  refine ⟨ρ, O, rs, ?_⟩
  rw [hx0]
  intro v H1 e1 o1
  refine ⟨ht o1.one, ρ, O, rs.ext e1, h.bnd.imp e1 fun y ey hy u H2 e2 o2 => ?_⟩
  have hy' : Fin Γ σ H (k y) _ := hy
  cases q : k y with
  | ok d =>
    rw [q] at hy'
    exact hr ((rs.ext e1).ext e2) (o1.one.ex e2) o2.one q fun w H3 e3 vl => hy' w H3 ((e1.trans e2).trans e3) (vl.back (e1.trans e2)).out
  | err c => exact absurd q (hk y c)
  | bad => rw [q] at hy'; exact hy'.elim
theorem m1D_err (m : M1) (x y : D) (c : Nat) : m1D m x y ≠ .err c := by
  intro h
  unfold m1D at h
  split at h
  · split at h
    · split at h <;> contradiction
    · contradiction
  · cases q : sign y <;> rw [q] at h <;> simp only [ofO, Res.bind_bad, Res.bind_ok] at h <;> contradiction
  · split at h <;> contradiction
  · cases q : sign y <;> rw [q] at h <;> simp only [ofO, Res.bind_bad, Res.bind_ok] at h
    · contradiction
    · exact ofO_err h
  · split at h
    · exact ofO_err h
    · contradiction
  · split at h
    · exact ofO_err h
    · contradiction
  · cases q : sign y <;> rw [q] at h <;> simp only [ofO, Res.bind_bad, Res.bind_ok] at h
    · contradiction
    · split at h <;> contradiction
  · cases q : sign y <;> rw [q] at h <;> simp only [ofO, Res.bind_bad, Res.bind_ok] at h
    · contradiction
    · split at h <;> contradiction
  · contradiction
theorem ty_str {K : Frag} {H : Hp} {P : Addr → Prop} {s : List Nat} {v : V} (h : Rep1 K H P (.str s) v) : tyV K "str" v H := by
  simp only [Rep1, Rep] at h
  rw [h.1]
  rfl
theorem ty_lst {K : Frag} {H : Hp} {P : Addr → Prop} {s : List D} {v : V} (h : Rep1 K H P (.lst s) v) : tyV K "list" v H := by
  obtain ⟨a, xs, e, ha, _⟩ := h
  subst e
  exact .inl ⟨rfl, xs, SqL.of ha⟩
/-- a failure, where the receiver is none -/
theorem fin_no {α β : Type} {σ : Sg} {H : Hp} {r : Res α} {f : α → Res β} {k : β → Prop} (h : Fin Γ σ H (r.bind f) k) (hb : ∀ a, r = .ok a → f a = .bad) : Fin Γ σ H r fun _ => False := by
  cases r with
  | ok a =>
    have : Fin Γ σ H (f a) k := h
    rw [hb a rfl] at this
    exact this
  | err c => exact h
  | bad => exact h
/-! ### count -/
theorem str_count_ok {O : List Addr} {H : Hp} {s : List Nat} {y d : D} {v u : V} {Q : VK} (hx : Rep1 Γ.K H (Pc Γ O) (.str s) v) (hy : Rep1 Γ.K H (Pc Γ O) y u) (e : m1D .count (.str s) y = .ok d) (q : ∀ w H', Ex H H' → Val (Γ := Γ) O H H' d w → Q w H') :
    ∃ a b, v = .str a ∧ [u] = [V.str b] ∧ Q (.int (Txt.count a b)) H := by
  simp only [m1D] at e
  cases hs : sign y with
  | none => rw [hs] at e; cases e
  | some c =>
    rw [hs] at e
    cases e
    have := sign_eq hs
    subst this
    simp only [Rep1, Rep] at hx hy
    rw [hx.1, hy.1]
    refine ⟨_, _, rfl, rfl, ?_⟩
    rw [count_sign]
    exact q _ _ (Ex.refl H) val_int
def rCntD (K : Frag) : V → List V → Hp → VK → Prop := fun x xs H Q => ∃ (a : Addr) (y : V) (d : PyData) (ds : List PyData), x = .ref a ∧ xs = [y] ∧ Dp K H (.ref a) (.list ds) ∧ Dp K H y d ∧ PyData.plainAll ds = true ∧ d.plain = true ∧ min (PyData.depthAll ds) d.depth ≤ 60 ∧ Q (.int (ds.countP fun z => PyData.eqv z d : Nat)) H

abbrev rIdxD (K : Frag) : V → List V → Hp → VK → Prop := fun x xs H Q => ∃ (a : Addr) (y : V) (d : PyData) (ds : List PyData) (j : Nat), x = .ref a ∧ xs = [y] ∧ Dp K H (.ref a) (.list ds) ∧ Dp K H y d ∧ PyData.plainAll ds = true ∧ d.plain = true ∧ min (PyData.depthAll ds) d.depth ≤ 60 ∧
  (ds.findIdx? fun z => PyData.eqv z d) = some j ∧ Q (.int j) H
theorem mt_cntD {X : Cx} (hu : X.A.units + 200 < cLine) : MtR X "list.count" (rCntD X.K) := by
  intro pins s σ H x xs v us Q I rx rxs h
  obtain ⟨a, y, d, ds, rfl, rfl, hl, hy, pl, pd, hm, q⟩ := h
  cases rx
  obtain ⟨u, rfl, ru⟩ := rxs.one
  obtain ⟨bs, r1⟩ := Dp.reads I d y u hy ru
  cases hl with
  | lst hs ha =>
    obtain ⟨its, rv, pL, hlen⟩ := I.list hs
    obtain ⟨as, h4⟩ := Dp.readsAll I ds _ its ha rv
    exact PySem.SeqAt.count_list_data pL.isList (show ReadsAll s.heap its.toArray.toList ds as from h4) r1 pl pd (by omega) ⟨.int _, H, I.tok _, ⟨_, rfl⟩, q⟩
theorem mt_idxD {X : Cx} (hu : X.A.units + 200 < cLine) : MtR X "list.index" (rIdxD X.K) := by
  intro pins s σ H x xs v us Q I rx rxs h
  obtain ⟨a, y, d, ds, j, rfl, rfl, hl, hy, pl, pd, hm, hj, q⟩ := h
  cases rx
  obtain ⟨u, rfl, ru⟩ := rxs.one
  obtain ⟨bs, r1⟩ := Dp.reads I d y u hy ru
  cases hl with
  | lst hs ha =>
    obtain ⟨its, rv, ⟨⟨cls, dd, data, sls⟩, n, ho, hc, hdn, hdt⟩, hlen⟩ := I.list hs
    simp only at hc hdt
    subst hc hdt
    obtain ⟨as, h4⟩ := Dp.readsAll I ds _ its ha rv
    have h5 : ReadsAll s.heap its.toArray.toList ds as := h4
    obtain ⟨hjv, g1, g2⟩ := PySem.SeqAt.hit_at h5 pl hj
    have hz := rv.length
    have hs2 := sizeLine_eq
    refine call_meets PySem.F.slot_list_index ⟨_, ho, rfl⟩ PySem.F.entry_list_index (PySem.F.args_list_index_2 _ _)
      (SeqAt.list_indexAt a its.toArray n dd sls u (fun u => PyData.eqv (SeqAt.readOf s.heap u) d) j hjv (by rw [List.size_toArray] at hjv; omega) g1 g2) ⟨ho, SeqAt.items_plain h5 r1 pl pd (by omega), ?_⟩
    exact ⟨.int (j : Nat), H, I.tok _, ⟨_, rfl⟩, q⟩
theorem dataIn_of {xs : List D} {x : D} (h : dataIn xs x = true) : plain x = true ∧ plains xs = true ∧ min (deeps xs) (deep x) ≤ 60 := by
  unfold dataIn at h
  rw [Bool.and_eq_true, Bool.and_eq_true, decide_eq_true_eq] at h
  exact ⟨h.1.1, h.1.2, h.2⟩
theorem countP_py {x : D} (hx : plain x = true) : ∀ {xs : List D}, plains xs = true → (toPys xs).countP (fun z => PyData.eqv z (toPy x)) = xs.countP fun y => eqv y x
  | [], _ => rfl
  | y :: r, h => by
    have q : plain y = true ∧ plains r = true := by simpa [plains] using h
    simp only [toPys, List.countP_cons, eqv_py y x q.1 hx, countP_py hx q.2]
theorem idx_shift (x : D) : ∀ (xs : List D) (k : Nat), idxD x xs k = ((xs.findIdx? fun y => eqv y x).map fun i => i + k)
  | [], _ => rfl
  | y :: r, k => by
    rw [List.findIdx?_cons]
    unfold idxD
    split
    · simp
    · rw [idx_shift x r (k + 1), Option.map_map]
      congr 1
      funext i
      show i + (k + 1) = i + 1 + k
      omega
theorem find_py {x : D} (hx : plain x = true) : ∀ {xs : List D}, plains xs = true → (toPys xs).findIdx? (fun z => PyData.eqv z (toPy x)) = xs.findIdx? fun y => eqv y x
  | [], _ => rfl
  | y :: r, h => by
    have q : plain y = true ∧ plains r = true := by simpa [plains] using h
    simp only [toPys, List.findIdx?_cons, eqv_py y x q.1 hx, find_py hx q.2]
/-- no receiver of that kind -/
theorem TEm.none_m {o : E} {T : String} {r : V → List V → Hp → VK → Prop} {t : TA} {σ : Sg} {H : Hp} {Q : VK} {ρ : Env} {O : List Addr} {f : D → Res D} {K : D → Prop} (rs : RS Γ O σ H ρ)
    (hb : ∀ x, ev Γ.cf o ρ = .ok x → f x = .bad) (h : Fin Γ σ H ((ev Γ.cf o ρ).bind f) K) : tBM Γ.K T r (TEm Γ o) t σ H Q := by
  refine ⟨ρ, O, rs, ?_⟩
  cases e : ev Γ.cf o ρ with
  | ok x =>
    rw [e] at h
    have h2 : Fin Γ σ H (f x) K := h
    rw [hb x e] at h2
    exact h2.elim
  | err c => rw [e] at h; exact h
  | bad => rw [e] at h; exact h
theorem m1_eq {m : M1} {o a : E} {ρ : Env} {x : D} (h : ev Γ.cf o ρ = .ok x) (hr : rcv1 m x = true) : ev Γ.cf (.m1 m o a) ρ = (ev Γ.cf a ρ).bind fun y => m1D m x y := by
  simp only [ev, h, Res.bind_ok, hr, if_true]
/-- a text's method alone -/
theorem se_m1S {m : M1} {o a : E} {x y : Expr} {nm : PySem.Str} {id : String} {apos cpos : Pos} {r : V → List V → Hp → VK → Prop} (slot : Slot "str" nm id) (hty : typeOf (.builtin id) = pure (.type "method_descriptor")) (hm : MtR Γ.X id r) (ho : SE Γ o x) (ha : SE Γ a y) (hs : noStar y = true) (hn : noSup x = true) (hl : (apos.endLine == cpos.line) = true)
    (hrc : ∀ d, rcv1 m d = true → ∃ s, d = .str s)
    (hr : ∀ {O H s y v u d Q}, Rep1 Γ.K H (Pc Γ O) (.str s) v → Rep1 Γ.K H (Pc Γ O) y u → m1D m (.str s) y = .ok d → (∀ w H', Ex H H' → Val (Γ := Γ) O H H' d w → Q w H') → r v [u] H Q) : SE Γ (.m1 m o a) (.Call (.Attribute x nm apos) [y] [] cpos) :=
  PE.wk (pe_bm PySem.F.plainAttrs_str slot hty hm ho (pa_cons ha pa_nil (star_of hs)) (base_of hn) (few1 hs) hl (star_of hs) rfl) fun σ H Q h => by
    obtain ⟨ρ, O, rs, h⟩ := h
    by_cases hc : ∃ s, ev Γ.cf o ρ = .ok (.str s)
    · obtain ⟨s, hc⟩ := hc
      have hr1 : rcv1 m (.str s) = true := by cases m <;> rfl
      exact TEm.meth rs hc (m1_eq hc hr1) (fun q => ty_str q) (fun rs' hx hy e q => hr hx hy e q) (fun y c => m1D_err _ _ _ _) h
    · simp only [ev] at h
      refine TEm.none_m rs (fun z hz => ?_) h
      cases q : rcv1 m z with
      | true =>
        obtain ⟨s, rfl⟩ := hrc z q
        exact absurd ⟨s, hz⟩ hc
      | false => simp [q]
/-- a text's or a list's -/
theorem se_m1SL {m : M1} {o a : E} {x y : Expr} {nm : PySem.Str} {id id2 : String} {apos cpos : Pos} {r r2 : V → List V → Hp → VK → Prop} (slot : Slot "str" nm id) (hty : typeOf (.builtin id) = pure (.type "method_descriptor")) (hm : MtR Γ.X id r) (slot2 : Slot "list" nm id2) (hty2 : typeOf (.builtin id2) = pure (.type "method_descriptor")) (hm2 : MtR Γ.X id2 r2) (ho : SE Γ o x) (ha : SE Γ a y) (hs : noStar y = true) (hn : noSup x = true) (hl : (apos.endLine == cpos.line) = true)
    (hrl : ∀ s, rcv1 m (.lst s) = true) (hrt : ∀ s, rcv1 m (.tup s) = false)
    (hr : ∀ {O H s y v u d Q}, Rep1 Γ.K H (Pc Γ O) (.str s) v → Rep1 Γ.K H (Pc Γ O) y u → m1D m (.str s) y = .ok d → (∀ w H', Ex H H' → Val (Γ := Γ) O H H' d w → Q w H') → r v [u] H Q)
    (hr2 : ∀ {O H s y v u d Q}, Rep1 Γ.K H (Pc Γ O) (.lst s) v → Rep1 Γ.K H (Pc Γ O) y u → m1D m (.lst s) y = .ok d → (∀ w H', Ex H H' → Val (Γ := Γ) O H H' d w → Q w H') → r2 v [u] H Q) : SE Γ (.m1 m o a) (.Call (.Attribute x nm apos) [y] [] cpos) :=
  PE.wk (PE.orr (pe_bm PySem.F.plainAttrs_str slot hty hm ho (pa_cons ha pa_nil (star_of hs)) (base_of hn) (few1 hs) hl (star_of hs) rfl) (pe_bm PySem.F.plainAttrs_list slot2 hty2 hm2 ho (pa_cons ha pa_nil (star_of hs)) (base_of hn) (few1 hs) hl (star_of hs) rfl)) fun σ H Q h => by
    obtain ⟨ρ, O, rs, h⟩ := h
    by_cases hc : ∃ s, ev Γ.cf o ρ = .ok (.str s)
    · obtain ⟨s, hc⟩ := hc
      have hr1 : rcv1 m (.str s) = true := by cases m <;> rfl
      exact .inl (TEm.meth rs hc (m1_eq hc hr1) (fun q => ty_str q) (fun rs' hx hy e q => hr hx hy e q) (fun y c => m1D_err _ _ _ _) h)
    · by_cases hc2 : ∃ s, ev Γ.cf o ρ = .ok (.lst s)
      · obtain ⟨s, hc2⟩ := hc2
        exact .inr (TEm.meth rs hc2 (m1_eq hc2 (hrl s)) (fun q => ty_lst q) (fun rs' hx hy e q => hr2 hx hy e q) (fun y c => m1D_err _ _ _ _) h)
      · simp only [ev] at h
        refine .inl (TEm.none_m rs (fun z hz => ?_) h)
        cases z with
        | str s => exact absurd ⟨s, hz⟩ hc
        | lst s => exact absurd ⟨s, hz⟩ hc2
        | tup s => simp [hrt s]
        | _ => cases m <;> rfl
theorem list_count_ok {O : List Addr} {H : Hp} {s : List D} {y d : D} {v u : V} {Q : VK} (hx : Rep1 Γ.K H (Pc Γ O) (.lst s) v) (hy : Rep1 Γ.K H (Pc Γ O) y u) (e : m1D .count (.lst s) y = .ok d) (q : ∀ w H', Ex H H' → Val (Γ := Γ) O H H' d w → Q w H') : rCntD Γ.K v [u] H Q := by
  simp only [m1D] at e
  split at e
  · rename_i hc
    cases e
    obtain ⟨h1, h2, h3⟩ := dataIn_of hc
    have hx2 := hx
    obtain ⟨a, xs, ex, ha, hr⟩ := hx
    subst ex
    have hd := Rep1.dp (P := Pc Γ O) (d := .lst s) (by simpa [plain] using h2) hx2
    simp only [toPy] at hd
    refine ⟨a, u, toPy y, toPys s, rfl, rfl, hd, Rep1.dp h1 hy, plains_py s h2, plain_py y h1, by rw [deeps_py s h2, deep_py y h1]; exact h3, ?_⟩
    rw [countP_py h1 h2]
    exact q _ _ (Ex.refl H) val_int
  · cases e
theorem list_index_ok {O : List Addr} {H : Hp} {s : List D} {y d : D} {v u : V} {Q : VK} (hx : Rep1 Γ.K H (Pc Γ O) (.lst s) v) (hy : Rep1 Γ.K H (Pc Γ O) y u) (e : m1D .index (.lst s) y = .ok d) (q : ∀ w H', Ex H H' → Val (Γ := Γ) O H H' d w → Q w H') : rIdxD Γ.K v [u] H Q := by
  simp only [m1D] at e
  split at e
  · rename_i hc
    obtain ⟨h1, h2, h3⟩ := dataIn_of hc
    obtain ⟨j, ej, rfl⟩ := map_ok e
    have hx2 := hx
    obtain ⟨a, xs, ex, ha, hr⟩ := hx
    subst ex
    have hd := Rep1.dp (P := Pc Γ O) (d := .lst s) (by simpa [plain] using h2) hx2
    simp only [toPy] at hd
    rw [idx_shift] at ej
    simp only [Nat.add_zero, Option.map_id'] at ej
    exact ⟨a, u, toPy y, toPys s, j, rfl, rfl, hd, Rep1.dp h1 hy, plains_py s h2, plain_py y h1, by rw [deeps_py s h2, deep_py y h1]; exact h3, by rw [find_py h1 h2]; exact ej, q _ _ (Ex.refl H) val_int⟩
  · cases e
abbrev rIdxS : V → List V → Hp → VK → Prop := fun x xs H Q => ∃ (a b : PySem.Str) (j : Nat), x = .str a ∧ xs = [.str b] ∧ Builtin.Str.occurrences a b 0 a.length 1 = [j] ∧ Q (.int j) H
theorem mt_idxS {X : Cx} : MtR X "str.index" rIdxS := by
  intro pins s σ H x xs v us Q I rx rs h
  obtain ⟨a, b, j, rfl, rfl, hj, q⟩ := h
  obtain ⟨t, rfl⟩ := rx
  obtain ⟨u, rfl, ru⟩ := rs.one
  obtain ⟨t', rfl⟩ := ru
  exact call_gives PySem.F.slot_str_index (typeIs_str _ _ _) PySem.F.entry_str_index (PySem.F.args_str_index_2 _ _) (gives_str_index a b t t' j [] hj) ⟨.int (j : Nat), H, I.tok _, ⟨_, rfl⟩, q⟩
theorem str_index_ok {O : List Addr} {H : Hp} {s : List Nat} {y d : D} {v u : V} {Q : VK} (hx : Rep1 Γ.K H (Pc Γ O) (.str s) v) (hy : Rep1 Γ.K H (Pc Γ O) y u) (e : m1D .index (.str s) y = .ok d) (q : ∀ w H', Ex H H' → Val (Γ := Γ) O H H' d w → Q w H') : rIdxS v [u] H Q := by
  simp only [m1D] at e
  cases hs : sign y with
  | none => rw [hs] at e; cases e
  | some c =>
    rw [hs] at e
    obtain ⟨j, ej, rfl⟩ := map_ok e
    have := sign_eq hs
    subst this
    simp only [Rep1, Rep] at hx hy
    rw [hx.1, hy.1]
    refine ⟨_, _, j, rfl, rfl, ?_, q _ _ (Ex.refl H) val_int⟩
    rw [mkS_len]
    exact index_sign s c j ej
/-! ### a tuple's method -/
theorem sqp_is {X : Cx} {pins : List (Addr × Obj)} {σ : L2.St} {H : Hp} {s : Shared} {a : Addr} {xs : List V} (I : Inv X pins σ H s) (h : SqP X.K H a xs) : s.TypeIs (.ref a) "tuple" ∧ ∀ b, Value.ref a = .ref b → ∃ ob, s.heap.get? b = some ob ∧ ob.dict = none := by
  rcases h with ⟨o, h, h1, h2⟩ | ⟨o, its, n, h1, h2, h3, h4, h5⟩
  · have e := (I.hok a _ h).1
    exact ⟨⟨o, e, h1⟩, fun b q => by cases q; exact ⟨o, e, h2⟩⟩
  · exact tyV_is (x := .ref a) (T := "tuple") I rfl (.inr (.inl ⟨rfl, o, h1, h2.1, h2.2⟩))
def tBMT (K : Frag) (r : V → List V → Hp → VK → Prop) (to : TE) (t : TA) : TE := fun σ H Q => to σ H fun x H1 => (∃ a xs, x = .ref a ∧ SqP K H1 a xs) ∧ t σ H1 fun xs H2 => r x xs H2 Q
theorem pe_bmT {X : Cx} {o e : Expr} {es : List Expr} {to : TE} {t : TA} {name : PySem.Str} {apos cpos : Pos} {id : String} {r : V → List V → Hp → VK → Prop} (slot : Slot "tuple" name id) (hty : typeOf (.builtin id) = pure (.type "method_descriptor")) (hm : MtR X id r) (ho : PE X o to) (ha : PA X (e :: es) t)
    (hbase : attributeBase o name X.env (eval o X.env) = eval o X.env)
    (hfew : ((backTo cpos (starEach (e :: es) X.env)).all (fun x => !x.1) && (backToKw cpos (keywordEach [] X.env)).all (fun x => x.1.isSome)
      && decide ((e :: es).length + ([] : List Keyword).length + (if ([] : List Keyword).isEmpty then 0 else 1) < 30)) = true)
    (hline : (apos.endLine == cpos.line) = true) (hs : starEach (e :: es) X.env = (false, eval e X.env) :: starEach es X.env) (hplain : (backTo cpos (starEach es X.env)).any (·.1) = false) :
    PE X (.Call (.Attribute o name apos) (e :: es) [] cpos) (tBMT X.K r to t) := by
  refine ⟨fun pins s σ H Q I h => ?_⟩
  refine wpAny_Call_method_late hbase hfew hline rfl (L2.thn (ho.run pins s σ H _ I h) fun v s1 ⟨x, H1, I1, r1, ⟨a, ys, ex, hq⟩, q1⟩ => ?_)
  subst ex
  have rv : v = .ref a := r1
  subst rv
  obtain ⟨h1, h2⟩ := sqp_is I1 hq
  refine ⟨"tuple", id, PySem.F.plainAttrs_tuple, slot, hty, h1, h2, ?_⟩
  have hA := ha.run cpos pins s1 σ H1 _ I1 q1
  rw [hs] at hA ⊢
  refine Calls.callWith_builtin (by show (false || (backTo cpos (starEach es X.env)).any (·.1)) = false; rw [hplain] <;> rfl) (Calls.evalArgs_plain ?_)
  exact L2.thn hA fun us s2 ⟨vs, H2, I2, r2, q2⟩ => hm pins s2 σ H2 (.ref a) vs (.ref a) us Q I2 r1 r2 q2
theorem TEm.methT {o a m : E} {k : D → Res D} {r : V → List V → Hp → VK → Prop} {σ : Sg} {H : Hp} {Q : VK} {ρ : Env} {O : List Addr} {x0 : List D} (rs : RS Γ O σ H ρ) (hx0 : ev Γ.cf o ρ = .ok (.tup x0))
    (hm : ev Γ.cf m ρ = (ev Γ.cf a ρ).bind k)
    (hr : ∀ {H y v u d Q}, RS Γ O σ H ρ → Rep1 Γ.K H (Pc Γ O) (.tup x0) v → Rep1 Γ.K H (Pc Γ O) y u → k y = .ok d → (∀ w H', Ex H H' → Val (Γ := Γ) O H H' d w → Q w H') → r v [u] H Q)
    (hk : ∀ y c, k y ≠ .err c) (h : Fin Γ σ H (ev Γ.cf m ρ) fun d => ∀ v H', Ex H H' → Out Γ O m H H' d v → Q v H') : tBMT Γ.K r (TEm Γ o) (tCons (TEm Γ a) tNil) σ H Q := by
  rw [hm] at h
  refine ⟨ρ, O, rs, ?_⟩
  rw [hx0]
  intro v H1 e1 o1
  have h1 := o1.one
  simp only [Rep1, Rep] at h1
  obtain ⟨b, xs, ev', hb, _⟩ := h1
  refine ⟨⟨b, xs, ev', hb⟩, ρ, O, rs.ext e1, h.bnd.imp e1 fun y ey hy u H2 e2 o2 => ?_⟩
  have hy' : Fin Γ σ H (k y) _ := hy
  cases q : k y with
  | ok d =>
    rw [q] at hy'
    exact hr ((rs.ext e1).ext e2) (o1.one.ex e2) o2.one q fun w H3 e3 vl => hy' w H3 ((e1.trans e2).trans e3) (vl.back (e1.trans e2)).out
  | err c => exact absurd q (hk y c)
  | bad => rw [q] at hy'; exact hy'.elim
abbrev rIdxT (K : Frag) : V → List V → Hp → VK → Prop := fun x xs H Q => ∃ (a : Addr) (y : V) (d : PyData) (ds : List PyData) (j : Nat), x = .ref a ∧ xs = [y] ∧ Dp K H (.ref a) (.tuple ds) ∧ Dp K H y d ∧ PyData.plainAll ds = true ∧ d.plain = true ∧ min (PyData.depthAll ds) d.depth ≤ 60 ∧
  (ds.findIdx? fun z => PyData.eqv z d) = some j ∧ Q (.int j) H
theorem mt_idxT {X : Cx} (hu : X.A.units + 200 < cLine) : MtR X "tuple.index" (rIdxT X.K) := by
  intro pins s σ H x xs v us Q I rx rxs h
  obtain ⟨a, y, d, ds, j, rfl, rfl, hl, hy, pl, pd, hm, hj, q⟩ := h
  cases rx
  obtain ⟨u, rfl, ru⟩ := rxs.one
  obtain ⟨bs, r1⟩ := Dp.reads I d y u hy ru
  cases hl with
  | tup hs ha =>
    obtain ⟨its, rv, ⟨⟨cls, dd, data, sls⟩, ho, hc, n, hdt⟩, hlen⟩ := I.tuple hs
    simp only at hc hdt
    subst hc hdt
    obtain ⟨as, h4⟩ := Dp.readsAll I ds _ its ha rv
    have h5 : ReadsAll s.heap its.toArray.toList ds as := h4
    obtain ⟨hjv, g1, g2⟩ := PySem.SeqAt.hit_at h5 pl hj
    refine call_meets PySem.F.slot_tuple_index ⟨_, ho, rfl⟩ PySem.F.entry_tuple_index (PySem.F.args_tuple_index_2 _ _)
      (TI.tuple_indexAt a its.toArray n dd sls u (fun u => PyData.eqv (SeqAt.readOf s.heap u) d) j hjv g1 g2) ⟨ho, SeqAt.items_plain h5 r1 pl pd (by omega), ?_⟩
    exact ⟨.int (j : Nat), H, I.tok _, ⟨_, rfl⟩, q⟩
theorem tup_index_ok {O : List Addr} {H : Hp} {s : List D} {y d : D} {v u : V} {Q : VK} (hx : Rep1 Γ.K H (Pc Γ O) (.tup s) v) (hy : Rep1 Γ.K H (Pc Γ O) y u) (e : m1D .index (.tup s) y = .ok d) (q : ∀ w H', Ex H H' → Val (Γ := Γ) O H H' d w → Q w H') : rIdxT Γ.K v [u] H Q := by
  simp only [m1D] at e
  split at e
  · rename_i hc
    obtain ⟨h1, h2, h3⟩ := dataIn_of hc
    obtain ⟨j, ej, rfl⟩ := map_ok e
    have hx2 := hx
    simp only [Rep1, Rep] at hx
    obtain ⟨a, xs, ex, ha, hr⟩ := hx
    subst ex
    have hd := Rep1.dp (P := Pc Γ O) (d := .tup s) (by simpa [plain] using h2) hx2
    simp only [toPy] at hd
    rw [idx_shift] at ej
    simp only [Nat.add_zero, Option.map_id'] at ej
    exact ⟨a, u, toPy y, toPys s, j, rfl, rfl, hd, Rep1.dp h1 hy, plains_py s h2, plain_py y h1, by rw [deeps_py s h2, deep_py y h1]; exact h3, by rw [find_py h1 h2]; exact ej, q _ _ (Ex.refl H) val_int⟩
  · cases e
theorem se_count (ok : XOk Γ) {o a : E} {x y : Expr} {apos cpos : Pos} (ho : SE Γ o x) (ha : SE Γ a y) (hs : noStar y = true) (hn : noSup x = true) (hl : (apos.endLine == cpos.line) = true) : SE Γ (.m1 .count o a) (.Call (.Attribute x "count" apos) [y] [] cpos) :=
  se_m1SL PySem.F.slot_str_count PySem.F.type_str_count mt_count PySem.F.slot_list_count PySem.F.type_list_count (mt_cntD (by have := ok.units; omega)) ho ha hs hn hl (fun _ => rfl) (fun _ => rfl) (fun hx hy e q => str_count_ok hx hy e q) (fun hx hy e q => list_count_ok hx hy e q)
theorem se_index (ok : XOk Γ) {o a : E} {x y : Expr} {apos cpos : Pos} (ho : SE Γ o x) (ha : SE Γ a y) (hs : noStar y = true) (hn : noSup x = true) (hl : (apos.endLine == cpos.line) = true) : SE Γ (.m1 .index o a) (.Call (.Attribute x "index" apos) [y] [] cpos) :=
  PE.wk (PE.orr (PE.orr (pe_bm PySem.F.plainAttrs_str PySem.F.slot_str_index PySem.F.type_str_index mt_idxS ho (pa_cons ha pa_nil (star_of hs)) (base_of hn) (few1 hs) hl (star_of hs) rfl) (pe_bm PySem.F.plainAttrs_list PySem.F.slot_list_index PySem.F.type_list_index (mt_idxD (by have := ok.units; omega)) ho (pa_cons ha pa_nil (star_of hs)) (base_of hn) (few1 hs) hl (star_of hs) rfl))
    (pe_bmT PySem.F.slot_tuple_index PySem.F.type_tuple_index (mt_idxT (by have := ok.units; omega)) ho (pa_cons ha pa_nil (star_of hs)) (base_of hn) (few1 hs) hl (star_of hs) rfl)) fun σ H Q h => by
    obtain ⟨ρ, O, rs, h⟩ := h
    by_cases hc : ∃ s, ev Γ.cf o ρ = .ok (.str s)
    · obtain ⟨s, hc⟩ := hc
      exact .inl (.inl (TEm.meth rs hc (m1_eq hc rfl) (fun q => ty_str q) (fun rs' hx hy e q => str_index_ok hx hy e q) (fun y c => m1D_err _ _ _ _) h))
    · by_cases hc2 : ∃ s, ev Γ.cf o ρ = .ok (.lst s)
      · obtain ⟨s, hc2⟩ := hc2
        exact .inl (.inr (TEm.meth rs hc2 (m1_eq hc2 rfl) (fun q => ty_lst q) (fun rs' hx hy e q => list_index_ok hx hy e q) (fun y c => m1D_err _ _ _ _) h))
      · by_cases hc3 : ∃ s, ev Γ.cf o ρ = .ok (.tup s)
        · obtain ⟨s, hc3⟩ := hc3
          exact .inr (TEm.methT rs hc3 (m1_eq hc3 rfl) (fun rs' hx hy e q => tup_index_ok hx hy e q) (fun y c => m1D_err _ _ _ _) h)
        · simp only [ev] at h
          refine .inl (.inl (TEm.none_m rs (fun z hz => ?_) h))
          cases z with
          | str s => exact absurd ⟨s, hz⟩ hc
          | lst s => exact absurd ⟨s, hz⟩ hc2
          | tup s => exact absurd ⟨s, hz⟩ hc3
          | _ => rfl
end VE

/-! join, find, get, {}. -/
namespace VE
open PySem PySem.Spec PyProof.Rows L2
variable {Γ : Ctx}
theorem join_str (sep : List Nat) : ∀ ys : List (List Nat), PySem.Str.join (mkS sep) (ys.map mkS) = mkS (joinL sep ys)
  | [] => rfl
  | [x] => rfl
  | x :: y :: r => by
    have ih := join_str sep (y :: r)
    show mkS x ++ mkS sep ++ PySem.Str.join (mkS sep) ((y :: r).map mkS) = _
    rw [ih, mkS_app, mkS_app]
    rfl
theorem joinL_len (sep : List Nat) : ∀ ys : List (List Nat), (joinL sep ys).length ≤ (ys.map List.length).sum + sep.length * ys.length
  | [] => by simp [joinL]
  | [x] => by simp [joinL]
  | x :: y :: r => by
    have ih := joinL_len sep (y :: r)
    have e : joinL sep (x :: y :: r) = x ++ sep ++ joinL sep (y :: r) := rfl
    rw [e, List.length_append, List.length_append]
    simp only [List.map_cons, List.sum_cons, List.length_cons] at ih ⊢
    have : sep.length * (r.length + 1 + 1) = sep.length * (r.length + 1) + sep.length := by rw [Nat.mul_succ]
    omega
abbrev rJoin (K : Frag) : V → List V → Hp → VK → Prop := fun x xs H Q => ∃ a p, ∃ ys : List PySem.Str, x = .str a ∧ xs = [.ref p] ∧ (SqL K H p (ys.map V.str) ∨ SqT K H p (ys.map V.str)) ∧ (ys.map (·.length)).sum + ys.length * a.length ≤ 16777216 ∧ Q (.str (Txt.join a ys)) H
theorem join_ok {O : List Addr} {H : Hp} {s : List Nat} {y d : D} {v u : V} {Q : VK} (hx : Rep1 Γ.K H (Pc Γ O) (.str s) v) (hy : Rep1 Γ.K H (Pc Γ O) y u) (e : m1D .join (.str s) y = .ok d) (q : ∀ w H', Ex H H' → Val (Γ := Γ) O H H' d w → Q w H') : rJoin Γ.K v [u] H Q := by
  cases y <;> simp only [m1D] at e <;> try contradiction
  case lst ds =>
    split at e
    · rename_i ys hys
      split at e
      · rename_i hl
        cases e
        obtain ⟨a, xs, ex, ha, hr⟩ := hy
        subst ex
        have e2 := reps_strs hr hys
        subst e2
        simp only [Rep1, Rep] at hx
        rw [hx.1]
        refine ⟨_, a, ys.map mkS, rfl, rfl, .inl (by rw [List.map_map]; exact SqL.of ha), ?_, ?_⟩
        · rw [List.map_map, List.length_map, mkS_len, Nat.mul_comm]
          have : ((fun x : PySem.Str => x.length) ∘ mkS) = List.length := funext fun z => mkS_len z
          rw [this]
          exact hl
        · have ej : Txt.join (mkS s) (ys.map mkS) = PySem.Str.join (mkS s) (ys.map mkS) := PySem.StrLaws.glued_eq_join _ _
          rw [ej, join_str]
          exact q _ _ (Ex.refl H) (val_str (by rw [sizeLine_eq]; exact Nat.le_trans (joinL_len s ys) hl))
      · cases e
    · cases e
theorem se_join {o a : E} {x y : Expr} {apos cpos : Pos} (ho : SE Γ o x) (ha : SE Γ a y) (hs : noStar y = true) (hn : noSup x = true) (hl : (apos.endLine == cpos.line) = true) : SE Γ (.m1 .join o a) (.Call (.Attribute x "join" apos) [y] [] cpos) :=
  se_m1S PySem.F.slot_str_join PySem.F.type_str_join mt_join ho ha hs hn hl (fun d h => by cases d <;> first | exact ⟨_, rfl⟩ | exact absurd h (by simp [rcv1])) (fun hx hy e q => join_ok hx hy e q)
/-! ### find, get -/
theorem m2D_err (m : M2) (x y z : D) (c : Nat) : m2D m x y z ≠ .err c := by
  intro h
  unfold m2D at h
  split at h
  · cases q : sign y <;> rw [q] at h <;> simp only [ofO, Res.bind_bad, Res.bind_ok] at h
    · contradiction
    · split at h
      · split at h <;> contradiction
      · contradiction
  · split at h <;> contradiction
  · contradiction
theorem se_find {o a b : E} {x y z : Expr} {apos cpos : Pos} (ho : SE Γ o x) (ha : SE Γ a y) (hb : SE Γ b z) (hs : noStar y = true) (ht : noStar z = true) (hn : noSup x = true) (hl : (apos.endLine == cpos.line) = true) : SE Γ (.m2 .find o a b) (.Call (.Attribute x "find" apos) [y, z] [] cpos) :=
  PE.wk (pe_bm PySem.F.plainAttrs_str PySem.F.slot_str_find PySem.F.type_str_find mt_find3 ho (pa_cons ha (pa_cons hb pa_nil (star_of ht)) (star_of hs)) (base_of hn) (few2 hs ht) hl (star_of hs) (star_any (by simp [ht]))) fun σ H Q h => by
    obtain ⟨ρ, O, rs, h⟩ := h
    simp only [ev] at h
    by_cases hc : ∃ s, ev Γ.cf o ρ = .ok (.str s)
    · obtain ⟨s, hc⟩ := hc
      rw [hc] at h
      have h' : Fin Γ σ H ((ev Γ.cf a ρ).bind fun y => (ev Γ.cf b ρ).bind fun z => m2D .find (.str s) y z) _ := h
      refine ⟨ρ, O, rs, ?_⟩
      rw [hc]
      intro v H1 e1 o1
      refine ⟨ty_str o1.one, ρ, O, rs.ext e1, h'.bnd.imp e1 fun y ey hy u H2 e2 o2 => ?_⟩
      refine ⟨ρ, O, (rs.ext e1).ext e2, (Fin.bnd hy).imp (e1.trans e2) fun z ez hz w H3 e3 o3 => ?_⟩
      have hz' : Fin Γ σ H (m2D .find (.str s) y z) _ := hz
      cases z <;> simp only [m2D] at hz' <;> try (exact hz'.elim)
      case int k =>
        cases hs : sign y with
        | none => rw [hs] at hz'; exact hz'.elim
        | some c =>
          rw [hs] at hz'
          simp only [ofO, Res.bind_ok] at hz'
          have := sign_eq hs
          subst this
          have hv := (o1.one.ex e2).ex e3
          have hu := o2.one.ex e3
          have hw := o3.one
          simp only [Rep1, Rep] at hv hu hw
          rw [hv.1, hu.1, hw]
          refine ⟨_, _, k, rfl, rfl, ?_⟩
          split at hz'
          · rename_i h0
            rw [find_sign s c k h0]
            split at hz' <;> rename_i hf <;> (try rw [hf]) <;> exact hz' _ _ ((e1.trans e2).trans e3) ((val_int (H := H3)).back ((e1.trans e2).trans e3)).out
          · exact hz'.elim
    · refine TEm.none_m rs (fun z hz => ?_) h
      cases z with
      | str s => exact absurd ⟨s, hz⟩ hc
      | _ => rfl
theorem se_get (ok : XOk Γ) {o a b : E} {x y z : Expr} {apos cpos : Pos} (ho : SE Γ o x) (ha : SE Γ a y) (hb : SE Γ b z) (hs : noStar y = true) (ht : noStar z = true) (hn : noSup x = true) (hl : (apos.endLine == cpos.line) = true) (hk : lk Γ.ks b = true) : SE Γ (.m2 .get o a b) (.Call (.Attribute x "get" apos) [y, z] [] cpos) :=
  PE.wk (pe_dget2 (by have := ok.units; omega) ho ha hb ⟨base_of hn, few2 hs ht, hl, by rw [star_of hs, star_of ht]; rfl⟩) fun σ H Q h => by
    obtain ⟨ρ, O, rs, h⟩ := h
    simp only [ev] at h
    refine ⟨ρ, O, rs, h.bnd.mono fun d ed hd v H1 e1 o1 => ?_⟩
    cases d <;> simp only [rcv2, Bool.false_eq_true, if_false, if_true] at hd <;> try (exact hd.elim)
    case dic ks vs =>
      obtain ⟨p, kvs, ep, hp, ⟨hm, hsh⟩, hr⟩ := o1.one
      subst ep hm
      refine ⟨p, rfl, .inl ⟨kvs, hp⟩, ρ, O, rs.ext e1, (Fin.bnd hd).imp e1 fun y ey hy u H2 e2 o2 => ?_⟩
      refine ⟨ρ, O, (rs.ext e1).ext e2, (Fin.bnd hy).imp (e1.trans e2) fun z ez hz w H3 e3 o3 => ?_⟩
      have hz' : Fin Γ σ H (if isKey y = true then .ok ((dget y (kvs.map fun p => kD p.1) vs).getD z) else .bad) _ := hz
      split at hz'
      · rename_i hk1
        obtain ⟨k, ex, ev'⟩ := isKey_kD hk1 o2.one
        subst ex ev'
        have o13 := (o1.one.ex e2).ex e3
        obtain ⟨p', kvs', ep', hp', ⟨hm', _⟩, hr'⟩ := o13
        have : p' = p := by injection ep' with e; exact e.symm
        subst this
        have g := dget_kv (k := k) ((hr.ex e2).ex e3)
        have hp3 : Rd H3 p' (.dK kvs) := by
          have m1 := (e2.trans e3).mv
          exact m1.rd hp (fun z => z)
        cases gd : dget (kD k) (kvs.map fun p => kD p.1) vs with
        | none =>
          rw [gd] at g hz'
          refine ⟨none, .inl ⟨kvs, k, hp3, rfl, g.symm⟩, hz' _ _ ((e1.trans e2).trans e3) ⟨o3.one, fun _ => o3.ord hk, (fun z => by simp [fr] at z), fun _ => Rep.away (Γ := Γ) (o3.ord hk)⟩⟩
        | some d =>
          rw [gd] at g hz'
          obtain ⟨w', hw, rw'⟩ := g
          exact ⟨some w', .inl ⟨kvs, k, hp3, rfl, hw.symm⟩, hz' _ _ ((e1.trans e2).trans e3) ⟨rw'.one, fun _ => rw', (fun z => by simp [fr] at z), fun _ => Rep.away (Γ := Γ) rw'⟩⟩
      · exact hz'.elim
theorem se_dnew {pos : Pos} {b : Bool} : SE Γ (.dnew b) (.Dict [] [] pos) := PE.wk pe_dnewK fun σ H Q h => by
  obtain ⟨ρ, O, rs, h⟩ := h
  simp only [ev] at h
  intro p hp
  have e : Ex H (upd H p (.dK [])) := Ex.new hp
  have h1 : OwnAt Γ.K (upd H p (.dK [])) (fun b => Pc Γ O b ∧ b ≠ p) p (.dic [] []) := ⟨[], upd_same, ⟨rfl, fun p hp => by cases hp⟩, reps_nil⟩
  refine h (.ref p) _ e (Val.out ⟨OwnAt.rep h1 (fun b z => z.1) (rs.pnew hp), p, rfl, hp, h1⟩)
end VE

/-! What is walked; targets; comprehensions. -/
namespace VE
open PySem PySem.Spec PyProof.Rows L2
variable {Γ : Ctx}
/-! ### enumerate(a text) -/
def Itx (x : PySem.Str) : It := ⟨fun i _ => i < x.cps.size, fun i H v H' => ∃ T c, v = .ref T ∧ H T = none ∧ H' = upd H T (.tup [.int (i : Nat), .str (mkS [c])]) ∧ x.cps[i]? = some c, fun i _ => x.cps.size ≤ i⟩
theorem turn_enumS {P : Program} {w : World} {K : Frag} {elts : List Expr} {kk : Nat} {tpos : Pos} (x : PySem.Str) (t : Tok) (e it : Addr) :
    Turn P w K (.Tuple elts kk tpos) (Itx x) [e, it] e (fun i h => (∃ old, IsEnum h e it ((i : Nat) : Int) old) ∧ h.IsStrIter it (strIterType x) x t i ∧ e ≠ it ∧ i ≤ x.cps.size) where
  mem := by simp
  obj := fun i h st b hb => by
    obtain ⟨⟨old, he⟩, ⟨o, ho, hc, hd⟩, _⟩ := st
    have e' : b = e ∨ b = it := by simpa using hb
    rcases e' with z | z
    · rw [z]; exact ⟨_, he, fun v q => nomatch q⟩
    · rw [z]; exact ⟨o, ho, fun v q => by rw [hd] at q; cases q⟩
  keep := fun i h h' st k => by
    obtain ⟨⟨old, he⟩, ⟨o, ho, r⟩, hne⟩ := st
    exact ⟨⟨old, k e (by simp) _ he⟩, ⟨o, k it (by simp) o ho, r⟩, hne⟩
  item := by
    intro X hP hw hK hc i pins s σ H E I hf st hg
    subst hP hw hK
    obtain ⟨⟨old, he⟩, hit, hne, hle⟩ := st
    have hel : e < s.heap.objs.size := Heap.lt_size he
    have hil : it < s.heap.objs.size := by obtain ⟨_, q, _⟩ := hit; exact Heap.lt_size q
    have hh : X.A.in1.handled = none := I.ok.hd hc
    refine PySem.wpAny_pyNext_enum_itemC (Draws.text hh it x t) he hit hg hne (by simpa using hne) fun u h' tk hP ho hit' hT hsz hk => ?_
    obtain ⟨c, uc, hcx, rfl⟩ := hP
    refine ⟨_, rfl, wpAny_letOwnedTupleGo_enum (s := { s with heap := h', toks := tk + 1 }) ho fun h2 he' sb => ?_⟩
    have hT2 : h2.get? s.heap.objs.size = some { cls := .type "tuple", data := .seq #[.int i tk, .str (mkS [c]) uc] } := (sb.2 _ (Nat.ne_of_gt hel)).trans hT
    have new : ObjOk X.prog X.w (upd H s.heap.objs.size (.tup [.int (i : Nat), .str (mkS [c])])) h2 s.heap.objs.size (.tup [.int (i : Nat), .str (mkS [c])]) :=
      ⟨by show 2 ≤ sizeLine; decide, [.int i tk, .str (mkS [c]) uc], .cons ⟨_, rfl⟩ (.cons ⟨_, rfl⟩ .nil), ⟨_, hT2, rfl, _, rfl⟩⟩
    have I1 : Inv X pins σ (upd H s.heap.objs.size (.tup [.int (i : Nat), .str (mkS [c])])) { s with heap := h2, toks := tk + 1 } :=
      I.turnedNew (ch := [e, it]) (fun b ob hb q => (sb.2 b (fun z => hb (by simp [z]))).trans (hk b ob (fun z => hb (by simp [z])) (fun z => hb (by simp [z])) q)) hf (Nat.le_refl _) new
    refine ⟨.ref s.heap.objs.size, _, I1, rfl, ⟨_, c, rfl, I.hok.fresh (Nat.le_refl _), rfl, hcx⟩, ⟨⟨.str (mkS [c]) uc, ?_⟩, ?_, hne, hg⟩, fun b hb => ?_⟩
    · have e1 : ((i + 1 : Nat) : Int) = (i : Int) + 1 := by omega
      rw [e1]; exact he'
    · obtain ⟨o, ho2, r⟩ := hit'
      exact ⟨o, (sb.2 it (Ne.symm hne)).trans ho2, r⟩
    · have hb' : b < s.heap.objs.size := by
        have e' : b = e ∨ b = it := by simpa using hb
        rcases e' with z | z
        · rw [z]; exact hel
        · rw [z]; exact hil
      rw [upd_ne (Nat.ne_of_lt hb')]
      exact (hf b hb).1
  done := by
    intro X hP hw hK hc i pins s σ H E I hf st hg
    subst hP hw hK
    obtain ⟨⟨old, he⟩, hit, hne, hle⟩ := st
    have hi : i = x.cps.size := Nat.le_antisymm hle hg
    subst hi
    obtain ⟨f0, f1, f2, f3, f4, f5⟩ := hf it (by simp)
    have hh : X.A.in1.handled = none := I.ok.hd hc
    exact wpAny_pyNext_enum_endD (Draws.text hh it x t) he hit fun h' eb => ⟨rfl, I.turned (t' := s.toks) (fun b o hb q => eb b o hb q) f0 f1 f3 f4 f5⟩
  self := fun A i s Q E st h => by
    obtain ⟨⟨_, he⟩, _⟩ := st
    exact wpAny_pyIter_enum he h
def iEnumS (te : TE) : TI := fun σ H R => te σ H fun v H1 => ∃ x, v = .str x ∧ R (Itx x) H1
theorem pi_enumS {X : Cx} {e : Expr} {te : TE} {p pos tpos : Pos} {elts : List Expr} {kk : Nat} (hg : Gl X "enumerate") (hm : X.mg "enumerate" = none) (he : PE X e te) (hs : noStar e = true) :
    PI X (.Tuple elts kk tpos) (.Call (.Name "enumerate" p) [e] [] pos) (iEnumS te) := by
  refine ⟨fun pins s σ H R I h => ?_⟩
  refine Call_ (ld_blt I hg hm boot_enumerate (PyProof.Rows.callWith_type1 ?_ (star_of hs) rfl))
  rw [star_of hs]
  refine Calls.spliced_cons (L2.thn (he.run pins s σ H _ I h) fun u s1 ⟨v, H1, I1, rv, x, ex, q⟩ => Calls.spliced_nil ?_)
  subst ex
  obtain ⟨t, rfl⟩ := rv
  refine call_enumerate_str fun h' he hit hsz hk => wpAny_pyIter_enum he ?_
  have I2 : Inv X pins σ H1 { s1 with heap := h' } := I1.kept (t' := s1.toks) hk
  refine ⟨s1.heap.objs.size + 1, [s1.heap.objs.size + 1, s1.heap.objs.size], _, _, H1, rfl, I2, turn_enumS x t (s1.heap.objs.size + 1) s1.heap.objs.size, ⟨⟨.none, he⟩, hit, Nat.succ_ne_self _, Nat.zero_le _⟩, fun b hb => ?_, q⟩
  have e' : b = s1.heap.objs.size + 1 ∨ b = s1.heap.objs.size := by simpa using hb
  have hle : s1.heap.objs.size ≤ b := by
    rcases e' with z | z
    · rw [z]; exact Nat.le_add_right _ _
    · rw [z]; exact Nat.le_refl _
  exact I1.fpOk hle (I1.hok.fresh hle)
theorem walk_enumS {x : PySem.Str} : Walk (Itx x) x.cps.size (fun _ => True) (fun i H v H' => ∃ T c, v = .ref T ∧ H T = none ∧ H' = upd H T (.tup [.int (i : Nat), .str (mkS [c])]) ∧ x.cps[i]? = some c) :=
  ⟨fun i H hi _ => hi, fun H _ => Nat.le_refl _, fun i H v H' _ _ h => h⟩
/-! ### zip of two texts -/
def Itzs (x y : PySem.Str) : It := ⟨fun i _ => i < x.cps.size ∧ i < y.cps.size, fun i H v H' => ∃ T c d, v = .ref T ∧ H T = none ∧ H' = upd H T (.tup [.str (mkS [c]), .str (mkS [d])]) ∧ x.cps[i]? = some c ∧ y.cps[i]? = some d, fun i _ => x.cps.size ≤ i ∨ y.cps.size ≤ i⟩
theorem turn_zipS {P : Program} {w : World} {K : Frag} {elts : List Expr} {kk : Nat} {tpos : Pos} (x y : PySem.Str) (t u : Tok) (z TI TO i1 i2 : Addr) (D : ZipSep2 z TI TO i1 i2 [i1] [i2]) :
    Turn P w K (.Tuple elts kk tpos) (Itzs x y) [z, TI, TO, i1, i2] z (fun i h => IsZip h z TI TO .none ∧ IsTupOf2 h TI (.ref i1) (.ref i2) ∧ (∃ a b, IsTupOf2 h TO a b) ∧ h.IsStrIter i1 (strIterType x) x t i ∧ h.IsStrIter i2 (strIterType y) y u i ∧ i ≤ x.cps.size ∧ i ≤ y.cps.size) where
  mem := by simp
  obj := fun i h st c hc => by
    obtain ⟨hz, hTI, ⟨a, b, hTO⟩, ⟨o1, e1, _, d1⟩, ⟨o2, e2, _, d2⟩, _⟩ := st
    have e' : c = z ∨ c = TI ∨ c = TO ∨ c = i1 ∨ c = i2 := by simpa using hc
    rcases e' with q | q | q | q | q
    · rw [q]; exact ⟨_, hz, fun v q => nomatch q⟩
    · rw [q]; exact ⟨_, hTI, fun v q => nomatch q⟩
    · rw [q]; exact ⟨_, hTO, fun v q => nomatch q⟩
    · rw [q]; exact ⟨o1, e1, fun v q => by rw [d1] at q; cases q⟩
    · rw [q]; exact ⟨o2, e2, fun v q => by rw [d2] at q; cases q⟩
  keep := fun i h h' st k => by
    obtain ⟨hz, hTI, ⟨a, b, hTO⟩, ⟨o1, e1, r1⟩, ⟨o2, e2, r2⟩, hl⟩ := st
    exact ⟨k z (by simp) _ hz, k TI (by simp) _ hTI, ⟨a, b, k TO (by simp) _ hTO⟩, ⟨o1, k i1 (by simp) o1 e1, r1⟩, ⟨o2, k i2 (by simp) o2 e2, r2⟩, hl⟩
  item := by
    intro X hP hw hK hc i pins s σ H E I hf st hg
    subst hP hw hK
    obtain ⟨hz, hTI, ⟨a0, b0, hTO⟩, h1, h2, l1, l2⟩ := st
    have hzl : z < s.heap.objs.size := Heap.lt_size hz
    have hh : X.A.in1.handled = none := I.ok.hd hc
    refine PySem.wpAny_pyNext_zipD2_item D (Draws.text hh i1 x t) (Draws.text hh i2 y u) hz hTI hTO h1 h2 hg.1 hg.2 fun x1 x2 h' tk p1 p2 z' TO' s1 s2 hT hsz hk => ?_
    obtain ⟨c, uc, hcx, rfl⟩ := p1
    obtain ⟨d, ud, hdx, rfl⟩ := p2
    refine ⟨_, rfl, wpAny_letOwnedTupleGo_zip (s := { s with heap := h', toks := tk }) z' fun h'' z'' sb => ?_⟩
    have hT2 : h''.get? s.heap.objs.size = some { cls := .type "tuple", data := .seq #[.str (mkS [c]) uc, .str (mkS [d]) ud] } := (sb.2 _ (Nat.ne_of_gt hzl)).trans hT
    have new : ObjOk X.prog X.w (upd H s.heap.objs.size (.tup [.str (mkS [c]), .str (mkS [d])])) h'' s.heap.objs.size (.tup [.str (mkS [c]), .str (mkS [d])]) :=
      ⟨by show 2 ≤ sizeLine; decide, [.str (mkS [c]) uc, .str (mkS [d]) ud], .cons ⟨_, rfl⟩ (.cons ⟨_, rfl⟩ .nil), ⟨_, hT2, rfl, _, rfl⟩⟩
    have I1 : Inv X pins σ (upd H s.heap.objs.size (.tup [.str (mkS [c]), .str (mkS [d])])) { s with heap := h'', toks := tk } :=
      I.turnedNew (t' := tk) (ch := [z, TI, TO, i1, i2]) (fun c o hb q => (sb.2 c (fun q' => hb (by simp [q']))).trans (hk c o (fun q' => hb (by simp [q'])) (fun q' => hb (by simp [q'])) (fun q' => hb (by simp [q'])) (fun q' => hb (by simp [q'])) q)) hf (Nat.le_refl _) new
    refine ⟨.ref s.heap.objs.size, _, I1, rfl, ⟨_, c, d, rfl, I.hok.fresh (Nat.le_refl _), rfl, hcx, hdx⟩, ⟨z'', ?_, ⟨.str (mkS [c]) uc, .str (mkS [d]) ud, ?_⟩, ?_, ?_, hg.1, hg.2⟩, fun c hcm => ?_⟩
    · exact (sb.2 _ D.TIz).trans (hk _ _ D.TIz D.TITO D.TIi1 D.TIi2 hTI)
    · exact (sb.2 _ D.TOz).trans TO'
    · obtain ⟨o, ho2, r⟩ := s1
      exact ⟨o, (sb.2 i1 (Ne.symm D.zi1)).trans ho2, r⟩
    · obtain ⟨o, ho2, r⟩ := s2
      exact ⟨o, (sb.2 i2 (Ne.symm D.zi2)).trans ho2, r⟩
    · have hlt : c < s.heap.objs.size := by
        have e' : c = z ∨ c = TI ∨ c = TO ∨ c = i1 ∨ c = i2 := by simpa using hcm
        rcases e' with q | q | q | q | q
        · rw [q]; exact hzl
        · rw [q]; exact Heap.lt_size hTI
        · rw [q]; exact Heap.lt_size hTO
        · rw [q]; obtain ⟨_, e1, _⟩ := h1; exact Heap.lt_size e1
        · rw [q]; obtain ⟨_, e2, _⟩ := h2; exact Heap.lt_size e2
      rw [upd_ne (Nat.ne_of_lt hlt)]
      exact (hf c hcm).1
  done := by
    intro X hP hw hK hc i pins s σ H E I hf st hg
    subst hP hw hK
    obtain ⟨hz, hTI, ⟨a0, b0, hTO⟩, h1, h2, l1, l2⟩ := st
    have hh : X.A.in1.handled = none := I.ok.hd hc
    exact PySem.wpAny_pyNext_zipD2_end D (Draws.text hh i1 x t) (Draws.text hh i2 y u) hz hTI hTO h1 h2 l1 l2 (hg.imp (fun q => Nat.le_antisymm l1 q) fun q => Nat.le_antisymm l2 q) fun h' tk hk => ⟨rfl, I.turnedL (t' := tk) (ch := [z, TI, TO, i1, i2]) (fun c o hb q =>
      hk c o (fun q' => hb (by simp [q'])) (fun q' => hb (by simp [q'])) (fun q' => hb (by simp [q'])) (fun q' => hb (by simp [q'])) q) hf⟩
  self := fun A i s Q E st h => wpAny_pyIter_zip st.1 h
def iZipS (ta : TA) : TI := fun σ H R => ta σ H fun vs H1 => ∃ x y, vs = [.str x, .str y] ∧ R (Itzs x y) H1
theorem pi_zipS {X : Cx} {e e2 : Expr} {ta : TA} {p pos tpos : Pos} {elts : List Expr} {kk : Nat} (hg : Gl X "zip") (hm : X.mg "zip" = none) (ha : PA X [e, e2] ta)
    (hs : starEach [e, e2] X.env = (false, eval e X.env) :: starEach [e2] X.env := by rfl) (hpl : (backTo pos (starEach [e2] X.env)).any (·.1) = false := by rfl) :
    PI X (.Tuple elts kk tpos) (.Call (.Name "zip" p) [e, e2] [] pos) (iZipS ta) := by
  refine ⟨fun pins s σ H R I h => ?_⟩
  refine Call_ (ld_blt I hg hm PyProof.Rows.boot_zip (PyProof.Rows.callWith_type1 (L2.thn (ha.run pos pins s σ H _ I h) fun us s1 ⟨vs, H1, I1, r1, q1⟩ => ?_) hs hpl))
  obtain ⟨x, y, ex, q⟩ := q1
  subst ex
  obtain ⟨u1, u2, rfl, ⟨t, rfl⟩, ⟨u, rfl⟩⟩ := vals2 r1
  have fresh5 : ∀ c, c ∈ [s1.heap.objs.size + 4, s1.heap.objs.size + 2, s1.heap.objs.size + 3, s1.heap.objs.size, s1.heap.objs.size + 1] → FpOk X pins H1 c := fun c hcm => by
    have e' : c = s1.heap.objs.size + 4 ∨ c = s1.heap.objs.size + 2 ∨ c = s1.heap.objs.size + 3 ∨ c = s1.heap.objs.size ∨ c = s1.heap.objs.size + 1 := by simpa using hcm
    have hle : s1.heap.objs.size ≤ c := by
      rcases e' with z | z | z | z | z <;> rw [z] <;> first | exact Nat.le_add_right _ _ | exact Nat.le_refl _
    exact I1.fpOk hle (I1.hok.fresh hle)
  refine PySem.zip_begins2 (PySem.begins_text x t) (PySem.begins_text y u) trivial trivial fun h' hz hTI hTO h1 h2 hsz hk => wpAny_pyIter_zip hz ?_
  have I2 : Inv X pins σ H1 { s1 with heap := h' } := I1.kept (t' := s1.toks) hk
  have sep : ZipSep2 (s1.heap.objs.size + 4) (s1.heap.objs.size + 2) (s1.heap.objs.size + 3) s1.heap.objs.size (s1.heap.objs.size + 1) [s1.heap.objs.size] [s1.heap.objs.size + 1] := by
    generalize s1.heap.objs.size = k
    constructor <;> simp <;> omega
  exact ⟨s1.heap.objs.size + 4, [s1.heap.objs.size + 4, s1.heap.objs.size + 2, s1.heap.objs.size + 3, s1.heap.objs.size, s1.heap.objs.size + 1], _, _, H1, rfl, I2, turn_zipS x y t u _ _ _ _ _ sep, ⟨hz, hTI, ⟨_, _, hTO⟩, ⟨_, h1, rfl, rfl⟩, ⟨_, h2, rfl, rfl⟩, Nat.zero_le _, Nat.zero_le _⟩, fresh5, q⟩
theorem walk_zipS {x y : PySem.Str} {n : Nat} (hn : n = min x.cps.size y.cps.size) : Walk (Itzs x y) n (fun _ => True) (fun i H v H' => ∃ T c d, v = .ref T ∧ H T = none ∧ H' = upd H T (.tup [.str (mkS [c]), .str (mkS [d])]) ∧ x.cps[i]? = some c ∧ y.cps[i]? = some d) :=
  ⟨fun i H hi _ => by subst hn; exact ⟨by omega, by omega⟩, fun H _ => by subst hn; show _ ≤ _ ∨ _ ≤ _; omega, fun i H v H' _ _ h => h⟩
/-! ### walks -/
def Keeps (U : List Addr) (H H' : Hp) : Prop := ∀ a o, H a = some o → a ∉ U → H' a = some o
theorem Keeps.refl (U : List Addr) (H : Hp) : Keeps U H H := fun _ _ h _ => h
theorem Ex.keeps {U : List Addr} {H H' : Hp} (e : Ex H H') : Keeps U H H' := fun a o h _ => e a o h
/-- a tuple of which no more is known -/
def RepW (K : Frag) (H : Hp) (P : Addr → Prop) : D → V → Prop
  | .tup ds, v => ∃ a xs, v = .ref a ∧ SqT K H a xs ∧ Reps K H P ds xs
  | d, v => Rep K H P d v
def RepB (t : Bool) (K : Frag) (H : Hp) (P : Addr → Prop) (d : D) (v : V) : Prop := if t = true then RepW K H P d v else Rep K H P d v
theorem Rep.w {K : Frag} {H : Hp} {P : Addr → Prop} {d : D} {v : V} (h : Rep K H P d v) : RepW K H P d v := by
  cases d <;> try exact h
  case tup ds =>
    simp only [Rep] at h
    obtain ⟨a, xs, e, hs, hr⟩ := h
    exact ⟨a, xs, e, hs.sq, hr⟩
theorem Rep.b {t : Bool} {K : Frag} {H : Hp} {P : Addr → Prop} {d : D} {v : V} (h : Rep K H P d v) : RepB t K H P d v := by
  unfold RepB
  split
  · exact h.w
  · exact h
def tpE : Expr → Bool
  | .Tuple _ _ _ => true
  | _ => false
def isTp : Tg → Bool
  | .tp _ => true
  | _ => false
variable (Γ)
structure WalkOk (t : Bool) (O U : List Addr) (J : It) (H1 : Hp) (xs : List D) : Prop where
  run : ∃ (G : Hp → Prop) (Y : Nat → Hp → V → Hp → Prop), Walk J xs.length G Y ∧ (∀ H2, Keeps U H1 H2 → G H2) ∧
    ∀ i H2 v H3, i < xs.length → Keeps U H1 H2 → Y i H2 v H3 → ∃ x, xs[i]? = some x ∧ Ex H2 H3 ∧ ∀ O2 : List Addr, (∀ a ∈ O2, a ∈ O ∨ H1 a = none) → RepB t Γ.K H3 (Pc Γ O2) x v
variable {Γ}
/-- the set that may change -/
structure US (O U : List Addr) (H : Hp) : Prop where
  sub : ∀ a ∈ U, a ∈ O
  mt : ∀ a ∈ U, Mut (H a)
theorem us_nil {O : List Addr} {H : Hp} : US O [] H := ⟨(fun a h => by cases h), (fun a h => by cases h)⟩
theorem RS.us {O : List Addr} {σ : Sg} {H : Hp} {ρ : Env} (rs : RS Γ O σ H ρ) : US O O H := ⟨fun _ h => h, fun a h => (rs.own a h).2⟩
theorem US.mv {O U : List Addr} {H H2 : Hp} (u : US O U H) (k : Keeps U H H2) : Mv (fun a => a ∈ U) H H2 := ⟨fun a o h n => k a o h n, fun a h => .inr (u.mt a h)⟩
theorem item_rep {O U : List Addr} {H1 H2 : Hp} {x : D} {v : V} (u : US O U H1) (k : Keeps U H1 H2) (h : Rep Γ.K H1 (Pc Γ O) x v) (O2 : List Addr) (ho : ∀ a ∈ O2, a ∈ O ∨ H1 a = none) : Rep Γ.K H2 (Pc Γ O2) x v :=
  Rep.move (u.mv k) (fun a p hu => p.1.1 (u.sub a hu)) (fun a p => ⟨fun q => (ho a q).elim p.1.1 p.2, p.1.2⟩) h.live
theorem walk_lst {t : Bool} {O U : List Addr} {a : Addr} {H1 : Hp} {ds : List D} {vs : List V} (u : US O U H1) (ha : H1 a = some (.lst vs)) (hr : Reps Γ.K H1 (Pc Γ O) ds vs) (hu : a ∉ U) : WalkOk Γ t O U (Itl Γ.K a) H1 ds := by
  refine ⟨_, _, by rw [hr.length]; exact walk_list (xs := vs), fun H2 k => SqL.of (k a _ ha hu), fun i H2 v H3 hi k y => ?_⟩
  obtain ⟨e, hv⟩ := y
  subst e
  obtain ⟨x, hx, rx⟩ := reps_getV hr hv
  exact ⟨x, hx, Ex.refl _, fun O2 ho => (item_rep u k rx O2 ho).b⟩
theorem walk_tpl {t : Bool} {O U : List Addr} {a : Addr} {H1 : Hp} {ds : List D} {vs : List V} (u : US O U H1) (ha : SqT Γ.K H1 a vs) (hr : Reps Γ.K H1 (Pc Γ O) ds vs) : WalkOk Γ t O U (Itt Γ.K a) H1 ds := by
  refine ⟨_, _, by rw [hr.length]; exact walk_tup (xs := vs), fun H2 k => (u.mv k).sqT ha, fun i H2 v H3 hi k y => ?_⟩
  obtain ⟨e, hv⟩ := y
  subst e
  obtain ⟨x, hx, rx⟩ := reps_getV hr hv
  exact ⟨x, hx, Ex.refl _, fun O2 ho => (item_rep u k rx O2 ho).b⟩
theorem walk_txt {t : Bool} {O U : List Addr} {H1 : Hp} {s : List Nat} : WalkOk Γ t O U (Its (mkS s)) H1 (s.map fun c => .str [c]) := by
  refine ⟨_, _, by rw [List.length_map, show s.length = (mkS s).cps.size by simp]; exact walk_str, fun H2 k => trivial, fun i H2 v H3 hi k y => ?_⟩
  obtain ⟨e, c, hc, hv⟩ := y
  subst e hv
  refine ⟨.str [c], ?_, Ex.refl _, fun O2 ho => ?_⟩
  · rw [List.getElem?_map]
    have : s[i]? = some c := by simpa using hc
    rw [this]; rfl
  · refine Rep.b ?_
    unfold Rep
    exact ⟨rfl, by rw [sizeLine_eq]; simp⟩
theorem walk_rng {t : Bool} {O U : List Addr} {H1 : Hp} {lo : Int} {n : Nat} : WalkOk Γ t O U (Itr lo n) H1 (rangeL lo n) := by
  refine ⟨_, _, by rw [show (rangeL lo n).length = n by simp [rangeL]]; exact walk_range, fun H2 k => trivial, fun i H2 v H3 hi k y => ?_⟩
  obtain ⟨e, hv⟩ := y
  subst e hv
  have hi' : i < n := by simpa [rangeL] using hi
  refine ⟨.int (lo + i), ?_, Ex.refl _, fun O2 ho => Rep.b (by simp [Rep])⟩
  unfold rangeL
  rw [List.getElem?_map, List.getElem?_range hi']
  rfl
theorem enumL_get : ∀ (xs : List D) (k i : Nat), (enumL k xs)[i]? = xs[i]?.map fun x => .tup [.int ((k + i : Nat) : Int), x]
  | [], k, i => by simp [enumL]
  | x :: r, k, 0 => by simp [enumL]
  | x :: r, k, i + 1 => by
    show (enumL (k + 1) r)[i]? = _
    rw [enumL_get r (k + 1) i]
    simp only [List.getElem?_cons_succ]
    congr 1
    funext y
    rw [show k + 1 + i = k + (i + 1) by omega]
theorem enumL_len : ∀ (xs : List D) (k : Nat), (enumL k xs).length = xs.length
  | [], _ => rfl
  | x :: r, k => by simp [enumL, enumL_len r (k + 1)]
theorem pair_rep {O2 : List Addr} {H : Hp} {T : Addr} {x y : D} {v u : V} (hT : H T = none) (hx : Rep Γ.K H (Pc Γ O2) x v) (hy : Rep Γ.K H (Pc Γ O2) y u) : RepB true Γ.K (upd H T (.tup [v, u])) (Pc Γ O2) (.tup [x, y]) (.ref T) := by
  have e : Ex H (upd H T (.tup [v, u])) := Ex.new hT
  exact ⟨T, [v, u], rfl, SqT.of upd_same, reps_cons.mpr ⟨hx.ex e, reps_cons.mpr ⟨hy.ex e, reps_nil⟩⟩⟩
theorem walk_enumL {O U : List Addr} {a : Addr} {H1 : Hp} {ds : List D} {vs : List V} (u : US O U H1) (ha : H1 a = some (.lst vs)) (hr : Reps Γ.K H1 (Pc Γ O) ds vs) (hu : a ∉ U) : WalkOk Γ true O U (Ite Γ.K a) H1 (enumL 0 ds) := by
  refine ⟨_, _, by rw [enumL_len, hr.length]; exact walk_enum (xs := vs), fun H2 k => SqL.of (k a _ ha hu), fun i H2 v H3 hi k y => ?_⟩
  obtain ⟨T, x, y, rfl, hT, rfl, hx, hy⟩ := y
  cases hx
  obtain ⟨d, hd, rd⟩ := reps_getV hr hy
  refine ⟨.tup [.int i, d], by rw [enumL_get, hd]; simp, Ex.new hT, fun O2 ho => pair_rep hT (by simp [Rep]) (item_rep u k rd O2 ho)⟩
theorem walk_enumT {O U : List Addr} {H1 : Hp} {s : List Nat} : WalkOk Γ true O U (Itx (mkS s)) H1 (enumL 0 (s.map fun c => .str [c])) := by
  refine ⟨_, _, by rw [enumL_len, List.length_map, show s.length = (mkS s).cps.size by simp]; exact walk_enumS, fun H2 k => trivial, fun i H2 v H3 hi k y => ?_⟩
  obtain ⟨T, c, rfl, hT, rfl, hc⟩ := y
  have : s[i]? = some c := by simpa using hc
  refine ⟨.tup [.int i, .str [c]], by rw [enumL_get, List.getElem?_map, this]; simp, Ex.new hT, fun O2 ho => pair_rep hT (by simp [Rep]) ?_⟩
  unfold Rep
  exact ⟨rfl, by rw [sizeLine_eq]; simp⟩
theorem zipL_get : ∀ (xs ys : List D) (i : Nat), (zipL xs ys)[i]? = (xs[i]?).bind fun x => (ys[i]?).map fun y => .tup [x, y]
  | [], ys, i => by simp [zipL]
  | x :: xs, [], i => by cases i <;> simp [zipL]
  | x :: xs, y :: ys, 0 => by simp [zipL]
  | x :: xs, y :: ys, i + 1 => by
    show (zipL xs ys)[i]? = _
    rw [zipL_get xs ys i]
    simp
theorem zipL_len : ∀ (xs ys : List D), (zipL xs ys).length = min xs.length ys.length
  | [], ys => by simp [zipL]
  | x :: xs, [] => by simp [zipL]
  | x :: xs, y :: ys => by simp only [zipL, List.length_cons, zipL_len xs ys]; omega
theorem walk_zipL {O U : List Addr} {a b : Addr} {H1 : Hp} {ds es : List D} {vs us : List V} (u : US O U H1) (ha : H1 a = some (.lst vs)) (hr : Reps Γ.K H1 (Pc Γ O) ds vs) (hu : a ∉ U) (hb : H1 b = some (.lst us)) (hs : Reps Γ.K H1 (Pc Γ O) es us) (hv : b ∉ U) : WalkOk Γ true O U (Itz Γ.K a b) H1 (zipL ds es) := by
  refine ⟨_, _, walk_zip (xs := vs) (ys := us) (by rw [zipL_len, hr.length, hs.length]), fun H2 k => ⟨SqL.of (k a _ ha hu), SqL.of (k b _ hb hv)⟩, fun i H2 v H3 hi k y => ?_⟩
  obtain ⟨T, x, y, rfl, hT, rfl, hx, hy⟩ := y
  obtain ⟨d, hd, rd⟩ := reps_getV hr hx
  obtain ⟨e, he, re⟩ := reps_getV hs hy
  exact ⟨.tup [d, e], by rw [zipL_get, hd, he]; rfl, Ex.new hT, fun O2 ho => pair_rep hT (item_rep u k rd O2 ho) (item_rep u k re O2 ho)⟩
theorem walk_zipT2 {O U : List Addr} {H1 : Hp} {s t : List Nat} : WalkOk Γ true O U (Itzs (mkS s) (mkS t)) H1 (zipL (s.map fun c => .str [c]) (t.map fun c => .str [c])) := by
  refine ⟨_, _, walk_zipS (by rw [zipL_len, List.length_map, List.length_map]; simp), fun H2 k => trivial, fun i H2 v H3 hi k y => ?_⟩
  obtain ⟨T, c, d, rfl, hT, rfl, hc, hd⟩ := y
  have h1 : s[i]? = some c := by simpa using hc
  have h2 : t[i]? = some d := by simpa using hd
  refine ⟨.tup [.str [c], .str [d]], by rw [zipL_get, List.getElem?_map, List.getElem?_map, h1, h2]; rfl, Ex.new hT, fun O2 ho => pair_rep hT ?_ ?_⟩
  · unfold Rep
    exact ⟨rfl, by rw [sizeLine_eq]; simp⟩
  · unfold Rep
    exact ⟨rfl, by rw [sizeLine_eq]; simp⟩
/-! ### sources -/
def srcFar (ks : List Kd) : Src → Bool
  | .e a => farB ks a
  | .enum a => farB ks a
  | .zip a b => farB ks a && farB ks b
  | _ => true
variable (Γ)
def TIm (t : Bool) (src : Src) : TI := fun σ H R => ∃ ρ O, RS Γ O σ H ρ ∧ Fin Γ σ H (its Γ.cf src ρ) fun xs => ∀ J H1, Ex H H1 → xs.length ≤ sizeLine → WalkOk Γ t O [] J H1 xs → (srcFar Γ.ks src = true → WalkOk Γ t O O J H1 xs) → R J H1
def SI (src : Src) (tg iter : Expr) : Prop := PI Γ.X tg iter (TIm Γ (tpE tg) src)
variable {Γ}
theorem PI.wk {X : Cx} {tg e : Expr} {t t' : TI} (h : PI X tg e t) (w : ∀ σ H R, t' σ H R → t σ H R) : PI X tg e t' := ⟨fun pins s σ H Q I q => h.run pins s σ H Q I (w σ H Q q)⟩
theorem PI.orr {X : Cx} {tg e : Expr} {t t' : TI} (h : PI X tg e t) (h' : PI X tg e t') : PI X tg e (fun σ H R => t σ H R ∨ t' σ H R) :=
  ⟨fun pins s σ H Q I q => q.elim (h.run pins s σ H Q I) (h'.run pins s σ H Q I)⟩
def LenOk (K : Frag) (H : Hp) : Prop := ∀ (a : Addr) (xs : List V), SqL K H a xs ∨ SqT K H a xs → xs.length ≤ sizeLine
theorem lenOk {X : Cx} {pins : List (Addr × Obj)} {s : Shared} {σ : Sg} {H : Hp} (I : Inv X pins σ H s) : LenOk X.K H := fun a xs h => by
  rcases h with h | h
  · obtain ⟨_, _, _, hz⟩ := I.list h
    exact hz
  · obtain ⟨_, _, _, hz⟩ := I.tuple h
    exact hz
theorem PI.len {X : Cx} {tg e : Expr} {t : TI} (h : PI X tg e t) : PI X tg e (fun σ H R => t σ H fun J H1 => LenOk X.K H1 → R J H1) :=
  ⟨fun pins s σ H R I q => L2.thn (h.run pins s σ H _ I q) fun v s1 hv => L2.thn hv fun u s2 hu => by
    obtain ⟨it, fp, tn, J, H', e1, I1, t1, t2, f1, r1⟩ := hu
    exact ⟨it, fp, tn, J, H', e1, I1, t1, t2, f1, r1 (lenOk I1)⟩⟩
theorem PE.len {X : Cx} {e : Expr} {t : TE} (h : PE X e t) : PE X e (fun σ H Q => t σ H fun v H1 => LenOk X.K H1 → Q v H1) :=
  ⟨fun pins s σ H Q I q => L2.thn (h.run pins s σ H _ I q) fun u s1 ⟨v, H1, I1, r1, q1⟩ => ⟨v, H1, I1, r1, q1 (lenOk I1)⟩⟩
theorem si_e {a : E} {tg x : Expr} (ha : SE Γ a x) : SI Γ (.e a) tg x :=
  PI.wk (PI.len (PI.orr (pi_list ha) (PI.orr (pi_tup ha) (pi_str ha)))) fun σ H R h => by
    obtain ⟨ρ, O, rs, h⟩ := h
    simp only [its] at h
    cases e : ev Γ.cf a ρ with
    | err c => rw [e] at h; exact .inl ⟨ρ, O, rs, by rw [e]; exact h⟩
    | bad => rw [e] at h; exact h.elim
    | ok d =>
      rw [e] at h
      cases d <;> simp only [Res.bind_ok, itemsOf, ofO] at h <;> try (exact h.elim)
      case lst ds =>
        refine .inl ⟨ρ, O, rs, ?_⟩
        rw [e]
        intro v H1 e1 o1
        obtain ⟨b, xs, ex, hb, hr⟩ := o1.one
        subst ex
        exact ⟨b, rfl, ⟨xs, SqL.of hb⟩, fun lo => h _ _ e1 (by rw [hr.length]; exact lo b xs (.inl (SqL.of hb))) (walk_lst us_nil hb hr (by simp)) fun hf => walk_lst (rs.ext e1).us hb hr (o1.far hf b rfl)⟩
      case tup ds =>
        refine .inr (.inl ⟨ρ, O, rs, ?_⟩)
        rw [e]
        intro v H1 e1 o1
        have o1' := o1.one
        simp only [Rep1, Rep] at o1'
        obtain ⟨b, xs, ex, hb, hr⟩ := o1'
        subst ex
        exact ⟨b, rfl, ⟨xs, hb.sq⟩, fun lo => h _ _ e1 (by rw [hr.length]; exact lo b xs (.inr hb.sq)) (walk_tpl us_nil hb.sq hr) fun hf => walk_tpl (rs.ext e1).us hb.sq hr⟩
      case str s =>
        refine .inr (.inr ⟨ρ, O, rs, ?_⟩)
        rw [e]
        intro v H1 e1 o1
        have o1' := o1.one
        simp only [Rep1, Rep] at o1'
        exact ⟨mkS s, o1'.1, fun _ => h _ _ e1 (by rw [List.length_map]; exact o1'.2) walk_txt fun _ => walk_txt⟩
theorem si_r1 {a : E} {tg x : Expr} {p pos : Pos} (hg : Gl Γ.X "range") (hm : Γ.X.mg "range" = none) (ha : SE Γ a x) (hs : noStar x = true) : SI Γ (.r1 a) tg (.Call (.Name "range" p) [x] [] pos) :=
  PI.wk (pi_range1 hg hm (pa_cons ha pa_nil (star_of hs)) (star_of hs)) fun σ H R h => by
    obtain ⟨ρ, O, rs, h⟩ := h
    simp only [its] at h
    refine ⟨ρ, O, rs, h.bnd.mono fun d ed hd v H1 e1 o1 => ?_⟩
    have hd' : Fin Γ σ H ((asInt d).bind fun j => if j ≤ 4000000 ∧ -4000000 ≤ j then .ok (rangeL 0 j.toNat) else .bad) _ := hd
    cases d <;> simp only [asInt, Res.bind_bad, Res.bind_ok] at hd' <;> try exact hd'.elim
    case int j =>
      have := o1.one
      simp only [Rep1, Rep] at this
      subst this
      split at hd'
      · rename_i hj
        exact ⟨j, rfl, by omega, by omega, hd' _ _ e1 (by rw [show (rangeL 0 j.toNat).length = j.toNat by simp [rangeL], sizeLine_eq]; omega) walk_rng fun _ => walk_rng⟩
      · exact hd'.elim
theorem si_r2 {a b : E} {tg x y : Expr} {p pos : Pos} (hg : Gl Γ.X "range") (hm : Γ.X.mg "range" = none) (ha : SE Γ a x) (hb : SE Γ b y) (hs : noStar x = true) (ht : noStar y = true) : SI Γ (.r2 a b) tg (.Call (.Name "range" p) [x, y] [] pos) :=
  PI.wk (pi_range2 hg hm (pa_cons ha (pa_cons hb pa_nil (star_of ht)) (star_of hs)) (by rw [star_of hs, star_of ht]; rfl) (star_of ht)) fun σ H R h => by
    obtain ⟨ρ, O, rs, h⟩ := h
    simp only [its] at h
    refine ⟨ρ, O, rs, h.bnd.mono fun d ed hd v H1 e1 o1 => ?_⟩
    refine ⟨ρ, O, rs.ext e1, (Fin.bnd hd).imp e1 fun d2 ed2 hd2 u H2 e2 o2 => ?_⟩
    have hd' : Fin Γ σ H ((asInt d).bind fun i => (asInt d2).bind fun j => if j ≤ 4000000 ∧ -4000000 ≤ j ∧ i ≤ 4000000 ∧ -4000000 ≤ i then .ok (rangeL i (j - i).toNat) else .bad) _ := hd2
    cases d <;> simp only [asInt, Res.bind_bad, Res.bind_ok] at hd' <;> try exact hd'.elim
    case int i =>
      cases d2 <;> simp only [asInt, Res.bind_bad, Res.bind_ok] at hd' <;> try exact hd'.elim
      case int j =>
        have h1 := o1.one
        have h2 := o2.one
        simp only [Rep1, Rep] at h1 h2
        subst h1 h2
        split at hd'
        · rename_i hj
          exact ⟨i, j, rfl, by omega, hd' _ _ (e1.trans e2) (by rw [show (rangeL i (j - i).toNat).length = (j - i).toNat by simp [rangeL], sizeLine_eq]; omega) walk_rng fun _ => walk_rng⟩
        · exact hd'.elim
theorem si_zip {a b : E} {x y : Expr} {p pos tpos : Pos} {elts : List Expr} {kk : Nat} (hg : Gl Γ.X "zip") (hm : Γ.X.mg "zip" = none) (ha : SE Γ a x) (hb : SE Γ b y) (hs : noStar x = true) (ht : noStar y = true) : SI Γ (.zip a b) (.Tuple elts kk tpos) (.Call (.Name "zip" p) [x, y] [] pos) :=
  PI.wk (PI.len (PI.orr (pi_zip hg hm (pa_cons ha (pa_cons hb pa_nil (star_of ht)) (star_of hs)) (star_of hs) (by rw [star_of ht]; rfl)) (pi_zipS hg hm (pa_cons ha (pa_cons hb pa_nil (star_of ht)) (star_of hs)) (star_of hs) (by rw [star_of ht]; rfl)))) fun σ H R h => by
    obtain ⟨ρ, O, rs, h⟩ := h
    simp only [its] at h
    have fd : ∀ {d d2 : D} {k : List D → Prop}, Fin Γ σ H (ofO (zipD d d2)) k → (∃ xs ys, d = .lst xs ∧ d2 = .lst ys) ∨ ∃ s t, d = .str s ∧ d2 = .str t := fun {d d2 k} q => by
      cases d <;> cases d2 <;> simp only [zipD, ofO] at q <;> first | exact q.elim | exact .inl ⟨_, _, rfl, rfl⟩ | exact .inr ⟨_, _, rfl, rfl⟩
    by_cases hc : ∃ s, ev Γ.cf a ρ = .ok (.str s)
    · obtain ⟨s, hc⟩ := hc
      right
      refine ⟨ρ, O, rs, h.bnd.mono fun d ed hd v H1 e1 o1 => ?_⟩
      rw [hc] at ed
      cases ed
      refine ⟨ρ, O, rs.ext e1, (Fin.bnd hd).imp e1 fun d2 ed2 hd2 u H2 e2 o2 => ?_⟩
      have hd' : Fin Γ σ H (ofO (zipD (.str s) d2)) _ := hd2
      rcases fd hd' with ⟨_, _, z, _⟩ | ⟨s', t, z, rfl⟩
      · cases z
      · cases z
        have r1 := o1.one.ex e2
        have r2 := o2.one
        simp only [Rep1, Rep] at r1 r2
        obtain ⟨rfl, l1⟩ := r1
        obtain ⟨rfl, l2⟩ := r2
        refine ⟨mkS s, mkS t, rfl, fun lo => hd' _ _ (e1.trans e2) ?_ walk_zipT2 fun _ => walk_zipT2⟩
        rw [zipL_len, List.length_map, List.length_map]
        omega
    · left
      refine ⟨ρ, O, rs, h.bnd.mono fun d ed hd v H1 e1 o1 => ?_⟩
      refine ⟨ρ, O, rs.ext e1, (Fin.bnd hd).imp e1 fun d2 ed2 hd2 u H2 e2 o2 => ?_⟩
      have hd' : Fin Γ σ H (ofO (zipD d d2)) _ := hd2
      rcases fd hd' with ⟨ds, es, rfl, rfl⟩ | ⟨s, t, rfl, rfl⟩
      · obtain ⟨l, xs, ex, hl, hr⟩ := o1.one.ex e2
        obtain ⟨l2, ys, ey, hl2, hr2⟩ := o2.one
        subst ex ey
        refine ⟨l, l2, xs, ys, rfl, SqL.of hl, SqL.of hl2, fun lo => hd' _ _ (e1.trans e2) ?_ (walk_zipL us_nil hl hr (by simp) hl2 hr2 (by simp)) fun hf => ?_⟩
        · rw [zipL_len]
          have := lo l xs (.inl (SqL.of hl))
          have := hr.length
          omega
        · have hf' : farB Γ.ks a = true ∧ farB Γ.ks b = true := by simpa [srcFar] using hf
          exact walk_zipL ((rs.ext e1).ext e2).us hl hr (o1.far hf'.1 l rfl) hl2 hr2 (o2.far hf'.2 l2 rfl)
      · exact absurd ⟨s, ed⟩ hc
end VE

/-! enumerate(a tuple); a dict walked. -/
namespace VE
open PySem PySem.Spec PyProof.Rows L2
variable {Γ : Ctx}
def Itet (K : Frag) (a : Addr) (xs : List V) : It :=
  ⟨fun i H => SqT K H a xs ∧ i < xs.length, fun i H v H' => ∃ T x, v = .ref T ∧ H T = none ∧ H' = upd H T (.tup [.int (i : Nat), x]) ∧ xs[i]? = some x, fun i H => SqT K H a xs ∧ xs.length ≤ i⟩
theorem turn_enumT {P : Program} {w : World} {K : Frag} {elts : List Expr} {kk : Nat} {tpos : Pos} (a : Addr) (xs : List V) (e it : Addr) (hea : e ≠ a) (hia : a ≠ it) :
    Turn P w K (.Tuple elts kk tpos) (Itet K a xs) [e, it] e (fun i h => (∃ old, IsEnum h e it ((i : Nat) : Int) old) ∧ h.IsTupleIter it a i ∧ e ≠ it ∧ i ≤ xs.length) where
  mem := by simp
  obj := fun i h st b hb => by
    obtain ⟨⟨old, he⟩, ⟨o, ho, hc, hd⟩, _⟩ := st
    have e' : b = e ∨ b = it := by simpa using hb
    rcases e' with z | z
    · rw [z]; exact ⟨_, he, fun v q => nomatch q⟩
    · rw [z]; exact ⟨o, ho, fun v q => by rw [hd] at q; cases q⟩
  keep := fun i h h' st k => by
    obtain ⟨⟨old, he⟩, ⟨o, ho, r⟩, hne⟩ := st
    exact ⟨⟨old, k e (by simp) _ he⟩, ⟨o, k it (by simp) o ho, r⟩, hne⟩
  item := by
    intro X hP hw hK hc i pins s σ H E I hf st hg
    subst hP hw hK
    obtain ⟨⟨old, he⟩, hit, hne, hle⟩ := st
    obtain ⟨hq, hi⟩ := hg
    obtain ⟨its, rv, p, hz⟩ := I.tuple hq
    have hlen := rv.length
    have hel : e < s.heap.objs.size := Heap.lt_size he
    have hil : it < s.heap.objs.size := by obtain ⟨_, q, _⟩ := hit; exact Heap.lt_size q
    have hh : X.A.in1.handled = none := I.ok.hd hc
    refine PySem.wpAny_pyNext_enum_itemC (Draws.tuple hh it a hia its.toArray) he ⟨hit, p⟩ (by simp only [List.size_toArray]; omega) hne (by simp only [List.mem_cons, List.not_mem_nil, or_false, not_or]; exact ⟨hne, hea⟩) fun u h' tk hP ho hit' hT hsz hk => ?_
    obtain ⟨x, hx⟩ : ∃ x, xs[i]? = some x := ⟨xs[i], List.getElem?_eq_getElem hi⟩
    obtain ⟨u', hu', ru⟩ := rv.get hx
    have hP' : its.toArray[i]? = some u := hP
    have eu : u = u' := by
      have : its[i]? = some u := by simpa using hP'
      rw [hu'] at this
      injection this with q
      exact q.symm
    subst eu
    refine ⟨_, rfl, wpAny_letOwnedTupleGo_enum (s := { s with heap := h', toks := tk + 1 }) ho fun h2 he' sb => ?_⟩
    have hT2 : h2.get? s.heap.objs.size = some { cls := .type "tuple", data := .seq #[.int i tk, u] } := (sb.2 _ (Nat.ne_of_gt hel)).trans hT
    have new : ObjOk X.prog X.w (upd H s.heap.objs.size (.tup [.int (i : Nat), x])) h2 s.heap.objs.size (.tup [.int (i : Nat), x]) :=
      ⟨by show 2 ≤ sizeLine; decide, [.int i tk, u], .cons ⟨_, rfl⟩ (.cons ru .nil), ⟨_, hT2, rfl, _, rfl⟩⟩
    have I1 : Inv X pins σ (upd H s.heap.objs.size (.tup [.int (i : Nat), x])) { s with heap := h2, toks := tk + 1 } :=
      I.turnedNew (ch := [e, it]) (fun b ob hb q => (sb.2 b (fun z => hb (by simp [z]))).trans (hk b ob (fun z => hb (by simp [z])) (fun z => hb (by simp [z])) q)) hf (Nat.le_refl _) new
    refine ⟨.ref s.heap.objs.size, _, I1, rfl, ⟨_, x, rfl, I.hok.fresh (Nat.le_refl _), rfl, hx⟩, ⟨⟨u, ?_⟩, ?_, hne, hi⟩, fun b hb => ?_⟩
    · have e1 : ((i + 1 : Nat) : Int) = (i : Int) + 1 := by omega
      rw [e1]; exact he'
    · exact hit'.1.at fun o q => (sb.2 it (Ne.symm hne)).trans q
    · have hb' : b < s.heap.objs.size := by
        have e' : b = e ∨ b = it := by simpa using hb
        rcases e' with z | z
        · rw [z]; exact hel
        · rw [z]; exact hil
      rw [upd_ne (Nat.ne_of_lt hb')]
      exact (hf b hb).1
  done := by
    intro X hP hw hK hc i pins s σ H E I hf st hg
    subst hP hw hK
    obtain ⟨⟨old, he⟩, hit, hne, hle⟩ := st
    obtain ⟨hq, hi⟩ := hg
    obtain ⟨its, rv, p, hz⟩ := I.tuple hq
    have hlen := rv.length
    have hi2 : i = its.toArray.size := by simp only [List.size_toArray]; omega
    subst hi2
    obtain ⟨f0, f1, f2, f3, f4, f5⟩ := hf it (by simp)
    have hh : X.A.in1.handled = none := I.ok.hd hc
    exact wpAny_pyNext_enum_endD (Draws.tuple hh it a hia its.toArray) he ⟨hit, p⟩ fun h' eb => ⟨rfl, I.turned (t' := s.toks) (fun b o hb q => eb b o hb q) f0 f1 f3 f4 f5⟩
  self := fun A i s Q E st h => by
    obtain ⟨⟨_, he⟩, _⟩ := st
    exact wpAny_pyIter_enum he h
theorem meets_enumT (t : Addr) (items : Array Value) :
    Meets (Builtin.«enumerate.__new__» ⟨[.type "enumerate", .ref t], []⟩) (fun _ R s => s.heap.IsTuple t items ∧
      R (.ok (.ret (.ref (s.heap.push { cls := .type "tuple_iterator", data := .fields #[.ref t, .int 0 0] }).objs.size)))
        { s with heap := (s.heap.push { cls := .type "tuple_iterator", data := .fields #[.ref t, .int 0 0] }).push { cls := .type "enumerate", data := .fields #[.none, .bool false, .ref s.heap.objs.size, rawInt 0, .none, .none] } }) :=
  .of_wp fun prog w A R s h => by
    obtain ⟨hp, g, d, tk, os⟩ := s; obtain ⟨h1, h⟩ := h
    have hsub := sub_enumerate
    have B := begins_tuple t items
    have q1 : ∀ {A' : Around} {E : Value → Shared → Prop} {Q : Value → Shared → Prop}, Q (.ref hp.objs.size) ⟨hp.push { cls := .type "tuple_iterator", data := .fields #[.ref t, .int 0 0] }, g, d, tk, os⟩ → wpAny (model prog w) A' (pyIter (.ref t)) Q E ⟨hp, g, d, tk, os⟩ :=
      fun q => B.iter prog w _ _ ⟨hp, g, d, tk, os⟩ _ h1 q
    wp_walk
    refine wpAny_stack_any fun st => wpAny_pure ?_
    split
    · rename_i c _ _ _ _ _
      cases (c == Value.type "enumerate")
      · wp_walk using q1
        exact ⟨_, rfl, h⟩
      · wp_walk using q1
        exact ⟨_, rfl, h⟩
    · wp_walk using q1
      exact ⟨_, rfl, h⟩
theorem call_enumT {prog : Program} {w : World} {A : Around} {E : Value → Shared → Prop} {s : Shared} {t : Addr} {items : Array Value} {Q : Value → Shared → Prop} (ht : s.heap.IsTuple t items)
    (h : ∀ h', IsEnum h' (s.heap.objs.size + 1) s.heap.objs.size 0 .none → h'.IsTupleIter s.heap.objs.size t 0 → h'.objs.size = s.heap.objs.size + 2 →
      (∀ b o, s.heap.get? b = some o → h'.get? b = some o) → Q (.ref (s.heap.objs.size + 1)) { s with heap := h' }) :
    wpAny (model prog w) A (call (.type "enumerate") [.ref t]) Q E s := by
  refine callType_new F.called_enumerate (by decide) (F.typeCall_enumerate_1 _) (F.newCall_enumerate_1 _) (fun obj => F.args_object_init_2 obj _) F.entry_enumerate_new
    (meets_enumT t items) ⟨ht, ?_⟩
  have hz : (s.heap.push { cls := .type "tuple_iterator", data := .fields #[.ref t, .int 0 0] }).objs.size = s.heap.objs.size + 1 := Heap.size_push ..
  show _ ∧ _
  rw [hz]
  have he : IsEnum ((s.heap.push { cls := .type "tuple_iterator", data := .fields #[.ref t, .int 0 0] }).push { cls := .type "enumerate", data := .fields #[.none, .bool false, .ref s.heap.objs.size, rawInt 0, .none, .none] }) (s.heap.objs.size + 1) s.heap.objs.size 0 .none := by
    have := Heap.get?_push_size (s.heap.push { cls := .type "tuple_iterator", data := .fields #[.ref t, .int 0 0] }) (o := { cls := .type "enumerate", data := .fields #[.none, .bool false, .ref s.heap.objs.size, rawInt 0, .none, .none] }) rfl
    rw [hz] at this; exact this
  exact ⟨⟨_, he, rfl⟩, h _ he ⟨_, Heap.get?_push_of_some _ (Heap.get?_push_size _ rfl), rfl, rfl⟩ (by rw [Heap.size_push, hz]) fun b o x => Heap.get?_push_of_some _ (Heap.get?_push_of_some _ x)⟩
def iEnumT (K : Frag) (te : TE) : TI := fun σ H R => te σ H fun v H1 => ∃ a xs, v = .ref a ∧ SqT K H1 a xs ∧ R (Itet K a xs) H1
theorem pi_enumT {X : Cx} {e : Expr} {te : TE} {p pos tpos : Pos} {elts : List Expr} {kk : Nat} (hg : Gl X "enumerate") (hm : X.mg "enumerate" = none) (he : PE X e te) (hs : noStar e = true) :
    PI X (.Tuple elts kk tpos) (.Call (.Name "enumerate" p) [e] [] pos) (iEnumT X.K te) := by
  refine ⟨fun pins s σ H R I h => ?_⟩
  refine Call_ (ld_blt I hg hm boot_enumerate (PyProof.Rows.callWith_type1 ?_ (star_of hs) rfl))
  rw [star_of hs]
  refine Calls.spliced_cons (L2.thn (he.run pins s σ H _ I h) fun u s1 ⟨v, H1, I1, rv, a, xs, ex, hq, q⟩ => Calls.spliced_nil ?_)
  subst ex
  cases rv
  obtain ⟨its, rvs, p1, hz⟩ := I1.tuple hq
  have hal : a < s1.heap.objs.size := by obtain ⟨o, ho, _⟩ := id p1; exact Heap.lt_size ho
  refine call_enumT (show s1.heap.IsTuple a its.toArray from p1) fun h' he hit hsz hk => wpAny_pyIter_enum he ?_
  have I2 : Inv X pins σ H1 { s1 with heap := h' } := I1.kept (t' := s1.toks) hk
  refine ⟨s1.heap.objs.size + 1, [s1.heap.objs.size + 1, s1.heap.objs.size], _, _, H1, rfl, I2, turn_enumT a xs (s1.heap.objs.size + 1) s1.heap.objs.size (Nat.ne_of_gt (Nat.lt_succ_of_lt hal)) (Nat.ne_of_lt hal), ⟨⟨.none, he⟩, hit, Nat.succ_ne_self _, Nat.zero_le _⟩, fun b hb => ?_, q⟩
  have e' : b = s1.heap.objs.size + 1 ∨ b = s1.heap.objs.size := by simpa using hb
  have hle : s1.heap.objs.size ≤ b := by
    rcases e' with z | z
    · rw [z]; exact Nat.le_add_right _ _
    · rw [z]; exact Nat.le_refl _
  exact I1.fpOk hle (I1.hok.fresh hle)
theorem walk_enumTT {K : Frag} {a : Addr} {xs : List V} : Walk (Itet K a xs) xs.length (fun H => SqT K H a xs) (fun i H v H' => ∃ T x, v = .ref T ∧ H T = none ∧ H' = upd H T (.tup [.int (i : Nat), x]) ∧ xs[i]? = some x) :=
  ⟨fun i H hi h => ⟨h, hi⟩, fun H h => ⟨h, Nat.le_refl _⟩, fun i H v H' _ _ h => h⟩
theorem walk_enumTp {O U : List Addr} {a : Addr} {H1 : Hp} {ds : List D} {vs : List V} (u : US O U H1) (ha : SqT Γ.K H1 a vs) (hr : Reps Γ.K H1 (Pc Γ O) ds vs) : WalkOk Γ true O U (Itet Γ.K a vs) H1 (enumL 0 ds) := by
  refine ⟨_, _, by rw [enumL_len, hr.length]; exact walk_enumTT, fun H2 k => (u.mv k).sqT ha, fun i H2 v H3 hi k y => ?_⟩
  obtain ⟨T, x, rfl, hT, rfl, hx⟩ := y
  obtain ⟨d, hd, rd⟩ := reps_getV hr hx
  refine ⟨.tup [.int i, d], by rw [enumL_get, hd]; simp, Ex.new hT, fun O2 ho => pair_rep hT (by simp [Rep]) (item_rep u k rd O2 ho)⟩
theorem si_enumA {a : E} {x : Expr} {p pos tpos : Pos} {elts : List Expr} {kk : Nat} (hg : Gl Γ.X "enumerate") (hm : Γ.X.mg "enumerate" = none) (ha : SE Γ a x) (hs : noStar x = true) : SI Γ (.enum a) (.Tuple elts kk tpos) (.Call (.Name "enumerate" p) [x] [] pos) :=
  PI.wk (PI.len (PI.orr (pi_enum hg hm (pa_cons ha pa_nil (star_of hs)) (star_of hs)) (PI.orr (pi_enumS hg hm ha hs) (pi_enumT hg hm ha hs)))) fun σ H R h => by
    obtain ⟨ρ, O, rs, h⟩ := h
    simp only [its] at h
    cases e : ev Γ.cf a ρ with
    | err c => rw [e] at h; exact .inr (.inl ⟨ρ, O, rs, by rw [e]; exact h⟩)
    | bad => rw [e] at h; exact h.elim
    | ok d =>
      rw [e] at h
      cases d <;> simp only [Res.bind_ok, itemsE, ofO] at h <;> try (exact h.elim)
      case lst ds =>
        refine .inl ⟨ρ, O, rs, ?_⟩
        rw [e]
        intro v H1 e1 o1
        obtain ⟨b, xs, ex, hb, hr⟩ := o1.one
        subst ex
        exact ⟨b, xs, rfl, SqL.of hb, fun lo => h _ _ e1 (by rw [enumL_len, hr.length]; exact lo b xs (.inl (SqL.of hb))) (walk_enumL us_nil hb hr (by simp)) fun hf => walk_enumL (rs.ext e1).us hb hr (o1.far hf b rfl)⟩
      case tup ds =>
        refine .inr (.inr ⟨ρ, O, rs, ?_⟩)
        rw [e]
        intro v H1 e1 o1
        have o1' := o1.one
        simp only [Rep1, Rep] at o1'
        obtain ⟨b, xs, ex, hb, hr⟩ := o1'
        subst ex
        exact ⟨b, xs, rfl, hb.sq, fun lo => h _ _ e1 (by rw [enumL_len, hr.length]; exact lo b xs (.inr hb.sq)) (walk_enumTp us_nil hb.sq hr) fun hf => walk_enumTp (rs.ext e1).us hb.sq hr⟩
      case str s =>
        refine .inr (.inl ⟨ρ, O, rs, ?_⟩)
        rw [e]
        intro v H1 e1 o1
        have o1' := o1.one
        simp only [Rep1, Rep] at o1'
        exact ⟨mkS s, o1'.1, fun _ => h _ _ e1 (by rw [enumL_len, List.length_map]; exact o1'.2) walk_enumT fun _ => walk_enumT⟩
/-! ### a dict that nobody changes, walked -/
theorem PE.frz {X : Cx} {e : Expr} {t : TE} (h : PE X e t) : PE X e (fun σ H Q => t σ H fun v H1 => ∃ a kvs, v = .ref a ∧ H1 a = some (.dK kvs) ∧ ∀ od, Q v (upd H1 a (.frz od (.dK kvs)))) :=
  ⟨fun pins s σ H Q I q => L2.thn (h.run pins s σ H _ I q) fun u s1 ⟨v, H1, I1, r1, a, kvs, ev, ha, hq⟩ => by
    obtain ⟨od, I2⟩ := I1.lock ha trivial
    exact ⟨v, _, I2, r1, hq od⟩⟩
def DLen (H : Hp) : Prop := ∀ (a : Addr) (kvs : List (Key × V)), Rd H a (.dK kvs) → kvs.length ≤ sizeLine
theorem dLen {X : Cx} {pins : List (Addr × Obj)} {s : Shared} {σ : Sg} {H : Hp} (I : Inv X pins σ H s) : DLen H := fun a kvs h => by
  obtain ⟨hz, _⟩ := dk_rd I.hok h
  exact hz
theorem PI.dlen {X : Cx} {tg e : Expr} {t : TI} (h : PI X tg e t) : PI X tg e (fun σ H R => t σ H fun J H1 => DLen H1 → R J H1) :=
  ⟨fun pins s σ H R I q => L2.thn (h.run pins s σ H _ I q) fun v s1 hv => L2.thn hv fun u s2 hu => by
    obtain ⟨it, fp, tn, J, H', e1, I1, t1, t2, f1, r1⟩ := hu
    exact ⟨it, fp, tn, J, H', e1, I1, t1, t2, f1, r1 (dLen I1)⟩⟩
theorem US.frz {O U : List Addr} {H H2 : Hp} (u : US O U H) (k : Keeps U H H2) {d : Addr} {o : Obj} {x : HO} (h : H d = some (.frz o x)) : H2 d = some (.frz o x) := k d _ h fun z => by
  have := u.mt d z
  rw [h] at this
  exact this
theorem key_rep {K : Frag} {H : Hp} {P : Addr → Prop} {kvs : List (Key × V)} {ks : List D} (h : KsOf kvs ks) {i : Nat} {k : Key} {v : V} (e : kvs[i]? = some (k, v)) : ks[i]? = some (kD k) ∧ Rep K H P (kD k) (kV k) := by
  refine ⟨?_, ?_⟩
  · rw [← h.eq, List.getElem?_map, e]; rfl
  · have hs := h.short _ (List.mem_of_getElem? e)
    cases k with
    | inl i => simp only [kD, kV, Rep]
    | inr x =>
      have := hs x rfl
      simp only [kD, kV, Rep]
      exact ⟨trivial, by simpa [PySem.Str.length] using this⟩
theorem walk_kd {t : Bool} {O U : List Addr} {d : Addr} {o : Obj} {H1 : Hp} {kvs : List (Key × V)} {ks : List D} (u : US O U H1) (hd : H1 d = some (.frz o (.dK kvs))) (hk : KsOf kvs ks) : WalkOk Γ t O U (Itk d o kvs) H1 ks := by
  refine ⟨_, _, by rw [← hk.eq, List.length_map]; exact walk_keys, fun H2 k => u.frz k hd, fun i H2 v H3 hi k y => ?_⟩
  obtain ⟨rfl, key, w, e, rfl⟩ := y
  obtain ⟨h1, _⟩ := key_rep (K := Γ.K) (H := H1) (P := fun _ => True) hk e
  exact ⟨kD key, h1, Ex.refl _, fun O2 ho => Rep.b (key_rep hk e).2⟩
theorem walk_vd {t : Bool} {O U : List Addr} {d : Addr} {o : Obj} {H1 : Hp} {kvs : List (Key × V)} {vs : List D} (u : US O U H1) (hd : H1 d = some (.frz o (.dK kvs))) (hr : Reps Γ.K H1 (Pc Γ O) vs (kvs.map (·.2))) : WalkOk Γ t O U (Itd d o kvs) H1 vs := by
  refine ⟨_, _, by rw [hr.length, List.length_map]; exact walk_values, fun H2 k => u.frz k hd, fun i H2 v H3 hi k y => ?_⟩
  obtain ⟨rfl, key, e⟩ := y
  obtain ⟨x, hx, rx⟩ := reps_getV hr (i := i) (v := v) (by rw [List.getElem?_map, e]; rfl)
  exact ⟨x, hx, Ex.refl _, fun O2 ho => Rep.b (item_rep u k rx O2 ho)⟩
theorem walk_id {O U : List Addr} {d : Addr} {o : Obj} {H1 : Hp} {kvs : List (Key × V)} {ks vs : List D} (u : US O U H1) (hd : H1 d = some (.frz o (.dK kvs))) (hk : KsOf kvs ks) (hr : Reps Γ.K H1 (Pc Γ O) vs (kvs.map (·.2))) : WalkOk Γ true O U (Iti d o kvs) H1 (zipL ks vs) := by
  have hl : (zipL ks vs).length = kvs.length := by rw [zipL_len, hr.length, ← hk.eq, List.length_map, List.length_map]; omega
  refine ⟨_, _, by rw [hl]; exact walk_items, fun H2 k => u.frz k hd, fun i H2 v H3 hi k y => ?_⟩
  obtain ⟨T, x, y, rfl, hT, rfl, hx, hy⟩ := y
  rw [hl] at hi
  obtain ⟨⟨key, w⟩, e⟩ : ∃ p, kvs[i]? = some p := ⟨kvs[i], List.getElem?_eq_getElem hi⟩
  dsimp only at hx hy
  rw [e] at hx hy
  have hx' : kV key = x := Option.some.inj hx
  have hy' : w = y := Option.some.inj hy
  subst hx' hy'
  obtain ⟨h1, _⟩ := key_rep (K := Γ.K) (H := H1) (P := fun _ => True) hk e
  obtain ⟨z, hz, rz⟩ := reps_getV hr (i := i) (v := w) (by rw [List.getElem?_map, e]; rfl)
  exact ⟨.tup [kD key, z], by rw [zipL_get, h1, hz]; rfl, Ex.new hT, fun O2 ho => pair_rep hT (key_rep hk e).2 (item_rep u k rz O2 ho)⟩
/-- what a slot of kind fz holds, where it holds a dict -/
theorem RS.fzAt {O : List Addr} {σ : Sg} {H : Hp} {ρ : Env} {i : Nat} {ks vs : List D} (rs : RS Γ O σ H ρ) (hk : kdAt Γ.ks i = .fz) (h : ρ[i]? = some (some (.dic ks vs))) :
    ∃ a o kvs, σ[i]? = some (some (.ref a)) ∧ H a = some (.frz o (.dK kvs)) ∧ KsOf kvs ks ∧ Reps Γ.K H (Pc Γ O) vs (kvs.map (·.2)) := by
  obtain ⟨v, hv, kr⟩ := rs.val i _ h
  rw [hk] at kr
  obtain ⟨hr, hf⟩ := kr
  simp only [Rep] at hr
  obtain ⟨a, kvs, ea, _, hd, hks, hrs⟩ := hr
  obtain ⟨o, u, hu⟩ := hf a ea
  subst ea
  rcases hd with hd | ⟨o', hd⟩
  · rw [hu] at hd; cases hd
  · rw [hu] at hd; cases hd
    exact ⟨a, o, kvs, hv, hu, hks, hrs⟩
section
variable {i : Nat} {x : PySem.Str} {tg : Expr} {pos apos cpos : Pos}
theorem fz_get {σ : Sg} {H : Hp} {ρ : Env} {f : D → Option (List D)} {k : List D → Prop} (hf : ∀ d l, f d = some l → ∃ ks vs, d = .dic ks vs) (h : Fin Γ σ H ((ev Γ.cf (.v i) ρ).bind fun x => ofO (f x)) k) : ∃ ks vs l, ρ[i]? = some (some (.dic ks vs)) ∧ f (.dic ks vs) = some l ∧ k l := by
  simp only [ev, Env.get] at h
  cases e : ρ[i]? with
  | none => rw [e] at h; exact h.elim
  | some o => cases o with
    | none => rw [e] at h; exact h.elim
    | some d =>
      rw [e] at h
      have h' : Fin Γ σ H (ofO (f d)) k := h
      cases q : f d with
      | none => rw [q] at h'; exact h'.elim
      | some l =>
        rw [q] at h'
        obtain ⟨ks, vs, rfl⟩ := hf d l q
        exact ⟨ks, vs, l, rfl, q, h'⟩
theorem keysOf_dic (d : D) (l : List D) (h : keysOf d = some l) : ∃ ks vs, d = .dic ks vs := by cases d <;> simp only [keysOf] at h <;> first | exact ⟨_, _, rfl⟩ | cases h
theorem valsOf_dic (d : D) (l : List D) (h : valsOf d = some l) : ∃ ks vs, d = .dic ks vs := by cases d <;> simp only [valsOf] at h <;> first | exact ⟨_, _, rfl⟩ | cases h
theorem itmsOf_dic (d : D) (l : List D) (h : itmsOf d = some l) : ∃ ks vs, d = .dic ks vs := by cases d <;> simp only [itmsOf] at h <;> first | exact ⟨_, _, rfl⟩ | cases h
theorem si_keysV (hN : Γ.X.N[i]? = some x) (hv : Vis Γ.X.env.scope x) (hd : (x == ("__debug__" : PySem.Str)) = false) (hcd : (x == ("__classdict__" : PySem.Str)) = false) (hk : kdAt Γ.ks i = .fz) : SI Γ (.keys (.v i)) tg (.Name x pos) :=
  PI.wk (PI.dlen (pi_keys (pe_var hN hv hd hcd))) fun σ H R h => by
    obtain ⟨ρ, O, rs, h⟩ := h
    simp only [its] at h
    obtain ⟨ks, vs, l, e, q, h⟩ := fz_get keysOf_dic h
    cases q
    obtain ⟨a, o, kvs, h1, h2, h3, h4⟩ := rs.fzAt hk e
    refine ⟨.ref a, h1, a, o, rfl, .inl ⟨kvs, h2, fun dl => h _ _ (Ex.refl H) ?_ (walk_kd us_nil h2 h3) fun _ => walk_kd rs.us h2 h3⟩⟩
    rw [← h3.eq, List.length_map]
    exact dl a kvs (.inr ⟨o, h2⟩)
theorem si_valsV (hN : Γ.X.N[i]? = some x) (hv : Vis Γ.X.env.scope x) (hd : (x == ("__debug__" : PySem.Str)) = false) (hcd : (x == ("__classdict__" : PySem.Str)) = false) (hk : kdAt Γ.ks i = .fz) (hl : (apos.endLine == cpos.line) = true) : SI Γ (.vals (.v i)) tg (.Call (.Attribute (.Name x pos) "values" apos) [] [] cpos) :=
  PI.wk (PI.dlen (pi_values (pe_var hN hv hd hcd) (base_of rfl) hl)) fun σ H R h => by
    obtain ⟨ρ, O, rs, h⟩ := h
    simp only [its] at h
    obtain ⟨ks, vs, l, e, q, h⟩ := fz_get valsOf_dic h
    cases q
    obtain ⟨a, o, kvs, h1, h2, h3, h4⟩ := rs.fzAt hk e
    refine ⟨.ref a, h1, a, o, kvs, rfl, h2, fun dl => h _ _ (Ex.refl H) ?_ (walk_vd us_nil h2 h4) fun _ => walk_vd rs.us h2 h4⟩
    rw [h4.length, List.length_map]
    exact dl a kvs (.inr ⟨o, h2⟩)
theorem si_itmsV {elts : List Expr} {kk : Nat} {tpos : Pos} (hN : Γ.X.N[i]? = some x) (hv : Vis Γ.X.env.scope x) (hd : (x == ("__debug__" : PySem.Str)) = false) (hcd : (x == ("__classdict__" : PySem.Str)) = false) (hk : kdAt Γ.ks i = .fz) (hl : (apos.endLine == cpos.line) = true) : SI Γ (.itms (.v i)) (.Tuple elts kk tpos) (.Call (.Attribute (.Name x pos) "items" apos) [] [] cpos) :=
  PI.wk (PI.dlen (pi_items (pe_var hN hv hd hcd) (base_of rfl) hl)) fun σ H R h => by
    obtain ⟨ρ, O, rs, h⟩ := h
    simp only [its] at h
    obtain ⟨ks, vs, l, e, q, h⟩ := fz_get itmsOf_dic h
    cases q
    obtain ⟨a, o, kvs, h1, h2, h3, h4⟩ := rs.fzAt hk e
    refine ⟨.ref a, h1, a, o, kvs, rfl, h2, fun dl => h _ _ (Ex.refl H) ?_ (walk_id us_nil h2 h3 h4) fun _ => walk_id rs.us h2 h3 h4⟩
    have := dl a kvs (.inr ⟨o, h2⟩)
    rw [zipL_len, h4.length, ← h3.eq, List.length_map, List.length_map]
    omega
end
/-- f(..).values(): the dict is new -/
theorem si_valsF {a : E} {x tg : Expr} {apos cpos : Pos} (ha : SE Γ a x) (hn : noSup x = true) (hf : fr Γ.FR a = true) (hl : (apos.endLine == cpos.line) = true) : SI Γ (.vals a) tg (.Call (.Attribute x "values" apos) [] [] cpos) :=
  PI.wk (PI.dlen (pi_values (PE.frz ha) (base_of hn) hl)) fun σ H R h => by
    obtain ⟨ρ, O, rs, h⟩ := h
    simp only [its] at h
    refine ⟨ρ, O, rs, h.bnd.mono fun d ed hd v H1 e1 o1 => ?_⟩
    have hd' : Fin Γ σ H (ofO (valsOf d)) _ := hd
    cases d <;> simp only [valsOf, ofO] at hd' <;> try exact hd'.elim
    case dic ks vs =>
      obtain ⟨b, ev, hb, kvs, hk, hks, hr⟩ := o1.new hf
      refine ⟨b, kvs, ev, hk, fun od => ⟨b, od, kvs, ev, upd_same, fun dl => ?_⟩⟩
      have e2 : Ex H (upd H1 b (.frz od (.dK kvs))) := fun c o hc => by
        rw [upd_ne (ne_of_none hc hb)]
        exact e1 c o hc
      have mv : Mv (fun c => c = b) H1 (upd H1 b (.frz od (.dK kvs))) := ⟨fun c o hc hn => by rw [upd_ne hn]; exact hc, fun c hc => by subst hc; exact .inr (by rw [hk]; trivial)⟩
      have hr2 : Reps Γ.K (upd H1 b (.frz od (.dK kvs))) (Pc Γ O) vs (kvs.map (·.2)) := Reps.move mv (fun c hc => hc.2) (fun c hc => hc.1) hr
      refine hd' _ _ e2 ?_ (walk_vd us_nil upd_same hr2) fun _ => walk_vd (rs.ext e2).us upd_same hr2
      rw [hr2.length, List.length_map]
      exact dl b kvs (.inr ⟨od, upd_same⟩)
end VE

/-! list(zip(a text, a list)). -/
namespace VE
open PySem PySem.Spec PyProof.Rows L2
variable {Γ : Ctx}
theorem vals_refs : ∀ as : List Addr, Vals (as.map V.ref) (as.map Value.ref)
  | [] => .nil
  | a :: r => .cons rfl (vals_refs r)
def putP : Hp → List Addr → List (Obj × List V) → Hp
  | H, a :: as, q :: r => upd (putP H as r) a (.frz q.1 (.tup q.2))
  | H, _, _ => H
theorem putP_off {b : Addr} {H : Hp} : ∀ (as : List Addr) (qs : List (Obj × List V)), b ∉ as → putP H as qs b = H b
  | [], _, _ => rfl
  | _ :: _, [], _ => rfl
  | a :: as, q :: r, h => by
    have h1 : b ≠ a := fun z => h (by simp [z])
    show upd (putP H as r) a _ b = H b
    rw [upd_ne h1, putP_off as r fun z => h (by simp [z])]
theorem putP_at {H : Hp} : ∀ (as : List Addr) (qs : List (Obj × List V)), as.Nodup → ∀ (j : Nat) (a : Addr) (q : Obj × List V), as[j]? = some a → qs[j]? = some q → putP H as qs a = some (.frz q.1 (.tup q.2))
  | [], _, _, j, a, q, h, _ => by simp at h
  | _ :: _, [], _, j, a, q, _, h => by simp at h
  | a0 :: as, q0 :: r, nd, 0, a, q, h1, h2 => by
    have e1 : a0 = a := by simpa using h1
    have e2 : q0 = q := by simpa using h2
    subst e1 e2
    exact upd_same
  | a0 :: as, q0 :: r, nd, j + 1, a, q, h1, h2 => by
    have h1' : as[j]? = some a := by simpa using h1
    have h2' : r[j]? = some q := by simpa using h2
    have nd' := List.nodup_cons.mp nd
    have hne : a ≠ a0 := fun z => nd'.1 (z ▸ List.mem_of_getElem? h1')
    show upd (putP H as r) a0 _ a = _
    rw [upd_ne hne]
    exact putP_at as r nd'.2 j a q h1' h2'
/-- a list of new tuples laid -/
theorem laid_pairs {X : Cx} {pins : List (Addr × Obj)} {σ : L2.St} {H : Hp} {s : Shared} {h' : Heap} {tk : Nat} {acc : Array Value} {c : Nat} {L : Addr} {as : List Addr} {qs : List (Obj × List V)} (I : Inv X pins σ H s)
    (hk : ∀ b o, s.heap.get? b = some o → h'.get? b = some o) (hL : s.heap.objs.size ≤ L) (hS : h'.get? L = some { cls := .type "list", dict := none, data := .seq acc c, slots := #[] }) (hacc : acc.toList = as.map Value.ref) (hz : as.length ≤ sizeLine)
    (rise : as.Pairwise (· < ·)) (above : ∀ a ∈ as, L < a) (hl : as.length = qs.length)
    (hq : ∀ (j : Nat) (a : Addr) (q : Obj × List V), as[j]? = some a → qs[j]? = some q → ObjOk X.prog X.w (upd (putP H as qs) L (.lst (as.map V.ref))) h' a (.frz q.1 (.tup q.2))) :
    Inv X pins σ (upd (putP H as qs) L (.lst (as.map V.ref))) { s with heap := h', toks := tk } ∧ Ex H (upd (putP H as qs) L (.lst (as.map V.ref))) ∧ H L = none ∧ L ∉ as := by
  have hLn : L ∉ as := fun z => Nat.lt_irrefl _ (above _ z)
  have nd : as.Nodup := List.Pairwise.imp (fun {a b} (h : a < b) => Nat.ne_of_lt h) rise
  have new : ∀ t ∈ as, H t = none := fun t ht => I.hok.fresh (Nat.le_trans hL (Nat.le_of_lt (above t ht)))
  have newL : H L = none := I.hok.fresh hL
  have off : ∀ b, b ∉ as → b ≠ L → upd (putP H as qs) L (.lst (as.map V.ref)) b = H b := fun b h1 h2 => by rw [upd_ne h2, putP_off as qs h1]
  have low : ∀ b o, s.heap.get? b = some o → b ∉ as ∧ b ≠ L := fun b o e => ⟨fun z => absurd (Heap.lt_size e) (Nat.not_lt.mpr (Nat.le_trans hL (Nat.le_of_lt (above b z)))), Nat.ne_of_lt (Nat.lt_of_lt_of_le (Heap.lt_size e) hL)⟩
  have kp : ∀ b u, H b = some u → (upd (putP H as qs) L (.lst (as.map V.ref))) b = some u := fun b u e => by
    rw [off b (fun z => by rw [new b z] at e; cases e) (fun z => by rw [z, newL] at e; cases e)]
    exact e
  refine ⟨?_, kp, newL, hLn⟩
  refine I.call' (ch := []) rfl ⟨fun b o q _ _ _ => hk b o q, fun b o q _ _ _ => ⟨o.slots, hk b o q⟩, fun b o q n _ => ?_, fun b o q _ => ⟨o, hk b o q⟩, fun b xs q => kp b _ q, fun b o u q => kp b _ q, fun b ps q => ⟨#[], by rw [kp b _ q]; simp⟩⟩ (fun b u q => ?_) I.bare fun b z => by simp at z
  · obtain ⟨z1, z2⟩ := low b o q
    rw [off b z1 z2]
    exact n
  · by_cases hb2 : b = L
    · subst hb2
      rw [upd_same] at q
      cases q
      refine ⟨by rw [List.length_map]; exact hz, acc.toList, c, by rw [hacc]; exact vals_refs as, ?_⟩
      rw [Array.toArray_toList]
      exact hS
    · by_cases hb : b ∈ as
      · obtain ⟨j, hj⟩ := List.mem_iff_getElem?.mp hb
        have hjl : j < qs.length := by rw [← hl]; exact (List.getElem?_eq_some_iff.mp hj).1
        obtain ⟨qv, hqv⟩ : ∃ qv, qs[j]? = some qv := ⟨qs[j], List.getElem?_eq_getElem hjl⟩
        rw [upd_ne hb2, putP_at as qs nd j b qv hj hqv] at q
        cases q
        exact hq j b qv hj hqv
      · rw [off b hb hb2] at q
        exact (I.hok b u q).stay (fun d v _ y => hk d v y) (fun d y => kp d _ y) fun d xs y => kp d _ y
def rZl (K : Frag) : List V → Hp → VK → Prop := fun vs H Q => ∃ (x : PySem.Str) (a : Addr) (ys : List V), vs = [.str x, .ref a] ∧ SqL K H a ys ∧ (ys.length ≤ sizeLine → ∀ (H' : Hp) (p : Addr) (ts : List Addr), Ex H H' → H p = none → H' p = some (.lst (ts.map V.ref)) → ts.length = min x.cps.size ys.length →
  (∀ (j : Nat) (t : Addr), ts[j]? = some t → ∃ o c y, PObj o ∧ H' t = some (.frz o (.tup [.str (mkS [c]), y])) ∧ x.cps[j]? = some c ∧ ys[j]? = some y) → Q (.ref p) H')
def tZl (K : Frag) (ta : TA) : TE := fun σ H Q => ta σ H fun vs H1 => rZl K vs H1 Q
theorem zl_sep (k a : Nat) (h : a < k) : ZipSep2 (k + 4) (k + 2) (k + 3) k (k + 1) [k] [k + 1, a] := by
  constructor <;> simp <;> first | omega | (intro z; have z' : @Eq Nat _ _ := z; omega) | (constructor <;> (intro z; have z' : @Eq Nat _ _ := z; omega))
theorem pe_zl {X : Cx} {e e2 : Expr} {ta : TA} {p p2 pos pos2 : Pos} (hc : X.calm = true) (hgl : Gl X "list") (hml : X.mg "list" = none) (hg : Gl X "zip") (hm : X.mg "zip" = none) (ha : PA X [e, e2] ta)
    (hs : starEach [e, e2] X.env = (false, eval e X.env) :: starEach [e2] X.env) (hpl : (backTo pos2 (starEach [e2] X.env)).any (·.1) = false) :
    PE X (.Call (.Name "list" p) [.Call (.Name "zip" p2) [e, e2] [] pos2] [] pos) (tZl X.K ta) := by
  refine ⟨fun pins s σ H Q I hq => ?_⟩
  have hso : starEach [.Call (.Name "zip" p2) [e, e2] [] pos2] X.env = (false, eval (.Call (.Name "zip" p2) [e, e2] [] pos2) X.env) :: starEach [] X.env := rfl
  refine wpAny_Call_Name_kw (ld_blt I hgl hml PyProof.Rows.boot_list ?_)
  refine PyProof.Rows.callWith_type1 ?_ hso rfl
  rw [hso]
  show wpAny _ _ (spliced ((false, eval (.Call (.Name "zip" p2) [e, e2] [] pos2) X.env) :: backTo pos (starEach [] X.env))) _ _ s
  refine Calls.spliced_cons ?_
  refine Call_ (ld_blt I hg hm PyProof.Rows.boot_zip (PyProof.Rows.callWith_type1 (L2.thn (ha.run pos2 pins s σ H _ I hq) fun us s1 ⟨vs, H1, I1, r1, q1⟩ => ?_) hs hpl))
  obtain ⟨x, a, ys, ex, hqy, q⟩ := q1
  subst ex
  obtain ⟨u1, u2, rfl, ⟨t, rfl⟩, ru⟩ := vals2 r1
  have eu : u2 = .ref a := ru
  subst eu
  obtain ⟨its, rv, pL, hlen⟩ := I1.list hqy
  have la : a < s1.heap.objs.size := pL.lt
  have hh : X.A.handled = none := I1.ok.hd hc
  refine PySem.zip_begins2 (PySem.begins_text x t) (PySem.begins_list a its.toArray) trivial pL.isList fun h' hz hTI hTO h1 h2 hsz hk => ?_
  refine Calls.spliced_nil ?_
  have sep : ZipSep2 (s1.heap.objs.size + 4) (s1.heap.objs.size + 2) (s1.heap.objs.size + 3) s1.heap.objs.size (s1.heap.objs.size + 1) [s1.heap.objs.size] [s1.heap.objs.size + 1, a] := zl_sep _ a la
  have hlt : its.toArray.size = ys.length := by rw [List.size_toArray, ← rv.length]
  refine zl_call (s := { s1 with heap := h' }) sep (Draws.text (A := X.A.in1.in1.in1) hh s1.heap.objs.size x t) (Draws.list (A := X.A.in1.in1.in1) hh (s1.heap.objs.size + 1) a (Nat.ne_of_lt (Nat.lt_succ_of_lt la)) its.toArray) (by rw [hlt]; omega)
    (fun b hb => by rw [List.mem_singleton.mp hb]; show s1.heap.objs.size < h'.objs.size; omega)
    (fun b hb => by
      have hb' : b = s1.heap.objs.size + 1 ∨ b = a := by simpa using hb
      show b < h'.objs.size
      rcases hb' with z | z <;> rw [z, hsz]
      · exact Nat.add_lt_add_left (by decide) _
      · exact Nat.lt_of_lt_of_le la (Nat.le_add_right _ _))
    hz hTI ⟨_, _, hTO⟩ ⟨_, h1, rfl, rfl⟩ ⟨⟨_, h2, rfl, rfl⟩, pL.isList.at fun o e => hk a o e⟩ fun h'' tk acc c as hk2 hS hl hG hacc => ?_
  dsimp only at hk2 hS hG ⊢
  have hkA : ∀ b o, s1.heap.get? b = some o → h''.get? b = some o := fun b o e => by
    have lt : b < s1.heap.objs.size := Heap.lt_size e
    have ne : ∀ k, b ≠ s1.heap.objs.size + k := fun k => Nat.ne_of_lt (Nat.lt_of_lt_of_le lt (Nat.le_add_right _ _))
    exact hk2 b o (ne 4) (ne 3) (ne 0) (ne 1) (hk b o e)
  have hLs : s1.heap.objs.size ≤ h'.objs.size := by rw [hsz]; exact Nat.le_add_right _ _
  have hal : as.length = min x.cps.size ys.length := by rw [hl, hlt]
  have got : ∀ j, j < as.length → ∃ (c : Nat) (u : Tok) (y : V) (w : Value), x.cps[j]? = some c ∧ ys[j]? = some y ∧ RelV y w ∧ ∀ tt, as[j]? = some tt → h''.get? tt = some { cls := .type "tuple", data := .seq #[.str (mkS [c]) u, w] } := fun j hj => by
    obtain ⟨x1, x2, ⟨c, u, hcx, rfl⟩, hy, ho⟩ := hG.pairs j as[j] (List.getElem?_eq_getElem hj)
    have hjy : j < ys.length := by omega
    obtain ⟨w, hw, rw'⟩ := rv.get (i := j) (x := ys[j]) (List.getElem?_eq_getElem hjy)
    have ew : x2 = w := by
      have h1 : its[j]? = some x2 := by simpa using hy
      rw [hw] at h1
      exact (Option.some.inj h1).symm
    subst ew
    refine ⟨c, u, ys[j], x2, hcx, List.getElem?_eq_getElem hjy, rw', fun tt ht => ?_⟩
    rw [List.getElem?_eq_getElem hj] at ht
    cases ht
    exact ho
  obtain ⟨qs, hqs⟩ : ∃ qs : List (Obj × List V), qs.length = as.length ∧ ∀ (j : Nat) (q : Obj × List V), qs[j]? = some q → ∃ (c : Nat) (u : Tok) (y : V) (w : Value), q = ({ cls := .type "tuple", data := .seq #[.str (mkS [c]) u, w] }, [.str (mkS [c]), y]) ∧ x.cps[j]? = some c ∧ ys[j]? = some y ∧ RelV y w ∧ ∀ tt, as[j]? = some tt → h''.get? tt = some { cls := .type "tuple", data := .seq #[.str (mkS [c]) u, w] } := by
    refine ⟨(List.range as.length).map fun j => if hj : j < as.length then (({ cls := .type "tuple", data := .seq #[.str (mkS [(got j hj).choose]) (got j hj).choose_spec.choose, (got j hj).choose_spec.choose_spec.choose_spec.choose] } : Obj), ([.str (mkS [(got j hj).choose]), (got j hj).choose_spec.choose_spec.choose] : List V)) else (({ cls := .type "tuple", data := .seq #[] } : Obj), ([] : List V)), by simp, fun j q hq => ?_⟩
    rw [List.getElem?_map] at hq
    have hj : j < as.length := by
      rcases Nat.lt_or_ge j as.length with h | h
      · exact h
      · rw [List.getElem?_eq_none (by rw [List.length_range]; exact h)] at hq; cases hq
    rw [List.getElem?_range hj] at hq
    simp only [Option.map_some, hj, dif_pos, Option.some.injEq] at hq
    exact ⟨_, _, _, _, hq.symm, (got j hj).choose_spec.choose_spec.choose_spec.choose_spec⟩
  obtain ⟨J, e1, e2, e3⟩ := laid_pairs (X := X) (pins := pins) (σ := σ) (H := H1) (s := s1) (h' := h'') (tk := tk) (L := h'.objs.size) (as := as) (qs := qs) I1 hkA hLs hS hacc (by omega) hG.rise hG.above hqs.1.symm (fun j b q hj hq => by
    obtain ⟨c, u, y, w, rfl, g1, g2, g3, g4⟩ := hqs.2 j q hq
    exact ⟨g4 b hj, by show 2 ≤ sizeLine; decide, [.str (mkS [c]) u, w], .cons ⟨_, rfl⟩ (.cons g3 .nil), ⟨_, g4 b hj, rfl, _, rfl⟩⟩)
  refine ⟨.ref h'.objs.size, _, J, rfl, q hlen _ _ as e1 e2 upd_same hal fun j tt hj => ?_⟩
  have nd : as.Nodup := List.Pairwise.imp (fun {a b} (h : a < b) => Nat.ne_of_lt h) hG.rise
  have hjl : j < qs.length := by rw [hqs.1]; exact (List.getElem?_eq_some_iff.mp hj).1
  have hq' : qs[j]? = some qs[j] := List.getElem?_eq_getElem hjl
  obtain ⟨c, u, y, w, eq, g1, g2, g3, g4⟩ := hqs.2 j qs[j] hq'
  refine ⟨({ cls := .type "tuple", data := .seq #[.str (mkS [c]) u, w] } : Obj), c, y, ⟨rfl, rfl⟩, ?_, g1, g2⟩
  · have hne : tt ≠ h'.objs.size := fun z => e3 (by rw [← z]; exact List.mem_of_getElem? hj)
    rw [upd_ne hne, putP_at as qs nd j tt qs[j] hj hq', eq]
theorem zl_reps {K : Frag} {H H' : Hp} {P : Addr → Prop} (e : Ex H H') : ∀ (s : List Nat) (es : List D) (ys : List V) (ts : List Addr), Reps K H P es ys → ts.length = min s.length ys.length →
    (∀ (j : Nat) (t : Addr), ts[j]? = some t → ∃ o c y, PObj o ∧ H' t = some (.frz o (.tup [.str (mkS [c]), y])) ∧ s[j]? = some c ∧ ys[j]? = some y) → Reps K H' P (zipL (s.map fun c => .str [c]) es) (ts.map V.ref)
  | [], es, ys, ts, hr, hl, _ => by
    have : ts = [] := List.eq_nil_of_length_eq_zero (by simpa using hl)
    subst this
    simp [zipL, Reps]
  | c :: s, [], ys, ts, hr, hl, _ => by
    have h0 : ys = [] := reps_nilL.mp hr
    subst h0
    have : ts = [] := List.eq_nil_of_length_eq_zero (by simpa using hl)
    subst this
    simp [zipL, Reps]
  | c :: s, d :: es, ys, ts, hr, hl, hp => by
    obtain ⟨y, r, rfl, hy, hr'⟩ := reps_consL.mp hr
    cases ts with
    | nil => simp only [List.length_cons, List.length_nil] at hl; omega
    | cons t ts =>
      obtain ⟨o, c', y', ho, h1, h2, h3⟩ := hp 0 t rfl
      have ec : c = c' := by simpa using h2
      have ey : y = y' := by simpa using h3
      subst ec ey
      rw [List.map_cons, List.map_cons, zipL, reps_cons]
      refine ⟨?_, zl_reps e s es r ts hr' (by simp only [List.length_cons] at hl; omega) fun j t' hj => hp (j + 1) t' (by simpa using hj)⟩
      simp only [Rep]
      exact ⟨t, _, rfl, SqP.of h1 ho, reps_cons.mpr ⟨by simp only [Rep, true_and]; show 1 ≤ sizeLine; decide, reps_cons.mpr ⟨hy.ex e, reps_nil⟩⟩⟩
theorem se_zl (ok : XOk Γ) {a b : E} {x y : Expr} {p p2 pos pos2 : Pos} (hgl : Gl Γ.X "list") (hml : Γ.X.mg "list" = none) (hg : Gl Γ.X "zip") (hm : Γ.X.mg "zip" = none) (ha : SE Γ a x) (hb : SE Γ b y) (hs : noStar x = true) (ht : noStar y = true) : SE Γ (.zl a b) (.Call (.Name "list" p) [.Call (.Name "zip" p2) [x, y] [] pos2] [] pos) :=
  PE.wk (pe_zl ok.calm hgl hml hg hm (pa_cons ha (pa_cons hb pa_nil (star_of ht)) (star_of hs)) (star_of hs) (by rw [star_of ht]; rfl)) fun σ H Q h => by
    obtain ⟨ρ, O, rs, h⟩ := h
    simp only [ev] at h
    refine ⟨ρ, O, rs, h.bnd.mono fun d ed hd v H1 e1 o1 => ?_⟩
    refine ⟨ρ, O, rs.ext e1, (Fin.bnd hd).imp e1 fun d2 ed2 hd2 u H2 e2 o2 => ?_⟩
    have hd' : Fin Γ σ H (zlD d d2) _ := hd2
    have fd : ∃ s ds, d = .str s ∧ d2 = .lst ds := by
      cases d <;> cases d2 <;> simp only [zlD] at hd' <;> first | exact ⟨_, _, rfl, rfl⟩ | exact hd'.elim
    obtain ⟨s, ds, rfl, rfl⟩ := fd
    have r1 := o1.one.ex e2
    simp only [Rep1, Rep] at r1
    obtain ⟨rfl, l1⟩ := r1
    obtain ⟨l, ys, ey, hl2, hr2⟩ := o2.one
    subst ey
    refine ⟨mkS s, l, ys, rfl, SqL.of hl2, fun hlen H' p ts ex hp hpl hlt hprs => ?_⟩
    have hprs' : ∀ (j : Nat) (t : Addr), ts[j]? = some t → ∃ o c y, PObj o ∧ H' t = some (.frz o (.tup [.str (mkS [c]), y])) ∧ s[j]? = some c ∧ ys[j]? = some y := fun j t hj => by
      obtain ⟨o, c, y, q1, q2, q3, q4⟩ := hprs j t hj
      exact ⟨o, c, y, q1, q2, by simpa using q3, q4⟩
    have hlt' : ts.length = min s.length ys.length := by rw [hlt]; simp
    have hn : H p = none := by
      cases hq : H p with
      | none => rfl
      | some o => rw [e2 p o (e1 p o hq)] at hp; cases hp
    have R1 := zl_reps ex s ds ys ts hr2 hlt' hprs'
    have R2 := zl_reps ex s ds ys ts (hr2.apart hp) hlt' hprs'
    refine hd' _ _ ((e1.trans e2).trans ex) (Val.out ⟨?_, p, rfl, hn, _, hpl, R2⟩)
    simp only [Rep]
    exact ⟨p, _, rfl, ((rs.ext e1).ext e2).pnew hp, hpl, R1⟩
end VE

/-! Targets, comprehensions. -/
namespace VE
open PySem PySem.Spec PyProof.Rows L2
variable {Γ : Ctx}
/-! ### slots -/
theorem RS.put {O : List Addr} {σ : Sg} {H : Hp} {ρ : Env} (rs : RS Γ O σ H ρ) {i : Nat} {d : D} {v : V} (hk : kdAt Γ.ks i ≠ .own) (h : KRep Γ H O (kdAt Γ.ks i) d v) : RS Γ O (σ.set i (some v)) H (ρ.set i (some d)) := by
  refine ⟨by rw [List.length_set, List.length_set]; exact rs.len, rs.ex, rs.own, fun j e hj => ?_, fun j l e f w hjl hj hl kj kl sj sl => ?_⟩
  · by_cases hij : i = j
    · subst hij
      by_cases hb : i < ρ.length
      · rw [List.getElem?_set_self hb] at hj
        cases hj
        exact ⟨v, by rw [List.getElem?_set_self (by rw [← rs.len]; exact hb)], h⟩
      · rw [List.getElem?_eq_none (by simpa using hb)] at hj; cases hj
    · rw [List.getElem?_set_ne hij] at hj ⊢
      exact rs.val j e hj
  · have h1 : i ≠ j := fun z => hk (z ▸ kj)
    have h2 : i ≠ l := fun z => hk (z ▸ kl)
    rw [List.getElem?_set_ne h1] at hj sj
    rw [List.getElem?_set_ne h2] at hl sl
    exact rs.dis j l e f w hjl hj hl kj kl sj sl
theorem RS.del {O : List Addr} {σ : Sg} {H : Hp} {ρ : Env} (rs : RS Γ O σ H ρ) (i : Nat) : RS Γ O (σ.set i none) H (ρ.set i none) := by
  refine ⟨by rw [List.length_set, List.length_set]; exact rs.len, rs.ex, rs.own, fun j e hj => ?_, fun j l e f w hjl hj hl kj kl sj sl => ?_⟩
  · by_cases hij : i = j
    · subst hij
      by_cases hb : i < ρ.length
      · rw [List.getElem?_set_self hb] at hj; cases hj
      · rw [List.getElem?_eq_none (by simpa using hb)] at hj; cases hj
    · rw [List.getElem?_set_ne hij] at hj ⊢
      exact rs.val j e hj
  · have h1 : i ≠ j := fun z => by
      subst z
      by_cases hb : i < ρ.length
      · rw [List.getElem?_set_self hb] at hj; cases hj
      · rw [List.getElem?_eq_none (by simpa using hb)] at hj; cases hj
    have h2 : i ≠ l := fun z => by
      subst z
      by_cases hb : i < ρ.length
      · rw [List.getElem?_set_self hb] at hl; cases hl
      · rw [List.getElem?_eq_none (by simpa using hb)] at hl; cases hl
    rw [List.getElem?_set_ne h1] at hj sj
    rw [List.getElem?_set_ne h2] at hl sl
    exact rs.dis j l e f w hjl hj hl kj kl sj sl
theorem RS.wipe {O : List Addr} {σ : Sg} {H : Hp} {ρ : Env} (rs : RS Γ O σ H ρ) : ∀ vs : List Nat, RS Γ O (L2.wipe σ vs) H (wipes vs ρ)
  | [] => rs
  | v :: vs => (RS.wipe rs vs).del v
theorem wipe_get {σ : Sg} {i : Nat} : ∀ {vs : List Nat}, i ∈ vs → i < σ.length → (L2.wipe σ vs)[i]? = some none
  | v :: vs, h, hl => by
    unfold L2.wipe
    by_cases e : v = i
    · subst e; rw [List.getElem?_set_self (by rw [wipe_length]; exact hl)]
    · rw [List.getElem?_set_ne e]
      rcases List.mem_cons.mp h with z | z
      · exact absurd z.symm e
      · exact wipe_get z hl
theorem wipe_out' {σ : Sg} {i : Nat} : ∀ {vs : List Nat}, i ∉ vs → (L2.wipe σ vs)[i]? = σ[i]?
  | [], _ => rfl
  | v :: vs, h => by
    unfold L2.wipe
    rw [List.mem_cons, not_or] at h
    rw [List.getElem?_set_ne (fun e => h.1 e.symm)]
    exact wipe_out' h.2
theorem wipe_ext {σ σ2 : Sg} {vs : List Nat} (hl : σ2.length = σ.length) (h : ∀ j, j ∉ vs → σ2[j]? = σ[j]?) : L2.wipe σ2 vs = L2.wipe σ vs := by
  apply List.ext_getElem?
  intro i
  by_cases hi : i ∈ vs
  · by_cases hb : i < σ.length
    · rw [wipe_get hi hb, wipe_get hi (by omega)]
    · rw [List.getElem?_eq_none (by rw [wipe_length]; omega), List.getElem?_eq_none (by rw [wipe_length]; omega)]
  · rw [wipe_out' hi, wipe_out' hi, h i hi]
/-! ### targets -/
def gAll : List Nat → TGs
  | [] => gNil
  | i :: is => gCons (gName i) (gAll is)
def gTg (K : Frag) : Tg → TG
  | .nm i => gName i
  | .tp is => gTup K is.length (gAll is)
/-- all slots of any value -/
def ordAll (ks : List Kd) (is : List Nat) : Bool := is.all fun i => kdAt ks i == .ord
theorem all_ok' {O : List Addr} {H : Hp} : ∀ {is : List Nat} {ds : List D} {vs : List V} {σ : Sg} {ρ ρ' : Env} {Q : Sg → Hp → Prop}, RS Γ O σ H ρ → ordAll Γ.ks is = true → Reps Γ.K H (Pc Γ O) ds vs → setAll ρ is ds = some ρ' →
    (∀ σ', RS Γ O σ' H ρ' → σ'.length = σ.length → (∀ j, j ∉ is → σ'[j]? = σ[j]?) → Q σ' H) → gAll is vs σ H Q
  | [], [], [], σ, ρ, ρ', Q, rs, _, _, e, q => by
    simp only [setAll, Option.some.injEq] at e
    subst e
    exact ⟨rfl, q σ rs rfl fun _ _ => rfl⟩
  | i :: is, d :: ds, v :: vs, σ, ρ, ρ', Q, rs, ho, hr, e, q => by
    rw [reps_cons] at hr
    simp only [ordAll, List.all_cons, Bool.and_eq_true, beq_iff_eq] at ho
    simp only [setAll] at e
    refine ⟨v, vs, rfl, ?_⟩
    refine all_ok' (rs.put (by rw [ho.1]; decide) (by rw [ho.1]; exact hr.1)) (by unfold ordAll; exact ho.2) hr.2 e fun σ' rs' hl hj => q σ' rs' (by rw [hl, List.length_set]) fun j hj' => ?_
    rw [List.mem_cons, not_or] at hj'
    rw [hj j hj'.2, List.getElem?_set_ne (fun z => hj'.1 z.symm)]
  | [], _ :: _, _, _, _, _, _, _, _, _, e, _ => by simp [setAll] at e
  | _ :: _, [], _, _, _, _, _, _, _, _, e, _ => by simp [setAll] at e
  | [], [], _ :: _, _, _, _, _, _, _, hr, _, _ => by simp [Reps] at hr
  | _ :: _, _ :: _, [], _, _, _, _, _, _, hr, _, _ => by simp [Reps] at hr
theorem setAll_len : ∀ {is : List Nat} {ds : List D} {ρ ρ' : Env}, setAll ρ is ds = some ρ' → ds.length = is.length
  | [], [], _, _, _ => rfl
  | _ :: is, _ :: ds, ρ, ρ', h => by simp only [setAll] at h; simp [setAll_len h]
  | [], _ :: _, _, _, h => by simp [setAll] at h
  | _ :: _, [], _, _, h => by simp [setAll] at h
theorem tg_ok {tg : Tg} {O : List Addr} {H : Hp} {d : D} {v : V} {σ : Sg} {ρ ρ' : Env} {Q : Sg → Hp → Prop} (rs : RS Γ O σ H ρ) (ho : ordAll Γ.ks tg.slots = true) (hr : RepB (isTp tg) Γ.K H (Pc Γ O) d v) (e : tg.bind d ρ = some ρ')
    (q : ∀ σ', RS Γ O σ' H ρ' → σ'.length = σ.length → (∀ j, j ∉ tg.slots → σ'[j]? = σ[j]?) → Q σ' H) : gTg Γ.K tg v σ H Q := by
  cases tg with
  | nm i =>
    simp only [Tg.bind, Option.some.injEq] at e
    subst e
    simp only [Tg.slots, ordAll, List.all_cons, List.all_nil, Bool.and_true, beq_iff_eq] at ho
    refine q _ (rs.put (by rw [ho]; decide) (by rw [ho]; exact hr)) (by rw [List.length_set]) fun j hj => ?_
    simp only [Tg.slots, List.mem_singleton] at hj
    exact List.getElem?_set_ne (fun z => hj z.symm)
  | tp is =>
    cases d <;> simp only [Tg.bind] at e <;> try contradiction
    case tup ds =>
      obtain ⟨a, xs, ex, ha, hr2⟩ := (show RepW Γ.K H (Pc Γ O) (.tup ds) v from hr)
      subst ex
      exact ⟨a, xs, rfl, ha, by rw [← hr2.length, setAll_len e], all_ok' rs ho hr2 e q⟩
/-- the target as it is written -/
def NamesAt (X : Cx) : List Nat → List Expr → Prop
  | [], [] => True
  | i :: is, .Name x _ :: es => (X.N[i]? = some x ∧ Loc X.env.scope x ∧ (X.fn x = true ∨ X.env.scope.names.lookup x = some .local)) ∧ NamesAt X is es
  | _, _ => False
def TgAt (X : Cx) : Tg → Expr → Prop
  | .nm i, e => NamesAt X [i] [e]
  | .tp is, .Tuple es _ _ => NamesAt X is es
  | _, _ => False
theorem names_pgs {X : Cx} (hN : X.N.Nodup) : ∀ {is : List Nat} {es : List Expr}, NamesAt X is es → PGs X es (gAll is) ∧ (assignEach es X.env).length = is.length ∧ (assignEach es X.env).findIdx? (·.1) = none
  | [], [], _ => ⟨pgs_nil, rfl, rfl⟩
  | i :: is, e :: es, h => by
    cases e <;> simp only [NamesAt] at h <;> try (exact h.elim)
    case Name x p =>
      obtain ⟨⟨h1, h2, h3⟩, h4⟩ := h
      obtain ⟨g1, g2, g3⟩ := names_pgs hN h4
      refine ⟨pgs_cons (pg_name hN h1 h2 h3) g1 rfl, ?_, ?_⟩
      · show (assignEach es X.env).length + 1 = is.length + 1
        rw [g2]
      · show List.findIdx? (·.1) ((false, _) :: assignEach es X.env) = none
        rw [List.findIdx?_cons, g3]
        rfl
  | [], _ :: _, h => by simp [NamesAt] at h
  | _ :: _, [], h => by simp [NamesAt] at h
theorem tg_pg {X : Cx} (hc : X.calm = true) (hN : X.N.Nodup) {tg : Tg} {e : Expr} (h : TgAt X tg e) : PG X e (gTg X.K tg) := by
  cases tg with
  | nm i =>
    cases e <;> simp only [TgAt, NamesAt] at h <;> try (exact h.elim)
    case Name x p => exact pg_name hN h.1.1 h.1.2.1 h.1.2.2
  | tp is =>
    cases e <;> simp only [TgAt] at h <;> try (exact h.elim)
    case Tuple es k p =>
      obtain ⟨g1, g2, g3⟩ := names_pgs hN h
      exact pg_tup hc g1 g2 g3
/-! ### the block's context -/
abbrev Ctx.noX (Γ : Ctx) : Ctx := { Γ with W := fun _ _ _ _ => False }
abbrev Ctx.blk (Γ : Ctx) (s : Shared) (H : Hp) (scope : Scope) (C : Addr) (cl : List (PySem.Str × Addr)) (fp : List Addr) : Ctx := { Γ with X := Γ.X.blk s H scope (compEnvC scope cl C Γ.X.env) fp, W := fun _ _ _ _ => False }
section
variable {X' : Cx} {W' : WX} {O : List Addr} {σ : Sg} {H H' : Hp} {ρ : Env} {d : D} {v : V}
theorem KRep.toX (hK : X'.K = Γ.X.K) {k : Kd} (h : KRep Γ H O k d v) : KRep { Γ with X := X', W := W' } H O k d v := by
  have e : ({ Γ with X := X', W := W' } : Ctx).K = Γ.K := hK
  cases k with
  | ord => unfold KRep at h ⊢; rw [e]; exact h
  | bor => unfold KRep at h ⊢; rw [e]; exact h
  | fz => unfold KRep at h ⊢; rw [e]; exact h
  | own => unfold KRep at h ⊢; rw [e]; exact h
theorem RS.toX (hK : X'.K = Γ.X.K) (h : RS Γ O σ H ρ) : RS { Γ with X := X', W := W' } O σ H ρ :=
  ⟨h.len, h.ex, h.own, fun i d hi => by
    obtain ⟨v, h1, h2⟩ := h.val i d hi
    exact ⟨v, h1, h2.toX hK⟩, h.dis⟩
theorem Out.ofX (hK : X'.K = Γ.X.K) {m : E} (h : Out { Γ with X := X', W := W' } O m H H' d v) : Out Γ O m H H' d v := by
  have e : ({ Γ with X := X', W := W' } : Ctx).K = Γ.K := hK
  obtain ⟨h1, h2, h3, h4⟩ := h
  rw [e] at h1 h2 h3
  exact ⟨h1, h2, h3, h4⟩
end
theorem se_blk {s : Shared} {H0 : Hp} {scope : Scope} {C : Addr} {cl : List (PySem.Str × Addr)} {fp : List Addr} {m : E} {e : Expr} (h : SE (Γ.blk s H0 scope C cl fp) m e) : PE (Γ.X.blk s H0 scope (compEnvC scope cl C Γ.X.env) fp) e (TEm Γ.noX m) :=
  PE.wk h fun σ H Q q => by
    obtain ⟨ρ, O, rs, q⟩ := q
    refine ⟨ρ, O, RS.toX (Γ := Γ.noX) (X' := Γ.X.blk s H0 scope (compEnvC scope cl C Γ.X.env) fp) (W' := fun _ _ _ _ => False) rfl rs, ?_⟩
    show Fin (Γ.blk s H0 scope C cl fp) σ H (ev Γ.cf m ρ) _
    have q : Fin Γ.noX σ H (ev Γ.cf m ρ) _ := q
    revert q
    cases ev Γ.cf m ρ with
    | err c => exact fun q => q
    | bad => exact fun q => q
    | ok d => exact fun q => fun v H' e o => q v H' e (Out.ofX (Γ := Γ.noX) (X' := Γ.X.blk s H0 scope (compEnvC scope cl C Γ.X.env) fp) (W' := fun _ _ _ _ => False) rfl o)
def TCm (Γ : Ctx) (c : Eo) : TT := fun σ H Q => ∃ ρ O, RS Γ O σ H ρ ∧ Fin Γ σ H (evc Γ.cf c ρ) fun b => ∀ H', Ex H H' → Q b H'
def IfsAt (Γ : Ctx) : Eo → List Expr → Prop
  | .no, [] => True
  | .yes m, [e] => ST Γ m e
  | _, _ => False
theorem ifs_blk {s : Shared} {H0 : Hp} {scope : Scope} {C : Addr} {cl : List (PySem.Str × Addr)} {fp : List Addr} {m : Eo} {es : List Expr} (h : IfsAt (Γ.blk s H0 scope C cl fp) m es) : PTs (Γ.X.blk s H0 scope (compEnvC scope cl C Γ.X.env) fp) es (TCm Γ.noX m) := by
  cases m with
  | no =>
    cases es with
    | cons _ _ => exact h.elim
    | nil => exact ⟨fun pins s σ H Q I q => pts_nil.run pins s σ H Q I (by
        obtain ⟨ρ, O, rs, q⟩ := q
        simp only [evc] at q
        exact q H (Ex.refl H))⟩
  | yes m =>
    match es, h with
    | [e], h => exact ⟨fun pins s' σ H Q I q => (pts_one (show PT _ e (TTm (Γ.blk s H0 scope C cl fp) m) from h)).run pins s' σ H Q I (by
        obtain ⟨ρ, O, rs, q⟩ := q
        simp only [evc] at q
        refine ⟨ρ, O, RS.toX (Γ := Γ.noX) (X' := Γ.X.blk s H0 scope (compEnvC scope cl C Γ.X.env) fp) (W' := fun _ _ _ _ => False) rfl rs, ?_⟩
        show Fin (Γ.blk s H0 scope C cl fp) σ H ((ev Γ.cf m ρ).bind asBool) _
        have q' : Fin Γ.noX σ H ((ev Γ.cf m ρ).bind asBool) _ := q
        cases e2 : (ev Γ.cf m ρ).bind asBool with
        | ok d => rw [e2] at q'; exact q'
        | err c => rw [e2] at q'; exact q'
        | bad => rw [e2] at q'; exact q')⟩
/-! ### one more own object -/
theorem Reps.more {O : List Addr} {H1 : Hp} {Dn : Addr} (hD : H1 Dn = none) {ds : List D} {vs : List V} (h : Reps Γ.K H1 (Pc Γ O) ds vs) : Reps Γ.K H1 (Pc Γ (Dn :: O)) ds vs :=
  (h.apart hD).wk fun b hb => ⟨fun z => (List.mem_cons.mp z).elim hb.2 hb.1.1, hb.1.2⟩
theorem Rep.more {O : List Addr} {H1 : Hp} {Dn : Addr} (hD : H1 Dn = none) {ds : D} {vs : V} (h : Rep Γ.K H1 (Pc Γ O) ds vs) : Rep Γ.K H1 (Pc Γ (Dn :: O)) ds vs :=
  (h.apart hD).wk fun b hb => ⟨fun z => (List.mem_cons.mp z).elim hb.2 hb.1.1, hb.1.2⟩
theorem Rep1.more {O : List Addr} {H1 : Hp} {Dn : Addr} (hD : H1 Dn = none) {d : D} {v : V} (h : Rep1 Γ.K H1 (Pc Γ O) d v) : Rep1 Γ.K H1 (Pc Γ (Dn :: O)) d v := by
  cases d with
  | lst ds =>
    obtain ⟨a, xs, e, ha, hr⟩ := h
    exact ⟨a, xs, e, ha, hr.more hD⟩
  | dic ks vs =>
    obtain ⟨a, xs, e, ha, hk, hr⟩ := h
    exact ⟨a, xs, e, ha, hk, hr.more hD⟩
  | non => exact Rep.more (Γ := Γ) (O := O) (ds := .non) hD h
  | bl b => exact Rep.more (Γ := Γ) (O := O) (ds := .bl b) hD h
  | int b => exact Rep.more (Γ := Γ) (O := O) (ds := .int b) hD h
  | str b => exact Rep.more (Γ := Γ) (O := O) (ds := .str b) hD h
  | tup b => exact Rep.more (Γ := Γ) (O := O) (ds := .tup b) hD h
  | exc b => exact (show False by simpa [Rep1, Rep] using h).elim
  | scr b => exact Rep.more (Γ := Γ) (O := O) (ds := .scr b) hD h
theorem OwnAt.more {O : List Addr} {H1 : Hp} {Dn a : Addr} (hD : H1 Dn = none) {d : D} (h : OwnAt Γ.K H1 (Pc Γ O) a d) : OwnAt Γ.K H1 (Pc Γ (Dn :: O)) a d := by
  cases d with
  | lst ds => obtain ⟨xs, e, hr⟩ := h; exact ⟨xs, e, hr.more hD⟩
  | dic ks vs => obtain ⟨xs, e, hk, hr⟩ := h; exact ⟨xs, e, hk, hr.more hD⟩
  | _ => exact h.elim
theorem KRep.more {O : List Addr} {H1 : Hp} {Dn : Addr} (hD : H1 Dn = none) {k : Kd} {d : D} {v : V} (h : KRep Γ H1 O k d v) : KRep Γ H1 (Dn :: O) k d v := by
  cases k with
  | ord => exact Rep.more hD h
  | fz => exact ⟨Rep.more hD h.1, h.2⟩
  | bor =>
    refine ⟨Rep1.more hD h.1, ?_⟩
    have h1 := h.1
    have h2 := h.2
    cases d <;> simp only [Away] at h2 ⊢
    · obtain ⟨b, xs, e, hb, _⟩ := h1
      subst e
      intro c ec z; cases ec
      rcases List.mem_cons.mp z with z | z
      · subst z; rw [hD] at hb; cases hb
      · exact h2 b rfl z
    · obtain ⟨b, xs, e, hb, _⟩ := h1
      subst e
      intro c ec z; cases ec
      rcases List.mem_cons.mp z with z | z
      · subst z
        rcases hb with hb | ⟨o, hb⟩ <;> (rw [hD] at hb; cases hb)
      · exact h2 b rfl z
  | own =>
    obtain ⟨a, h1, h2, h3⟩ := h
    exact ⟨a, h1, List.mem_cons_of_mem _ h2, OwnAt.more hD h3⟩
theorem RS.more {O : List Addr} {σ : Sg} {H1 H' : Hp} {ρ : Env} {Dn : Addr} (rs : RS Γ O σ H1 ρ) (hD : H1 Dn = none) (e : Ex H1 H') (hm : Mut (H' Dn)) : RS Γ (Dn :: O) σ H' ρ := by
  refine ⟨rs.len, rs.ex.trans e, fun a ha => ?_, fun i d hi => ?_, rs.dis⟩
  · rcases List.mem_cons.mp ha with z | z
    · subst z; exact ⟨rs.ex.none hD, hm⟩
    · exact ⟨(rs.own a z).1, mut_ex e (rs.own a z).2⟩
  · obtain ⟨v, h1, h2⟩ := rs.val i d hi
    exact ⟨v, h1, (h2.more hD).ex e⟩
/-! ### comprehensions -/
theorem lcGo_err {f : D → Res (Option D)} (hf : ∀ x c, f x ≠ .err c) : ∀ {xs : List D} {c : Nat}, lcGo f xs ≠ .err c
  | [], c => by simp [lcGo]
  | x :: r, c => by
    intro h
    simp only [lcGo] at h
    cases q : f x with
    | err e => exact hf x e q
    | bad => rw [q] at h; cases h
    | ok o =>
      rw [q] at h
      cases q2 : lcGo f r with
      | err e => exact lcGo_err hf q2
      | bad => rw [q2] at h; cases h
      | ok ys => rw [q2] at h; cases h
theorem nox_err {α : Type} (r : Res α) (c : Nat) : r.nox ≠ .err c := by cases r <;> (intro h; cases h)
def noSetD : Expr → Bool
  | .Set _ _ _ => false
  | _ => true
theorem folded_of {e : Expr} {env : PySem.Env} (h : noSetD e = true) : ∀ x, foldedSetIterable e env x = pure x := fun x => by
  unfold foldedSetIterable
  split
  · simp [noSetD] at h
  · rfl
/-- what the walk of a comprehension asks -/
theorem lc_run {tg : Tg} {src : Src} {cnd : Eo} {elt : E} {σ : Sg} {H : Hp} {Q : VK} (ho : ordAll Γ.ks tg.slots = true) (hk : lk Γ.ks elt = true) (h : TEm Γ (.lc tg src cnd elt) σ H Q) :
    tLc (TIm Γ (isTp tg) src) (gTg Γ.K tg) (TCm Γ.noX cnd) (TEm Γ.noX elt) tg.slots σ H Q := by
  obtain ⟨ρ, O, rs, h⟩ := h
  simp only [ev] at h
  refine ⟨ρ, O, rs, h.bnd.mono fun xs exs hxs J H1 e1 hlen wk _ => fun Dn hD => ?_⟩
  let f : D → Res (Option D) := fun x => match tg.bind x (wipes tg.slots ρ) with
    | some ρ' => ((evc Γ.cf cnd ρ').bind fun b => if b then (ev Γ.cf elt ρ').bind fun y => .ok (some y) else .ok none).nox
    | none => .bad
  have hxs' : Fin Γ σ H ((lcGo f xs).bind fun ys => .ok (D.lst ys)) (fun d => ∀ v H', Ex H H' → Out Γ O (.lc tg src cnd elt) H H' d v → Q v H') := hxs
  have hf : ∀ x c, f x ≠ .err c := fun x c z => by
    simp only [f] at z
    split at z
    · exact nox_err _ _ z
    · cases z
  cases hys : lcGo f xs with
  | err c => exact absurd hys (lcGo_err hf)
  | bad => rw [hys] at hxs'; exact hxs'.elim
  | ok ys =>
    rw [hys] at hxs'
    obtain ⟨G, Y, w, hG, hY⟩ := wk.run
    have rs1 := rs.ext e1
    refine lc_it w (fun i H' => ∃ don rest vs, lcGo f (xs.drop i) = .ok rest ∧ ys = don ++ rest ∧ don.length ≤ i ∧ Ex H1 H' ∧ H' Dn = some (.lst vs) ∧ Reps Γ.K H' (Pc Γ (Dn :: O)) don vs) ?_ ?_ ?_ ?_
    · exact ⟨[], ys, [], by rw [List.drop_zero]; exact hys, rfl, Nat.le_refl _, Ex.new hD, upd_same, reps_nil⟩
    · rintro i H' hi ⟨don, rest, vs, h1, h2, h3, h4, h5, h6⟩
      exact hG H' h4.keeps
    · rintro i v H2 H3 hi ⟨don, rest, vs, h1, h2, h3, h4, h5, h6⟩ y
      obtain ⟨x, hx, e3, hrep⟩ := hY i H2 v H3 hi h4.keeps y
      have hrx := hrep (Dn :: O) fun a ha => (List.mem_cons.mp ha).elim (fun z => .inr (z ▸ hD)) .inl
      have hdr : xs.drop i = x :: xs.drop (i + 1) := by
        obtain ⟨hi', ex⟩ := List.getElem?_eq_some_iff.mp hx
        rw [List.drop_eq_getElem_cons hi', ex]
      rw [hdr] at h1
      simp only [lcGo] at h1
      have m3 : Mut (H3 Dn) := by rw [e3 Dn _ h5]; trivial
      have rs3 : RS Γ.noX (Dn :: O) (L2.wipe σ tg.slots) H3 (wipes tg.slots ρ) := RS.toX (Γ := Γ) (X' := Γ.X) (W' := fun _ _ _ _ => False) rfl ((rs1.more hD (h4.trans e3) m3).wipe tg.slots)
      cases hfx : f x with
      | err c => exact absurd hfx (hf x c)
      | bad => rw [hfx] at h1; cases h1
      | ok o =>
        rw [hfx] at h1
        have hr2 : ∃ r, lcGo f (xs.drop (i + 1)) = .ok r := by
          cases q : lcGo f (xs.drop (i + 1)) with
          | err c => exact absurd q (lcGo_err hf)
          | bad => rw [q] at h1; cases h1
          | ok r => exact ⟨r, rfl⟩
        obtain ⟨rest2, hr2⟩ := hr2
        rw [hr2] at h1
        simp only [f] at hfx
        cases hb : tg.bind x (wipes tg.slots ρ) with
        | none => rw [hb] at hfx; cases hfx
        | some ρ' =>
          rw [hb] at hfx
          dsimp only at hfx
          refine tg_ok (Γ := Γ.noX) rs3 ho hrx hb fun σ' rs' hl' hj' => ⟨wipe_ext (by rw [hl', wipe_length]) fun j hj => ?_, ?_⟩
          · rw [hj' j hj, wipe_out' hj]
          · refine ⟨ρ', Dn :: O, rs', ?_⟩
            cases hc : evc Γ.cf cnd ρ' with
            | err c => rw [hc] at hfx; cases hfx
            | bad => rw [hc] at hfx; cases hfx
            | ok b =>
              rw [hc] at hfx
              intro H4 e4
              cases b with
              | false =>
                have : o = none := by
                  have q : (Res.ok none : Res (Option D)) = .ok o := hfx
                  cases q; rfl
                subst this
                rw [if_neg Bool.false_ne_true]
                have h1' : rest2 = rest := by cases h1; rfl
                subst h1'
                exact ⟨don, rest2, vs, hr2, h2, Nat.le_succ_of_le h3, (h4.trans e3).trans e4, (e3.trans e4) Dn _ h5, h6.ex (e3.trans e4)⟩
              | true =>
                rw [if_pos rfl]
                refine ⟨ρ', Dn :: O, rs'.ext e4, ?_⟩
                cases he : ev Γ.cf elt ρ' with
                | err c => rw [he] at hfx; cases hfx
                | bad => rw [he] at hfx; cases hfx
                | ok d =>
                  rw [he] at hfx
                  have : o = some d := by
                    have q : (Res.ok (some d) : Res (Option D)) = .ok o := hfx
                    cases q; rfl
                  subst this
                  intro u H5 e5 o5
                  have h1' : d :: rest2 = rest := by cases h1; rfl
                  subst h1'
                  have e45 := (e3.trans e4).trans e5
                  have hD5 := e45 Dn _ h5
                  refine ⟨vs, hD5, by rw [← h6.length]; omega, don ++ [d], rest2, vs ++ [u], hr2, by rw [h2]; simp, by rw [List.length_append]; simp; exact h3, ?_, upd_same, ?_⟩
                  · intro a ob ha
                    rw [upd_ne (fun z => by subst z; rw [hD] at ha; cases ha)]
                    exact ((h4.trans e45) a ob ha)
                  · have hall : Reps Γ.K H5 (Pc Γ (Dn :: O)) (don ++ [d]) (vs ++ [u]) := reps_append (h6.ex e45) (reps_cons.mpr ⟨o5.ord hk, reps_nil⟩)
                    exact Reps.move (F := fun a => a = Dn) ⟨fun a ob ha hn => by rw [upd_ne hn]; exact ha, fun a ha => by subst ha; exact .inr (by rw [hD5]; trivial)⟩ (fun a ha z => ha.1 (by rw [z]; exact List.mem_cons_self)) (fun a ha => ha) hall
    · rintro H' ⟨don, rest, vs, h1, h2, h3, h4, h5, h6⟩
      have hnil : rest = [] := by
        rw [List.drop_length] at h1
        cases h1; rfl
      subst hnil
      rw [List.append_nil] at h2
      subst h2
      have hpD : Pc Γ O Dn := rs1.pnew hD
      refine hxs' (.ref Dn) H' (e1.trans h4) (Val.out ⟨?_, Dn, rfl, e1.none hD, vs, h5, h6.wk fun b hb => ⟨⟨fun z => hb.1 (List.mem_cons_of_mem _ z), hb.2⟩, fun z => hb.1 (by rw [z]; exact List.mem_cons_self)⟩⟩)
      simp only [Rep]
      exact ⟨Dn, vs, rfl, hpD, h5, h6.wk fun b hb => ⟨fun z => hb.1 (List.mem_cons_of_mem _ z), hb.2⟩⟩
theorem tp_of {X : Cx} {tg : Tg} {e : Expr} (h : TgAt X tg e) : tpE e = isTp tg := by
  cases tg with
  | nm i => cases e <;> first | rfl | exact h.elim
  | tp is => cases e <;> first | rfl | exact h.elim
/-- all that a comprehension's text is asked -/
structure LcAt (Γ : Ctx) (tg : Tg) (src : Src) (cnd : Eo) (elt : E) (tgE iter eltE : Expr) (ifs : List Expr) (scope : Scope) (own : List (PySem.Str × Nat)) : Prop where
  src : SI Γ src tgE iter
  tp : tpE tgE = isTp tg
  blk : BlkOk Γ.X.N Γ.X.env.scope scope own
  slots : own.map (·.2) = tg.slots
  ord : ordAll Γ.ks tg.slots = true
  let_ : lk Γ.ks elt = true
  fold : noSetD iter = true
  tg : ∀ s H C cl fp, TgAt (Γ.X.blk s H scope (compEnvC scope cl C Γ.X.env) fp) tg tgE
  ifs : ∀ s H C cl fp, IfsAt (Γ.blk s H scope C cl fp) cnd ifs
  elt : ∀ s H C cl fp, SE (Γ.blk s H scope C cl fp) elt eltE
theorem se_lc (ok : XOk Γ) {tg : Tg} {src : Src} {cnd : Eo} {elt : E} {tgE iter eltE : Expr} {ifs : List Expr} {scope : Scope} {own : List (PySem.Str × Nat)} {pos : Pos} (h : LcAt Γ tg src cnd elt tgE iter eltE ifs scope own) :
    SE Γ (.lc tg src cnd elt) (.ListComp eltE [⟨tgE, iter, ifs, 0⟩] scope pos) := by
  refine PE.wk (pe_lc (g := gTg Γ.K tg) (tt := TCm Γ.noX cnd) (te := TEm Γ.noX elt) ok.calm ok.nd h.src h.blk (fun s H C cl fp => tg_pg (X := Γ.X.blk s H scope (compEnvC scope cl C Γ.X.env) fp) ok.calm ok.nd (h.tg s H C cl fp)) (fun s H C cl fp => ifs_blk (h.ifs s H C cl fp)) (fun s H C cl fp => se_blk (h.elt s H C cl fp)) (folded_of h.fold)) fun σ H Q q => ?_
  rw [h.slots, h.tp]
  exact lc_run h.ord h.let_ q
end VE

/-! Calls, statements. -/
namespace VE
open PySem PySem.Spec PyProof.Rows L2
variable {Γ : Ctx}
/-! ### calls -/
def ArgsAt (K : Frag) (H : Hp) (P : Addr → Prop) : List Kd → List D → List V → Prop
  | [], [], [] => True
  | k :: ks, d :: ds, v :: vs => (if k = .bor then Rep1 K H P d v else Rep K H P d v) ∧ ArgsAt K H P ks ds vs
  | _, _, _ => False
def spF (K : Frag) (cad : Nat → Addr) (kps : List Kd) (fresh : Bool) (r : List D → Res D) : Sp := fun vs H Q E => ∃ ds P, ArgsAt K H P kps ds vs ∧ match r ds with
  | .ok d => ∀ v H', Ex H H' → Rep K H' (fun b => P b ∨ H b = none) d v → (fresh = true → Fresh K H H' (fun b => P b ∨ H b = none) d v) → Q v H'
  | .err c => ∀ H', Ex H H' → E (.ref (cad c)) none H'
  | .bad => False
structure CallAt (Γ : Ctx) (f : Nat) (x : PySem.Str) (kps : List Kd) : Prop where
  run : ∀ {e : Expr} {es : List Expr} {t : TA} {p pos : Pos}, PA Γ.X (e :: es) t → noStar e = true → es.all noStar = true → PE Γ.X (.Call (.Name x p) (e :: es) [] pos) (tCallS (spF Γ.K Γ.cad kps (Γ.FR f) (Γ.cf f)) (WE Γ.W) t)
def argsLk (ks : List Kd) : List Kd → Es → Bool
  | [], .nil => true
  | k :: kps, .cons e es => (k == .bor || lk ks e) && argsLk ks kps es
  | _, _ => false
theorem Outs.args {O : List Addr} {H : Hp} : ∀ {kps : List Kd} {es : Es} {ds : List D} {vs : List V}, Outs Γ O H es ds vs → argsLk Γ.ks kps es = true → ArgsAt Γ.K H (Pc Γ O) kps ds vs
  | [], .nil, [], [], _, _ => by simp [ArgsAt]
  | k :: kps, .cons a es, d :: ds, v :: vs, h, q => by
    simp only [Outs] at h
    simp only [argsLk, Bool.and_eq_true, Bool.or_eq_true, beq_iff_eq] at q
    simp only [ArgsAt]
    refine ⟨?_, Outs.args h.2 q.2⟩
    split
    · exact h.1.1
    · rename_i hk
      exact h.1.2 (q.1.resolve_left hk)
  | [], .cons _ _, _, _, _, q => by simp [argsLk] at q
  | _ :: _, .nil, _, _, _, q => by simp [argsLk] at q
  | _, .nil, _ :: _, _, h, _ => by simp [Outs] at h
  | _, .nil, [], _ :: _, h, _ => by simp [Outs] at h
  | _, .cons _ _, [], _, h, _ => by simp [Outs] at h
  | _, .cons _ _, _ :: _, [], h, _ => by simp [Outs] at h
theorem Fresh.wk {K : Frag} {H H' : Hp} {P P' : Addr → Prop} (hp : ∀ a, P a → P' a) {d : D} {v : V} (h : Fresh K H H' P d v) : Fresh K H H' P' d v := by
  cases d with
  | lst ds =>
    obtain ⟨a, e, hn, ho⟩ := h
    exact ⟨a, e, hn, OwnAt.move (Ex.refl H').mv (fun _ _ z => z) (fun b z => ⟨hp b z.1, z.2⟩) (fun z => z) ho⟩
  | dic ks vs =>
    obtain ⟨a, e, hn, ho⟩ := h
    exact ⟨a, e, hn, OwnAt.move (Ex.refl H').mv (fun _ _ z => z) (fun b z => ⟨hp b z.1, z.2⟩) (fun z => z) ho⟩
  | _ => trivial
theorem se_call {f : Nat} {nm : PySem.Str} {kps : List Kd} {m : E} {ms : Es} {x : Expr} {xs : List Expr} {p pos : Pos} (hc : CallAt Γ f nm kps) (ha : SA Γ (.cons m ms) (x :: xs)) (hs : noStar x = true) (hss : xs.all noStar = true) (hl : argsLk Γ.ks kps (.cons m ms) = true) :
    SE Γ (.call f (.cons m ms)) (.Call (.Name nm p) (x :: xs) [] pos) :=
  PE.wk (hc.run ha hs hss) fun σ H Q h => by
    obtain ⟨ρ, O, rs, h⟩ := h
    simp only [ev] at h
    refine ⟨ρ, O, rs, h.bnd.mono fun ds eds hds vs H1 e1 o1 => ⟨ds, Pc Γ O, o1.args hl, ?_⟩⟩
    have hds' : Fin Γ σ H (Γ.cf f ds) (fun d => ∀ v H', Ex H H' → Out Γ O (.call f (.cons m ms)) H H' d v → Q v H') := hds
    have pw : ∀ b, Pc Γ O b ∨ H1 b = none → Pc Γ O b := fun b hb => hb.elim id fun z => (rs.ext e1).pnew z
    cases hr : Γ.cf f ds with
    | ok d =>
      rw [hr] at hds'
      intro v H' e2 hv hf
      have hv' := hv.wk pw
      exact hds' v H' (e1.trans e2) ⟨hv'.one, fun _ => hv', fun q => ((hf q).wk pw).back e1, fun _ => Rep.away (Γ := Γ) hv'⟩
    | err c =>
      rw [hr] at hds'
      exact fun H' e2 => hds' H' (e1.trans e2)
    | bad => rw [hr] at hds'; exact hds'.elim
/-! ### statements -/
structure Step (O : List Addr) (H : Hp) (O' : List Addr) (H' : Hp) : Prop where
  keep : Keeps O H H'
  own : ∀ a ∈ O', a ∈ O ∨ H a = none
theorem Step.ex {O : List Addr} {H H' : Hp} (e : Ex H H') : Step O H O H' := ⟨e.keeps, fun _ h => .inl h⟩
theorem Step.trans {O O1 O2 : List Addr} {H H1 H2 : Hp} (a : Step O H O1 H1) (b : Step O1 H1 O2 H2) : Step O H O2 H2 := by
  refine ⟨fun x o h n => ?_, fun x hx => ?_⟩
  · refine b.keep x o (a.keep x o h n) fun z => (a.own x z).elim n fun q => by rw [q] at h; cases h
  · rcases b.own x hx with z | z
    · exact a.own x z
    · by_cases ho : x ∈ O
      · exact .inl ho
      · right
        cases q : H x with
        | none => rfl
        | some o => rw [a.keep x o q ho] at z; cases z
variable (Γ)
def PR : Addr → Prop := fun b => Γ.P b ∨ Γ.H0 b = none
structure RetOk (rf : Bool) (d : D) (v : V) (H' : Hp) : Prop where
  ex : Ex Γ.H0 H'
  rep : Rep Γ.K H' (PR Γ) d v
  new : rf = true → Fresh Γ.K Γ.H0 H' (PR Γ) d v
def FinS (rf : Bool) (O : List Addr) (H : Hp) (fl : Fl) (E : Ends) : Prop := match fl with
  | .next ρ' => ∀ σ' H' O', RS Γ O' σ' H' ρ' → Step O H O' H' → E.nx σ' H'
  | .ret d => ∀ v H', RetOk Γ rf d v H' → E.rt v H'
  | .err c _ => ∀ σ' H', Ex Γ.H0 H' → Γ.W (.ref (Γ.cad c)) none σ' H'
  | .bad => False
def TSm (rf : Bool) (s : S) : TS := fun E σ H => ∃ ρ O, RS Γ O σ H ρ ∧ FinS Γ rf O H (exS Γ.cf s ρ) E
def TSs (rf : Bool) (s : Ss) : TS := fun E σ H => ∃ ρ O, RS Γ O σ H ρ ∧ FinS Γ rf O H (exSs Γ.cf s ρ) E
def SS (rf : Bool) (s : S) (st : Stmt) : Prop := PS Γ.X st (TSm Γ rf s)
def SSs (rf : Bool) (s : Ss) (st : List Stmt) : Prop := PSs Γ.X st (TSs Γ rf s)
variable {Γ}
variable {rf : Bool}
theorem FinS.step {O O1 : List Addr} {H H1 : Hp} {fl : Fl} {E : Ends} (h : FinS Γ rf O H fl E) (st : Step O H O1 H1) : FinS Γ rf O1 H1 fl E := by
  cases fl with
  | next ρ => exact fun σ' H' O' rs s2 => h σ' H' O' rs (st.trans s2)
  | ret d => exact h
  | err c ρ => exact h
  | bad => exact h
/-- an expression's part of a statement -/
theorem FinS.fin {r : Res D} {ρ : Env} {k : D → Fl} {O : List Addr} {σ : Sg} {H : Hp} {E : Ends} (rs : RS Γ O σ H ρ) (h : FinS Γ rf O H (thn r ρ k) E) : Fin Γ σ H r fun d => FinS Γ rf O H (k d) E := by
  cases r with
  | ok d => exact h
  | err c => exact fun H' e => h σ H' (rs.ex.trans e)
  | bad => exact h
theorem ss_nil : SSs Γ rf .nil [] := PSs.wk pss_nil fun E σ H h => by
  obtain ⟨ρ, O, rs, h⟩ := h
  simp only [exSs] at h
  exact h σ H O rs (Step.ex (Ex.refl H))
theorem ss_cons {s : S} {ss : Ss} {st : Stmt} {sts : List Stmt} (h1 : SS Γ rf s st) (h2 : SSs Γ rf ss sts) : SSs Γ rf (.cons s ss) (st :: sts) := PSs.wk (pss_cons h1 h2) fun E σ H h => by
  obtain ⟨ρ, O, rs, h⟩ := h
  simp only [exSs] at h
  refine ⟨ρ, O, rs, ?_⟩
  cases e : exS Γ.cf s ρ with
  | next ρ' =>
    rw [e] at h
    exact fun σ' H' O' rs' st => ⟨ρ', O', rs', FinS.step h st⟩
  | ret d => rw [e] at h; exact h
  | err c ρ' => rw [e] at h; exact h
  | bad => rw [e] at h; exact h
theorem ss_pass {pos : Pos} : SS Γ rf .pass (.Pass pos) := PS.wk ps_pass fun E σ H h => by
  obtain ⟨ρ, O, rs, h⟩ := h
  simp only [exS] at h
  exact h σ H O rs (Step.ex (Ex.refl H))
def noLC : Expr → Bool
  | .ListComp _ _ _ _ => false
  | .SetComp _ _ _ _ => false
  | .DictComp _ _ _ _ _ => false
  | _ => true
theorem sw_no {e : Expr} {t : Option Expr} {l : Nat} {env : PySem.Env} (h : noLC e = true) : swapsWith e t l env = pure false := by
  cases e <;> first | rfl | simp [noLC] at h
/-- a name that can be written -/
structure NmAt (X : Cx) (i : Nat) (x : PySem.Str) : Prop where
  ix : X.N[i]? = some x
  loc : Loc X.env.scope x
  fn : X.fn x = true ∨ X.env.scope.names.lookup x = some .local
theorem asg_ord {i : Nat} {e : E} {E' : Ends} {σ : Sg} {H : Hp} (hk : kdAt Γ.ks i = .ord) (hl : lk Γ.ks e = true) (h : TSm Γ rf (.asg i e) E' σ H) : tAsg (TEm Γ e) (gName i) E' σ H := by
  obtain ⟨ρ, O, rs, h⟩ := h
  simp only [exS] at h
  refine ⟨ρ, O, rs, (h.fin rs).mono fun d _ hd v H1 e1 o1 => ?_⟩
  exact hd _ H1 O ((rs.ext e1).put (by rw [hk]; decide) (by rw [hk]; exact o1.ord hl)) (Step.ex e1)
theorem ss_asg (ok : XOk Γ) {i : Nat} {e : E} {x : PySem.Str} {p pos : Pos} {ex : Expr} (hn : NmAt Γ.X i x) (he : SE Γ e ex) (hk : kdAt Γ.ks i = .ord) (hl : lk Γ.ks e = true) (hc : noLC ex = true) : SS Γ rf (.asg i e) (.Assign [.Name x p] ex pos) :=
  PS.wk (ps_set ok.nd hn.ix hn.loc he (sw_no hc) hn.fn) fun E σ H h => asg_ord hk hl h
/-- the value is new -/
theorem RS.putOwn {O : List Addr} {σ : Sg} {H H1 : Hp} {ρ : Env} {i : Nat} {d : D} {a : Addr} (rs : RS Γ O σ H ρ) (e1 : Ex H H1) (ha : H a = none) (ho : OwnAt Γ.K H1 (fun b => Pc Γ O b ∧ b ≠ a) a d) (hk : kdAt Γ.ks i = .own) : RS Γ (a :: O) (σ.set i (some (.ref a))) H1 (ρ.set i (some d)) := by
  have hm : Mut (H1 a) := by
    cases d with
    | lst ds => obtain ⟨xs, z, _⟩ := ho; rw [z]; trivial
    | dic ks vs => obtain ⟨xs, z, _⟩ := ho; rw [z]; trivial
    | _ => exact ho.elim
  have rm := rs.more ha e1 hm
  have hoa : OwnAt Γ.K H1 (Pc Γ (a :: O)) a d := OwnAt.move (Ex.refl H1).mv (fun _ _ z => z) (fun b z => ⟨fun q => (List.mem_cons.mp q).elim z.2 z.1.1, z.1.2⟩) (fun z => z) ho
  refine ⟨by rw [List.length_set, List.length_set]; exact rs.len, rm.ex, rm.own, fun j e hj => ?_, fun j l e f w hjl hj hl kj kl sj sl => ?_⟩
  · by_cases hij : i = j
    · subst hij
      by_cases hb : i < ρ.length
      · rw [List.getElem?_set_self hb] at hj
        cases hj
        refine ⟨.ref a, by rw [List.getElem?_set_self (by rw [← rs.len]; exact hb)], ?_⟩
        rw [hk]
        exact ⟨a, rfl, List.mem_cons_self, hoa⟩
      · rw [List.getElem?_eq_none (by simpa using hb)] at hj; cases hj
    · rw [List.getElem?_set_ne hij] at hj ⊢
      exact rm.val j e hj
  · -- an older own object is not the new one
    have far : ∀ (k : Nat) (g : D) (w : V), i ≠ k → ρ[k]? = some (some g) → kdAt Γ.ks k = .own → σ[k]? = some (some w) → w ≠ .ref a := fun k g w hik hg kk hw z => by
      obtain ⟨v, h1, h2⟩ := rs.val k g hg
      rw [hw] at h1; cases h1
      rw [kk] at h2
      obtain ⟨b, hb1, hb2, _⟩ := h2
      rw [hb1] at z; cases z
      have := (rs.own a hb2).2
      rw [ha] at this
      exact this
    by_cases h1 : i = j
    · subst h1
      have h2 : i ≠ l := hjl
      rw [List.getElem?_set_ne h2] at hl sl
      have hb : i < σ.length := by
        by_cases hb : i < σ.length
        · exact hb
        · rw [List.getElem?_eq_none (by simpa using hb)] at sj; cases sj
      rw [List.getElem?_set_self hb] at sj
      cases sj
      exact far l f _ h2 hl kl sl rfl
    · rw [List.getElem?_set_ne h1] at hj sj
      by_cases h2 : i = l
      · subst h2
        have hb : i < σ.length := by
          by_cases hb : i < σ.length
          · exact hb
          · rw [List.getElem?_eq_none (by simpa using hb)] at sl; cases sl
        rw [List.getElem?_set_self hb] at sl
        cases sl
        exact far j e _ h1 hj kj sj rfl
      · rw [List.getElem?_set_ne h2] at hl sl
        exact rs.dis j l e f w hjl hj hl kj kl sj sl
theorem asg_own {i : Nat} {e : E} {E' : Ends} {σ : Sg} {H : Hp} (hk : kdAt Γ.ks i = .own) (hf : fr Γ.FR e = true) (h : TSm Γ rf (.asgo i e) E' σ H) : tAsg (TEm Γ e) (gName i) E' σ H := by
  obtain ⟨ρ, O, rs, h⟩ := h
  simp only [exS] at h
  refine ⟨ρ, O, rs, (h.fin rs).mono fun d _ hd v H1 e1 o1 => ?_⟩
  have hn := o1.new hf
  have key : ∀ a, v = .ref a → H a = none → OwnAt Γ.K H1 (fun b => Pc Γ O b ∧ b ≠ a) a d → isCtn d = true → gName i v σ H1 E'.nx := fun a ea ha ho hc => by
    rw [hc, if_pos rfl] at hd
    subst ea
    exact hd _ H1 (a :: O) (rs.putOwn e1 ha ho hk) ⟨e1.keeps, fun b hb => (List.mem_cons.mp hb).elim (fun z => .inr (z ▸ ha)) .inl⟩
  cases d with
  | lst ds => obtain ⟨a, ea, ha, ho⟩ := hn; exact key a ea ha ho rfl
  | dic ks vs => obtain ⟨a, ea, ha, ho⟩ := hn; exact key a ea ha ho rfl
  | _ => exact hd.elim
theorem ss_asgo (ok : XOk Γ) {i : Nat} {e : E} {x : PySem.Str} {p pos : Pos} {ex : Expr} (hn : NmAt Γ.X i x) (he : SE Γ e ex) (hk : kdAt Γ.ks i = .own) (hf : fr Γ.FR e = true) (hc : noLC ex = true) : SS Γ rf (.asgo i e) (.Assign [.Name x p] ex pos) :=
  PS.wk (ps_set ok.nd hn.ix hn.loc he (sw_no hc) hn.fn) fun E σ H h => asg_own hk hf h
/-- a comprehension's value, named on its line -/
theorem ps_lc (ok : XOk Γ) {i : Nat} {y : PySem.Str} {py : Pos} {tg : Tg} {src : Src} {cnd : Eo} {elt : E} {tgE iter eltE : Expr} {ifs : List Expr} {scope : Scope} {own : List (PySem.Str × Nat)} {pos spos : Pos} (h : LcAt Γ tg src cnd elt tgE iter eltE ifs scope own) (hn : NmAt Γ.X i y)
    (hsw : (swapsWith (.ListComp eltE [⟨tgE, iter, ifs, 0⟩] scope pos) (some (.Name y py)) spos.line Γ.X.env = pure true ∧ Γ.X.env.scope.names.lookup y = some .local) ∨ swapsWith (.ListComp eltE [⟨tgE, iter, ifs, 0⟩] scope pos) (some (.Name y py)) spos.line Γ.X.env = pure false) :
    PS Γ.X (.Assign [.Name y py] (.ListComp eltE [⟨tgE, iter, ifs, 0⟩] scope pos) spos) (tAsg (TEm Γ (.lc tg src cnd elt)) (gName i)) := by
  rcases hsw with ⟨hsw, hloc⟩ | hsw
  · refine PS.wk (ps_setLc (g := gTg Γ.K tg) (tt := TCm Γ.noX cnd) (te := TEm Γ.noX elt) ok.calm ok.nd hn.ix hloc hsw h.src h.blk (fun s H C cl fp => tg_pg (X := Γ.X.blk s H scope (compEnvC scope cl C Γ.X.env) fp) ok.calm ok.nd (h.tg s H C cl fp)) (fun s H C cl fp => ifs_blk (h.ifs s H C cl fp)) (fun s H C cl fp => se_blk (h.elt s H C cl fp)) (folded_of h.fold)) fun D σ H q => ?_
    show tLc _ _ _ _ _ σ H _
    rw [h.slots]
    rw [h.tp]
    exact lc_run h.ord h.let_ q
  · exact ps_set ok.nd hn.ix hn.loc (se_lc ok h) hsw hn.fn
/-! the rest -/
theorem ss_ex {e : E} {x : Expr} {pos : Pos} (he : SE Γ e x) (hc : noLC x = true) : SS Γ rf (.ex e) (.Expr x pos) := PS.wk (ps_expr he (sw_no hc)) fun E σ H h => by
  obtain ⟨ρ, O, rs, h⟩ := h
  simp only [exS] at h
  exact ⟨ρ, O, rs, (h.fin rs).mono fun d _ hd v H1 e1 o1 => hd σ H1 O (rs.ext e1) (Step.ex e1)⟩
theorem pr_of {O : List Addr} (b : Addr) (h : Pc Γ O b) : PR Γ b := h.2
theorem ss_ret {e : E} {x : Expr} {pos : Pos} (he : SE Γ e x) (hl : lk Γ.ks e = true) (hf : rf = true → fr Γ.FR e = true) : SS Γ rf (.ret e) (.Return (some x) pos) := PS.wk (ps_ret he) fun E σ H h => by
  obtain ⟨ρ, O, rs, h⟩ := h
  simp only [exS] at h
  exact ⟨ρ, O, rs, (h.fin rs).mono fun d _ hd v H1 e1 o1 => hd v H1 ⟨rs.ex.trans e1, (o1.ord hl).wk pr_of, fun q => ((o1.new (hf q)).wk pr_of).back rs.ex⟩⟩
theorem ss_retO {i : Nat} {x : PySem.Str} {p pos : Pos} (hN : Γ.X.N[i]? = some x) (hv : Vis Γ.X.env.scope x) (hd : (x == ("__debug__" : PySem.Str)) = false) (hcd : (x == ("__classdict__" : PySem.Str)) = false) (hk : kdAt Γ.ks i = .own) : SS Γ rf (.ret (.v i)) (.Return (some (.Name x p)) pos) :=
  PS.wk (ps_ret (pe_var hN hv hd hcd)) fun E σ H h => by
    obtain ⟨ρ, O, rs, h⟩ := h
    simp only [exS, ev, Env.get] at h
    cases e : ρ[i]? with
    | none => rw [e] at h; exact h.elim
    | some o => cases o with
      | none => rw [e] at h; exact h.elim
      | some d =>
        rw [e] at h
        obtain ⟨v, hv, kr⟩ := rs.val i d e
        rw [hk] at kr
        obtain ⟨a, ea, ha, ho⟩ := kr
        subst ea
        have h0 : Γ.H0 a = none := (rs.own a ha).1
        refine ⟨.ref a, hv, h (.ref a) H ⟨rs.ex, OwnAt.rep ho pr_of (.inr h0), fun _ => ?_⟩⟩
        have ho2 : OwnAt Γ.K H (fun b => PR Γ b ∧ b ≠ a) a d := OwnAt.move (Ex.refl H).mv (fun _ _ z => z) (fun b z => ⟨pr_of b z, fun q => z.1 (q ▸ ha)⟩) (fun z => z) ho
        cases d with
        | lst ds => exact ⟨a, rfl, h0, ho2⟩
        | dic ks vs => exact ⟨a, rfl, h0, ho2⟩
        | _ => exact ho.elim
theorem ss_retN {pos : Pos} : SS Γ rf .retN (.Return none pos) := PS.wk ps_retN fun E σ H h => by
  obtain ⟨ρ, O, rs, h⟩ := h
  simp only [exS] at h
  exact h .non H ⟨rs.ex, by simp [Rep], fun _ => trivial⟩
theorem ss_ite {c : E} {a b : Ss} {x : Expr} {s t : List Stmt} {pos : Pos} (hc : ST Γ c x) (ha : SSs Γ rf a s) (hb : SSs Γ rf b t) : SS Γ rf (.ite c a b) (.If x s t pos) := PS.wk (ps_if hc ha hb) fun E σ H h => by
  obtain ⟨ρ, O, rs, h⟩ := h
  simp only [exS] at h
  refine ⟨ρ, O, rs, ?_⟩
  have h' := h.fin rs
  cases e : ev Γ.cf c ρ with
  | err c => rw [e] at h'; exact h'
  | bad => rw [e] at h'; exact h'
  | ok d =>
    rw [e] at h'
    cases d <;> (try (exact h'.elim))
    case bl b =>
      intro H1 e1
      cases b with
      | true => exact ⟨ρ, O, rs.ext e1, FinS.step h' (Step.ex e1)⟩
      | false => exact ⟨ρ, O, rs.ext e1, FinS.step h' (Step.ex e1)⟩
end VE

/-! Statements that change an own object; loops; raise. -/
namespace VE
open PySem PySem.Spec PyProof.Rows L2
variable {Γ : Ctx} {rf : Bool}
/-- the own object of slot i changes -/
theorem RS.chg {O : List Addr} {σ : Sg} {H H1 : Hp} {ρ : Env} {i : Nat} {d d' : D} {a : Addr} (rs : RS Γ O σ H ρ) (ha : a ∈ O) (hi : σ[i]? = some (some (.ref a))) (hρ : ρ[i]? = some (some d)) (hk : kdAt Γ.ks i = .own) (hH : ∀ b, b ≠ a → H1 b = H b) (hm : Mut (H1 a))
    (ho : OwnAt Γ.K H1 (Pc Γ O) a d') : RS Γ O σ H1 (ρ.set i (some d')) := by
  have mv : Mv (fun b => b = a) H H1 := ⟨fun b o hb hn => by rw [hH b hn]; exact hb, fun b hb => by subst hb; exact .inr (rs.own b ha).2⟩
  have npc : ∀ b, Pc Γ O b → ¬ b = a := fun b hb z => hb.1 (z ▸ ha)
  refine ⟨by rw [List.length_set]; exact rs.len, fun b o hb => ?_, fun b hb => ⟨(rs.own b hb).1, ?_⟩, fun j e hj => ?_, fun j l e f w hjl hj hl kj kl sj sl => ?_⟩
  · rw [hH b (fun z => by subst z; rw [(rs.own b ha).1] at hb; cases hb)]
    exact rs.ex b o hb
  · by_cases z : b = a
    · subst z; exact hm
    · rw [hH b z]; exact (rs.own b hb).2
  · by_cases hij : i = j
    · subst hij
      have hb : i < ρ.length := (List.getElem?_eq_some_iff.mp hρ).1
      rw [List.getElem?_set_self hb] at hj
      cases hj
      refine ⟨.ref a, hi, ?_⟩
      rw [hk]
      exact ⟨a, rfl, ha, ho⟩
    · rw [List.getElem?_set_ne hij] at hj
      obtain ⟨v, h1, h2⟩ := rs.val j e hj
      refine ⟨v, h1, ?_⟩
      cases kk : kdAt Γ.ks j with
      | ord => rw [kk] at h2; exact Rep.move mv npc (fun _ z => z) h2
      | fz =>
        rw [kk] at h2
        refine ⟨Rep.move mv npc (fun _ z => z) h2.1, h2.2.keep fun b o u q => ?_⟩
        rw [hH b (fun z => by
          subst z
          have := (rs.own b ha).2
          rw [q] at this
          exact this)]
        exact q
      | bor =>
        rw [kk] at h2
        refine ⟨?_, h2.2⟩
        have h21 := h2.1
        have h22 := h2.2
        cases e with
        | lst ds =>
          obtain ⟨b, xs, eb, hb, hr⟩ := h21
          subst eb
          have hba : b ≠ a := fun z => h22 b rfl (z ▸ ha)
          exact ⟨b, xs, rfl, by rw [hH b hba]; exact hb, Reps.move mv npc (fun _ z => z) hr⟩
        | dic ks vs =>
          obtain ⟨b, xs, eb, hb, hk', hr⟩ := h21
          subst eb
          have hba : b ≠ a := fun z => h22 b rfl (z ▸ ha)
          exact ⟨b, xs, rfl, mv.rd hb hba, hk', Reps.move mv npc (fun _ z => z) hr⟩
        | non => exact Rep.move (K := Γ.K) mv npc (fun _ z => z) (d := .non) h21
        | bl b => exact Rep.move (K := Γ.K) mv npc (fun _ z => z) (d := .bl b) h21
        | int b => exact Rep.move (K := Γ.K) mv npc (fun _ z => z) (d := .int b) h21
        | str b => exact Rep.move (K := Γ.K) mv npc (fun _ z => z) (d := .str b) h21
        | tup b => exact Rep.move (K := Γ.K) mv npc (fun _ z => z) (d := .tup b) h21
        | exc b => exact (show False by simpa [Rep1, Rep] using h21).elim
        | scr b => exact Rep.move (K := Γ.K) mv npc (fun _ z => z) (d := .scr b) h21
      | own =>
        rw [kk] at h2
        obtain ⟨b, eb, hb, hob⟩ := h2
        subst eb
        have hba : b ≠ a := fun z => by
          subst z
          exact rs.dis i j d e _ hij hρ hj hk kk hi h1
        exact ⟨b, rfl, hb, OwnAt.move mv npc (fun _ z => z) hba hob⟩
  · by_cases h1 : i = j
    · subst h1
      rw [List.getElem?_set_ne hjl] at hl
      exact rs.dis i l d f w hjl hρ hl kj kl sj sl
    · rw [List.getElem?_set_ne h1] at hj
      by_cases h2 : i = l
      · subst h2
        exact rs.dis j i e d w hjl hj hρ kj kl sj sl
      · rw [List.getElem?_set_ne h2] at hl
        exact rs.dis j l e f w hjl hj hl kj kl sj sl
theorem mv_upd {H : Hp} {a : Addr} {o : HO} (hm : Mut (H a)) : Mv (fun b => b = a) H (upd H a o) := ⟨fun b o' hb hn => by rw [upd_ne hn]; exact hb, fun b hb => by subst hb; exact .inr hm⟩
theorem step_upd {O : List Addr} {H H1 : Hp} {a : Addr} {o : HO} (e : Ex H H1) (ha : a ∈ O) : Step O H O (upd H1 a o) := ⟨fun b o' hb hn => by
    have hba : b ≠ a := fun z => hn (by rw [z]; exact ha)
    rw [upd_ne hba]
    exact e b o' hb, fun _ h => .inl h⟩
/-- an own variable's object -/
theorem own_at {O : List Addr} {σ : Sg} {H : Hp} {ρ : Env} {i : Nat} {d : D} (rs : RS Γ O σ H ρ) (hk : kdAt Γ.ks i = .own) (h : ρ.get i = .ok d) : ρ[i]? = some (some d) ∧ ∃ a, σ[i]? = some (some (.ref a)) ∧ a ∈ O ∧ OwnAt Γ.K H (Pc Γ O) a d := by
  unfold Env.get at h
  split at h
  · rename_i d' e
    cases h
    obtain ⟨v, hv, kr⟩ := rs.val i d e
    rw [hk] at kr
    obtain ⟨a, ea, ha, ho⟩ := kr
    subst ea
    exact ⟨e, a, hv, ha, ho⟩
  · cases h
theorem get_err {ρ : Env} {i c : Nat} : ρ.get i ≠ .err c := by
  intro h
  unfold Env.get at h
  split at h <;> cases h
structure VarAt (X : Cx) (i : Nat) (x : PySem.Str) : Prop where
  ix : X.N[i]? = some x
  vis : Vis X.env.scope x
  nd : (x == ("__debug__" : PySem.Str)) = false
  nc : (x == ("__classdict__" : PySem.Str)) = false
theorem ss_app {i : Nat} {e : E} {x : PySem.Str} {ex : Expr} {p apos cpos pos : Pos} (hv : VarAt Γ.X i x) (he : SE Γ e ex) (hk : kdAt Γ.ks i = .own) (hl : lk Γ.ks e = true) (hs : noStar ex = true) (hln : (apos.endLine == cpos.line) = true) :
    SS Γ rf (.app i e) (.Expr (.Call (.Attribute (.Name x p) "append" apos) [ex] [] cpos) pos) :=
  PS.wk (ps_expr (pe_bm PySem.F.plainAttrs_list PySem.F.slot_list_append PySem.F.type_list_append mt_append (pe_var hv.ix hv.vis hv.nd hv.nc) (pa_cons he pa_nil (star_of hs)) (base_of rfl) (few1 hs) hln (star_of hs) rfl) (sw_no rfl)) fun E σ H h => by
    obtain ⟨ρ, O, rs, h⟩ := h
    simp only [exS] at h
    have h1 := h.fin rs
    cases hg : ρ.get i with
    | err c => exact absurd hg get_err
    | bad => rw [hg] at h1; exact h1.elim
    | ok d =>
      rw [hg] at h1
      obtain ⟨hρ, a, hσ, ha, ho⟩ := own_at rs hk hg
      cases d <;> (try (exact h1.elim))
      case lst ds =>
        obtain ⟨xs, hx, hr⟩ := ho
        refine ⟨.ref a, hσ, .inl ⟨rfl, xs, SqL.of hx⟩, ρ, O, rs, (FinS.fin rs h1).mono fun d _ hd v H1 e1 o1 => ?_⟩
        have hx1 := e1 a _ hx
        split at hd
        · rename_i hlen
          refine ⟨a, xs, v, rfl, rfl, hx1, by rw [← hr.length, sizeLine_eq]; exact hlen, ?_⟩
          have rs1 := rs.ext e1
          have hall : Reps Γ.K H1 (Pc Γ O) (ds ++ [d]) (xs ++ [v]) := reps_append (hr.ex e1) (reps_cons.mpr ⟨o1.ord hl, reps_nil⟩)
          exact hd σ _ O (rs1.chg ha hσ hρ hk (fun b hb => upd_ne hb) (by rw [upd_same]; trivial) ⟨xs ++ [v], upd_same, Reps.move (mv_upd (rs1.own a ha).2) (fun b hb z => hb.1 (z ▸ ha)) (fun _ z => z) hall⟩) (step_upd e1 ha)
        · exact hd.elim
theorem ss_ext {i : Nat} {e : E} {x : PySem.Str} {ex : Expr} {p apos cpos pos : Pos} (hv : VarAt Γ.X i x) (he : SE Γ e ex) (hk : kdAt Γ.ks i = .own) (hs : noStar ex = true) (hln : (apos.endLine == cpos.line) = true) :
    SS Γ rf (.ext i e) (.Expr (.Call (.Attribute (.Name x p) "extend" apos) [ex] [] cpos) pos) :=
  PS.wk (ps_expr (pe_bm PySem.F.plainAttrs_list PySem.F.slot_list_extend PySem.F.type_list_extend mt_extend (pe_var hv.ix hv.vis hv.nd hv.nc) (pa_cons he pa_nil (star_of hs)) (base_of rfl) (few1 hs) hln (star_of hs) rfl) (sw_no rfl)) fun E σ H h => by
    obtain ⟨ρ, O, rs, h⟩ := h
    simp only [exS] at h
    have h1 := h.fin rs
    cases hg : ρ.get i with
    | err c => exact absurd hg get_err
    | bad => rw [hg] at h1; exact h1.elim
    | ok d =>
      rw [hg] at h1
      obtain ⟨hρ, a, hσ, ha, ho⟩ := own_at rs hk hg
      cases d <;> (try (exact h1.elim))
      case lst ds =>
        obtain ⟨xs, hx, hr⟩ := ho
        refine ⟨.ref a, hσ, .inl ⟨rfl, xs, SqL.of hx⟩, ρ, O, rs, (FinS.fin rs h1).mono fun d hdd hd v H1 e1 o1 => ?_⟩
        clear hdd
        have hx1 := e1 a _ hx
        cases d <;> (try (exact hd.elim))
        case lst es =>
          obtain ⟨b, ys, eb, hb, hr2⟩ := o1.one
          subst eb
          have hd' : FinS Γ rf O H (if ds.length + es.length ≤ big then .next (ρ.set i (some (.lst (ds ++ es)))) else .bad) E := hd
          split at hd'
          · rename_i hlen
            refine ⟨a, b, xs, ys, rfl, rfl, hx1, hb, by rw [← hr.length, ← hr2.length, sizeLine_eq]; exact hlen, ?_⟩
            have rs1 := rs.ext e1
            have hall : Reps Γ.K H1 (Pc Γ O) (ds ++ es) (xs ++ ys) := reps_append (hr.ex e1) hr2
            exact hd' σ _ O (rs1.chg ha hσ hρ hk (fun b hb => upd_ne hb) (by rw [upd_same]; trivial) ⟨xs ++ ys, upd_same, Reps.move (mv_upd (rs1.own a ha).2) (fun b hb z => hb.1 (z ▸ ha)) (fun _ z => z) hall⟩) (step_upd e1 ha)
          · exact hd'.elim
/-! ### an own object given away -/
theorem RS.give {O : List Addr} {σ : Sg} {H : Hp} {ρ : Env} {i j : Nat} {d : D} {a : Addr} (rs : RS Γ O σ H ρ) (ha : a ∈ O) (hσ : σ[j]? = some (some (.ref a))) (hρ : ρ[j]? = some (some d)) (hk : kdAt Γ.ks j = .own) (ho : OwnAt Γ.K H (Pc Γ O) a d) (hi : kdAt Γ.ks i = .ord) :
    RS Γ (O.filter (· != a)) (σ.set i (some (.ref a))) H ((ρ.set j none).set i (some d)) := by
  have sub : ∀ b, Pc Γ O b → Pc Γ (O.filter (· != a)) b := fun b hb => ⟨fun z => hb.1 (List.mem_filter.mp z).1, hb.2⟩
  have hpa : Pc Γ (O.filter (· != a)) a := ⟨fun z => by have := (List.mem_filter.mp z).2; simp at this, .inr (rs.own a ha).1⟩
  have r1 : RS Γ (O.filter (· != a)) σ H (ρ.set j none) := by
    refine ⟨by rw [List.length_set]; exact rs.len, rs.ex, fun b hb => rs.own b (List.mem_filter.mp hb).1, fun l e hl => ?_, fun l m e f w hlm hl hm kl km sl sm => ?_⟩
    · have hjl : j ≠ l := fun z => by
        subst z
        rw [List.getElem?_set_self (List.getElem?_eq_some_iff.mp hρ).1] at hl; cases hl
      rw [List.getElem?_set_ne hjl] at hl
      obtain ⟨v, h1, h2⟩ := rs.val l e hl
      refine ⟨v, h1, ?_⟩
      cases kk : kdAt Γ.ks l with
      | ord => rw [kk] at h2; exact Rep.wk sub h2
      | fz => rw [kk] at h2; exact ⟨Rep.wk sub h2.1, h2.2⟩
      | bor =>
        rw [kk] at h2
        refine ⟨Rep1.move (Ex.refl H).mv (fun _ _ z => z) sub (fun _ _ z => z) h2.1, ?_⟩
        have h22 := h2.2
        cases e <;> simp only [Away] at h22 ⊢ <;> exact fun b eb z => h22 b eb (List.mem_filter.mp z).1
      | own =>
        rw [kk] at h2
        obtain ⟨b, eb, hb, hob⟩ := h2
        subst eb
        have hba : b ≠ a := fun z => by
          subst z
          exact rs.dis j l d e _ hjl hρ hl hk kk hσ h1
        exact ⟨b, rfl, List.mem_filter.mpr ⟨hb, by simpa using hba⟩, OwnAt.move (Ex.refl H).mv (fun _ _ z => z) sub (fun z => z) hob⟩
    · have ne : ∀ n g, (ρ.set j none)[n]? = some (some g) → ρ[n]? = some (some g) := fun n g hn => by
        have hjn : j ≠ n := fun z => by
          subst z
          rw [List.getElem?_set_self (List.getElem?_eq_some_iff.mp hρ).1] at hn; cases hn
        rwa [List.getElem?_set_ne hjn] at hn
      exact rs.dis l m e f w hlm (ne l e hl) (ne m f hm) kl km sl sm
  exact r1.put (by rw [hi]; decide) (by rw [hi]; exact OwnAt.rep ho sub hpa)
theorem ss_mv (ok : XOk Γ) {i j : Nat} {x y : PySem.Str} {p q pos : Pos} (hn : NmAt Γ.X i x) (hv : VarAt Γ.X j y) (hi : kdAt Γ.ks i = .ord) (hj : kdAt Γ.ks j = .own) : SS Γ rf (.mv i j) (.Assign [.Name x p] (.Name y q) pos) :=
  PS.wk (ps_set ok.nd hn.ix hn.loc (pe_var hv.ix hv.vis hv.nd hv.nc) (sw_no rfl) hn.fn) fun E σ H h => by
    obtain ⟨ρ, O, rs, h⟩ := h
    simp only [exS] at h
    have h1 := h.fin rs
    cases hg : ρ.get j with
    | err c => exact absurd hg get_err
    | bad => rw [hg] at h1; exact h1.elim
    | ok d =>
      rw [hg] at h1
      obtain ⟨hρ, a, hσ, ha, ho⟩ := own_at rs hj hg
      exact ⟨.ref a, hσ, h1 _ H _ (rs.give ha hσ hρ hj ho hi) ⟨Keeps.refl _ _, fun b hb => .inl (List.mem_filter.mp hb).1⟩⟩
/-! ### two names at once -/
theorem ss_par2 (ok : XOk Γ) {i j : Nat} {a b : E} {x y : PySem.Str} {ex ey : Expr} {px py pt pos : Pos} {kt k2 pt2} (hi : Γ.X.N[i]? = some x) (hj : Γ.X.N[j]? = some y) (hij : i ≠ j) (hx : Γ.X.env.scope.names.lookup x = some .local) (hy : Γ.X.env.scope.names.lookup y = some .local)
    (ha : SE Γ a ex) (hb : SE Γ b ey) (hs : noStar ex = true) (ht : noStar ey = true) (hk : ordAll Γ.ks [i, j] = true) (hl : lk Γ.ks a = true) (hm : lk Γ.ks b = true)
    (hw : swappedStores [.Tuple [.Name x px, .Name y py] kt pt] (.Tuple [ex, ey] k2 pt2) Γ.X.env = pure (some [x, y])) : SS Γ rf (.par [i, j] (.cons a (.cons b .nil))) (.Assign [.Tuple [.Name x px, .Name y py] kt pt] (.Tuple [ex, ey] k2 pt2) pos) :=
  PS.wk (ps_par ok.calm ok.nd hi hj hij hx hy (sa_cons ha (sa_cons hb sa_nil ht) hs) hw rfl) fun E σ H h => by
    obtain ⟨ρ, O, rs, h⟩ := h
    simp only [exS] at h
    refine ⟨ρ, O, rs, ?_⟩
    have h1 := h.fin rs
    cases hev : evs Γ.cf (.cons a (.cons b .nil)) ρ with
    | err c => rw [hev] at h1; exact h1
    | bad => rw [hev] at h1; exact h1
    | ok ds =>
      rw [hev] at h1
      intro vs H1 e1 o1
      match ds, vs, o1, h1 with
      | [d1, d2], [v1, v2], o1, h1 =>
        simp only [Outs] at o1
        simp only [ordAll, List.all_cons, List.all_nil, Bool.and_true, Bool.and_eq_true, beq_iff_eq] at hk
        have h2 : FinS Γ rf O H (.next ((ρ.set i (some d1)).set j (some d2))) E := h1
        exact ⟨v1, v2, rfl, h2 _ H1 O (((rs.ext e1).put (by rw [hk.1]; decide) (by rw [hk.1]; exact o1.1.2 hl)).put (by rw [hk.2]; decide) (by rw [hk.2]; exact o1.2.1.2 hm)) (Step.ex e1)⟩
      | [], _, o1, _ => simp [Outs] at o1
      | [_], [], o1, _ => simp [Outs] at o1
      | [_], _ :: _, o1, _ => simp [Outs] at o1
      | _ :: _ :: _ :: _, [], o1, _ => simp [Outs] at o1
      | _ :: _ :: _ :: _, [_], o1, _ => simp [Outs] at o1
      | _ :: _ :: _ :: _, _ :: _ :: _, o1, _ => simp [Outs] at o1
      | [_, _], [], o1, _ => simp [Outs] at o1
      | [_, _], [_], o1, _ => simp [Outs] at o1
      | [_, _], _ :: _ :: _ :: _, o1, _ => simp [Outs] at o1
/-! ### for -/
theorem ss_for (ok : XOk Γ) (hp : PassesOwn (model Γ.X.prog Γ.X.w) Γ.X.A Γ.X.env Γ.X.xe) {tg : Tg} {src : Src} {b : Ss} {tgE iter : Expr} {body : List Stmt} {pos : Pos} (hi : SI Γ src tgE iter) (ht : TgAt Γ.X tg tgE) (hb : SSs Γ rf b body) (ho : ordAll Γ.ks tg.slots = true) (hf : srcFar Γ.ks src = true) (hn : noSetD iter = true) :
    SS Γ rf (.for_ tg src b) (.For tgE iter body [] pos) :=
  PS.wk (ps_for hp ok.calm hi (tg_pg ok.calm ok.nd ht) hb (folded_of hn)) fun E σ H h => by
    rw [tp_of ht]
    obtain ⟨ρ, O, rs, h⟩ := h
    simp only [exS] at h
    refine ⟨ρ, O, rs, ?_⟩
    cases hit : its Γ.cf src ρ with
    | err c => rw [hit] at h; exact fun H' e => h σ H' (rs.ex.trans e)
    | bad => rw [hit] at h; exact h
    | ok xs =>
      rw [hit] at h
      intro J H1 e1 hlen _ wk
      obtain ⟨G, Y, w, hG, hY⟩ := (wk hf).run
      let f : D → Env → Fl := fun x ρ => match tg.bind x ρ with
        | some ρ' => exSs Γ.cf b ρ'
        | none => .bad
      have h' : FinS Γ rf O H (forGo f xs ρ) E := h
      refine for_it w (fun i σ' H' => ∃ ρ' O', RS Γ O' σ' H' ρ' ∧ Step O H1 O' H' ∧ FinS Γ rf O' H' (forGo f (xs.drop i) ρ') E) ?_ ?_ ?_ ?_
      · exact ⟨ρ, O, rs.ext e1, Step.ex (Ex.refl _), by rw [List.drop_zero]; exact h'.step (Step.ex e1)⟩
      · rintro i σ' H' hi ⟨ρ', O', rs', st, _⟩
        exact hG H' st.keep
      · rintro i v σ' H2 H3 hi ⟨ρ', O', rs', st, fin⟩ y
        obtain ⟨x, hx, e3, hrep⟩ := hY i H2 v H3 hi st.keep y
        have hrx := hrep O' st.own
        have hdr : xs.drop i = x :: xs.drop (i + 1) := by
          obtain ⟨hi', ex⟩ := List.getElem?_eq_some_iff.mp hx
          rw [List.drop_eq_getElem_cons hi', ex]
        rw [hdr] at fin
        simp only [forGo] at fin
        cases hbd : tg.bind x ρ' with
        | none =>
          have : f x ρ' = .bad := by simp only [f, hbd]
          rw [this] at fin; exact fin.elim
        | some ρ2 =>
          have hfx : f x ρ' = exSs Γ.cf b ρ2 := by simp only [f, hbd]
          rw [hfx] at fin
          refine tg_ok (rs'.ext e3) ho hrx hbd fun σ2 rs2 _ _ => ⟨ρ2, O', rs2, ?_⟩
          cases hex : exSs Γ.cf b ρ2 with
          | next ρ3 =>
            rw [hex] at fin
            intro σ4 H4 O4 rs4 st4
            have s34 : Step O' H2 O4 H4 := (Step.ex e3).trans st4
            exact ⟨ρ3, O4, rs4, st.trans s34, FinS.step fin s34⟩
          | ret d => rw [hex] at fin; exact fin
          | err c ρ3 => rw [hex] at fin; exact fin
          | bad => rw [hex] at fin; exact fin
      · rintro σ' H' ⟨ρ', O', rs', st, fin⟩
        rw [List.drop_length] at fin
        simp only [forGo] at fin
        exact fin σ' H' O' rs' (Step.ex (Ex.refl _))
/-! ### raise -/
structure RaiseAt (Γ : Ctx) (c : Nat) (e : Expr) : Prop where
  run : PMk Γ.X e (fun _ H Q => Q (.ref (Γ.cad c)) none H)
theorem ss_rse (ok : XOk Γ) {c : Nat} {e : Expr} {pos : Pos} (h : RaiseAt Γ c e) : SS Γ rf (.rse c) (.Raise (some e) none pos) :=
  PS.wk (ps_raise ok.calm ok.tk h.run) fun E σ H h => by
    obtain ⟨ρ, O, rs, h⟩ := h
    simp only [exS] at h
    exact h σ H rs.ex
end VE

/-! while. -/
namespace VE
open PySem PySem.Spec PyProof.Rows L2
variable {Γ : Ctx} {rf : Bool}
theorem ss_whl (hp : PassesOwn (model Γ.X.prog Γ.X.w) Γ.X.A Γ.X.env Γ.X.xe) {c : E} {b : Ss} {x : Expr} {body : List Stmt} {pos : Pos} (hc : ST Γ c x) (hb : SSs Γ rf b body) : SS Γ rf (.whl c b) (.While x body [] pos) :=
  PS.wk (ps_while hp hc hb) fun E σ H h => by
    obtain ⟨ρ, O, rs, h⟩ := h
    simp only [exS] at h
    refine ⟨fun m σ H => ∃ ρ O, RS Γ O σ H ρ ∧ FinS Γ rf O H (whGo (fun ρ => ev Γ.cf c ρ) (fun ρ => exSs Γ.cf b ρ) m ρ) E, ⟨whileMax, ρ, O, rs, h⟩, ?_⟩
    rintro m σ H ⟨ρ, O, rs, fin⟩
    cases m with
    | zero => exact fin.elim
    | succ k =>
      simp only [whGo] at fin
      refine ⟨ρ, O, rs, ?_⟩
      cases e : (ev Γ.cf c ρ).bind asBool with
      | err c => rw [e] at fin; exact fun H' ex => fin σ H' (rs.ex.trans ex)
      | bad => rw [e] at fin; exact fin
      | ok t =>
        rw [e] at fin
        intro H1 e1
        cases t with
        | false =>
          rw [if_neg Bool.false_ne_true]
          exact fin σ H1 O (rs.ext e1) (Step.ex e1)
        | true =>
          rw [if_pos rfl]
          refine ⟨fun σ' H' => ∃ ρ O, RS Γ O σ' H' ρ ∧ FinS Γ rf O H' (whGo (fun ρ => ev Γ.cf c ρ) (fun ρ => exSs Γ.cf b ρ) k ρ) E, fun σ' H' q => ⟨k, Nat.lt_succ_self k, q⟩, ρ, O, rs.ext e1, ?_⟩
          cases hx : exSs Γ.cf b ρ with
          | next ρ' =>
            rw [hx] at fin
            exact fun σ' H' O' rs' st => ⟨ρ', O', rs', FinS.step fin ((Step.ex e1).trans st)⟩
          | ret d => rw [hx] at fin; exact fin
          | err c ρ' => rw [hx] at fin; exact fin
          | bad => rw [hx] at fin; exact fin
/-- names that the caller's pair is unpacked to -/
theorem ss_parT (ok : XOk Γ) {is : List Nat} {ms : Es} {es xs : List Expr} {kt k2 : Nat} {pt pt2 pos : Pos} (hn : NamesAt Γ.X is es) (ha : SA Γ ms xs) (hk : ordAll Γ.ks is = true) (hl : lks Γ.ks ms = true) (hz : ms.len ≤ 100000)
    (hw : swappedStores [.Tuple es kt pt] (.Tuple xs k2 pt2) Γ.X.env = pure none) : SS Γ rf (.par is ms) (.Assign [.Tuple es kt pt] (.Tuple xs k2 pt2) pos) := by
  obtain ⟨g1, g2, g3⟩ := names_pgs ok.nd hn
  refine PS.wk (ps_asg (se_tup ha hl hz) (pg_tup ok.calm g1 g2 g3) rfl hw rfl) fun E σ H h => ?_
  obtain ⟨ρ, O, rs, h⟩ := h
  simp only [exS] at h
  refine ⟨ρ, O, rs, ?_⟩
  have h1 := h.fin rs
  have e0 : ev Γ.cf (.tup ms) ρ = (evs Γ.cf ms ρ).bind fun ds => .ok (.tup ds) := by simp only [ev]
  rw [e0]
  cases hev : evs Γ.cf ms ρ with
  | err c => rw [hev] at h1; exact h1
  | bad => rw [hev] at h1; exact h1
  | ok ds =>
    rw [hev] at h1
    intro v H1 e1 o1
    have hr := o1.ord rfl
    simp only [Rep] at hr
    obtain ⟨a, ys, ea, ht, hr⟩ := hr
    subst ea
    have h2 : FinS Γ rf O H (match setAll ρ is ds with | some ρ' => .next ρ' | none => .bad) E := h1
    cases hs : setAll ρ is ds with
    | none => rw [hs] at h2; exact h2.elim
    | some ρ' =>
      rw [hs] at h2
      exact ⟨a, ys, rfl, ht.sq, by rw [← hr.length, setAll_len hs], all_ok' (rs.ext e1) hk hr hs fun σ' rs' _ _ => h2 σ' H1 O rs' (Step.ex e1)⟩
end VE

/-! A dict that is changed. -/
namespace VE
open PySem PySem.Spec PyProof.Rows L2
variable {Γ : Ctx} {rf : Bool}
theorem any_keys (k : Key) : ∀ kvs : List (Key × V), (kvs.map fun p => kD p.1).any (fun x => keyEq x (kD k)) = kvs.any fun kv => decide (kv.1 = k)
  | [] => rfl
  | p :: r => by rw [List.map_cons, List.any_cons, List.any_cons, any_keys k r, keyEq_kD]
theorem zipV_reps {K : Frag} {H : Hp} {P : Addr → Prop} {k : Key} {d : D} {v : V} (hd : Rep K H P d v) : ∀ {kvs : List (Key × V)} {vs : List D}, Reps K H P vs (kvs.map (·.2)) → Reps K H P (zipV (kD k) d (kvs.map fun p => kD p.1) vs) ((kvs.map fun kv => if kv.1 = k then (kv.1, v) else kv).map (·.2))
  | [], [], _ => by simp [zipV, Reps]
  | p :: r, x :: vs, h => by
    rw [List.map_cons, reps_cons] at h
    simp only [List.map_cons, zipV, keyEq_kD]
    refine reps_cons.mpr ⟨?_, zipV_reps hd h.2⟩
    by_cases e : p.1 = k
    · simp only [e, decide_true, if_true]; exact hd
    · simp only [e, decide_false, Bool.false_eq_true, if_false]; exact h.1
  | [], _ :: _, h => by simp [Reps] at h
  | _ :: _, [], h => by simp [Reps] at h
theorem zipV_keys {k : Key} {v : V} : ∀ kvs : List (Key × V), (kvs.map fun kv => if kv.1 = k then (kv.1, v) else kv).map (fun p => kD p.1) = kvs.map fun p => kD p.1
  | [] => rfl
  | p :: r => by
    simp only [List.map_cons]
    congr 1
    · split <;> rfl
    · have := zipV_keys (k := k) (v := v) r
      simpa using this
theorem put_ok {K : Frag} {H : Hp} {P : Addr → Prop} {k : Key} {d : D} {v : V} {kvs : List (Key × V)} {ks vs : List D} (hk : KsOf kvs ks) (hr : Reps K H P vs (kvs.map (·.2))) (hd : Rep K H P d v) (hs : ∀ x, k = Sum.inr x → x.length ≤ sizeLine) :
    KsOf (putK kvs k v) (dput (kD k) d ks vs).1 ∧ Reps K H P (dput (kD k) d ks vs).2 ((putK kvs k v).map (·.2)) := by
  obtain ⟨e, sh⟩ := hk
  subst e
  unfold dput putK
  rw [any_keys]
  by_cases c : (kvs.any fun kv => decide (kv.1 = k)) = true
  · rw [if_pos c, if_pos c]
    refine ⟨⟨zipV_keys kvs, fun p hp x ex => ?_⟩, zipV_reps hd hr⟩
    obtain ⟨q, hq, rfl⟩ := List.mem_map.mp hp
    by_cases e : q.1 = k
    · rw [if_pos e] at ex; exact sh q hq x ex
    · rw [if_neg e] at ex; exact sh q hq x ex
  · rw [if_neg c, if_neg c]
    refine ⟨⟨by simp, fun p hp x ex => ?_⟩, ?_⟩
    · rcases List.mem_append.mp hp with z | z
      · exact sh p z x ex
      · rw [List.mem_singleton.mp z] at ex; exact hs x ex
    · rw [List.map_append]
      exact reps_append hr (reps_cons.mpr ⟨hd, reps_nil⟩)
theorem drop_ok {K : Frag} {H : Hp} {P : Addr → Prop} {k : Key} : ∀ {kvs : List (Key × V)} {vs : List D}, Reps K H P vs (kvs.map (·.2)) →
    (dropK kvs k).map (fun p => kD p.1) = dropKs (kD k) (kvs.map fun p => kD p.1) vs ∧ Reps K H P (dropVs (kD k) (kvs.map fun p => kD p.1) vs) ((dropK kvs k).map (·.2))
  | [], [], _ => by simp [dropK, dropKs, dropVs, Reps]
  | p :: r, x :: vs, h => by
    rw [List.map_cons, reps_cons] at h
    obtain ⟨h1, h2⟩ := drop_ok (k := k) h.2
    simp only [List.map_cons, dropKs, dropVs, keyEq_kD]
    unfold dropK at h1 h2 ⊢
    by_cases e : p.1 = k
    · simp only [List.filter_cons, e, ne_eq, not_true, decide_false, Bool.false_eq_true, if_false, decide_true, if_true]
      exact ⟨h1, h2⟩
    · simp only [List.filter_cons, e, ne_eq, not_false_eq_true, decide_true, if_true, decide_false, Bool.false_eq_true, if_false, List.map_cons]
      exact ⟨by rw [h1], reps_cons.mpr ⟨h.1, h2⟩⟩
  | [], _ :: _, h => by simp [Reps] at h
  | _ :: _, [], h => by simp [Reps] at h
theorem key_short {K : Frag} {H : Hp} {P : Addr → Prop} {k : Key} {v : V} (h : Rep1 K H P (kD k) v) : ∀ x, k = Sum.inr x → x.length ≤ sizeLine := fun x e => by
  subst e
  simp only [kD, Rep1, Rep] at h
  simpa [PySem.Str.length] using h.2
theorem ss_put (ok : XOk Γ) {i : Nat} {k e : E} {x : PySem.Str} {kx ex : Expr} {p p2 pos : Pos} (hv : VarAt Γ.X i x) (hK : SE Γ k kx) (he : SE Γ e ex) (hk : kdAt Γ.ks i = .own) (hl : lk Γ.ks e = true) (hc : noLC ex = true) :
    SS Γ rf (.put i k e) (.Assign [.Subscript (.Name x p) kx p2] ex pos) :=
  PS.wk (ps_dput (by have := ok.units; omega) (pe_var hv.ix hv.vis hv.nd hv.nc) hK he (sw_no hc)) fun E σ H h => by
    obtain ⟨ρ, O, rs, h⟩ := h
    simp only [exS] at h
    refine ⟨ρ, O, rs, (h.fin rs).mono fun d _ hd v H1 e1 o1 => ?_⟩
    have rs1 := rs.ext e1
    have h1 := FinS.fin rs1 (FinS.step hd (Step.ex e1))
    cases hg : ρ.get i with
    | err c => exact absurd hg get_err
    | bad => rw [hg] at h1; exact h1.elim
    | ok l =>
      rw [hg] at h1
      obtain ⟨hρ, a, hσ, ha, ho⟩ := own_at rs1 hk hg
      cases l <;> (try (exact h1.elim))
      case dic ks vs =>
        obtain ⟨kvs, hx, hks, hr⟩ := ho
        refine ⟨.ref a, hσ, ρ, O, rs1, (FinS.fin rs1 h1).mono fun y hyy hy u H2 e2 o2 => ?_⟩
        clear hyy
        split at hy
        · rename_i hc2
          rw [Bool.and_eq_true, decide_eq_true_eq] at hc2
          obtain ⟨kk, ek, eu⟩ := isKey_kD hc2.1 o2.one
          subst ek eu
          have rs2 := rs1.ext e2
          have hx2 := e2 a _ hx
          have hkl : kvs.length < sizeLine := by
            have := hc2.2
            rw [← hks.eq, List.length_map] at this
            rw [sizeLine_eq]; exact this
          obtain ⟨q1, q2⟩ := put_ok (k := kk) hks (hr.ex e2) ((o1.ord hl).ex e2) (key_short o2.one)
          refine ⟨a, _, rfl, DPut.k hx2 hkl, ?_⟩
          exact hy σ _ O (rs2.chg ha hσ hρ hk (fun b hb => upd_ne hb) (by rw [upd_same]; trivial) ⟨putK kvs kk v, upd_same, q1, Reps.move (mv_upd (rs2.own a ha).2) (fun b hb z => hb.1 (z ▸ ha)) (fun _ z => z) q2⟩) (step_upd e2 ha)
        · exact hy.elim
theorem ss_dpop {i : Nat} {k : E} {x : PySem.Str} {kx : Expr} {p apos cpos pos : Pos} (hv : VarAt Γ.X i x) (hK : SE Γ k kx) (hk : kdAt Γ.ks i = .own) (hs : noStar kx = true) (hln : (apos.endLine == cpos.line) = true) :
    SS Γ rf (.dpop i k) (.Expr (.Call (.Attribute (.Name x p) "pop" apos) [kx] [] cpos) pos) :=
  PS.wk (ps_expr (pe_dpop1 (pe_var hv.ix hv.vis hv.nd hv.nc) hK ⟨base_of rfl, few1 hs, hln, by rw [star_of hs]; rfl⟩) (sw_no rfl)) fun E σ H h => by
    obtain ⟨ρ, O, rs, h⟩ := h
    simp only [exS] at h
    have h1 := h.fin rs
    cases hg : ρ.get i with
    | err c => exact absurd hg get_err
    | bad => rw [hg] at h1; exact h1.elim
    | ok l =>
      rw [hg] at h1
      obtain ⟨hρ, a, hσ, ha, ho⟩ := own_at rs hk hg
      cases l <;> (try (exact h1.elim))
      case dic ks vs =>
        obtain ⟨kvs, hx, ⟨hm, hsh⟩, hr⟩ := ho
        subst hm
        refine ⟨.ref a, hσ, a, rfl, .inl ⟨kvs, .inl hx⟩, ρ, O, rs, (FinS.fin rs h1).mono fun y hyy hy u H2 e2 o2 => ?_⟩
        clear hyy
        split at hy
        · rename_i hc2
          rw [Bool.and_eq_true] at hc2
          obtain ⟨kk, ek, eu⟩ := isKey_kD hc2.1 o2.one
          subst ek eu
          have rs2 := rs.ext e2
          have hx2 := e2 a _ hx
          have hr2 := hr.ex e2
          have hsome : (valV kvs kk).isSome = true := by rw [← dget_some hr2]; exact hc2.2
          obtain ⟨v, hv⟩ := Option.isSome_iff_exists.mp hsome
          obtain ⟨q1, q2⟩ := drop_ok (k := kk) hr2
          refine ⟨kvs, kk, v, hx2, rfl, hv, ?_⟩
          exact hy σ _ O (rs2.chg ha hσ hρ hk (fun b hb => upd_ne hb) (by rw [upd_same]; trivial) ⟨dropK kvs kk, upd_same, ⟨q1, fun p hp => hsh p (List.mem_filter.mp hp).1⟩, Reps.move (mv_upd (rs2.own a ha).2) (fun b hb z => hb.1 (z ▸ ha)) (fun _ z => z) q2⟩) (step_upd e2 ha)
        · exact hy.elim
end VE

/-! dict(pairs); max and min of a list. -/
namespace VE
open PySem PySem.Spec PyProof.Rows L2
variable {Γ : Ctx}
theorem SqP.plain {X : Cx} {pins : List (Addr × Obj)} {σ : Sg} {H : Hp} {s : Shared} {a : Addr} {xs : List V} (I : Inv X pins σ H s) (h : SqP X.K H a xs) : ∃ its : List Value, Vals xs its ∧ PlainSeq "tuple" s.heap a its.toArray ∧ xs.length ≤ sizeLine := by
  rcases h with ⟨o, h, ho⟩ | ⟨o, its, n, h1, h2, h3, h4, h5⟩
  · obtain ⟨e, hz, its, r, o', e', hc, n, hd⟩ := (show ObjOk X.prog X.w H s.heap a (.frz o (.tup xs)) from I.hok a _ h)
    have e'' : some o = some o' := e.symm.trans e'
    cases e''
    exact ⟨its, r, ⟨o, n, e, hc, ho.2, hd⟩, hz⟩
  · refine ⟨its.toList, h5, ⟨o, n, I.kIn a o h1, h2.1, h2.2, by simpa using h3⟩, ?_⟩
    have e := h5.length
    simp only [Array.length_toList] at e
    omega
/-- dict(t) of a tuple of pairs -/
theorem call_dictT {X : Cx} (hcalm : X.calm = true) : CallR X (.type "dict") (fun xs H Q => ∃ (a : Addr) (ps : List Addr) (kvs : List (Key × V)), xs = [.ref a] ∧ SqP X.K H a (ps.map V.ref) ∧ Paired (fun p kv => SqT X.K H p [kV kv.1, kv.2]) ps kvs ∧
    ∀ p, H p = none → Q (.ref p) (upd H p (.dK (mergeK [] kvs)))) := by
  intro pins s σ H xs us Q I r q
  obtain ⟨a, ps, kvs, ex, hq, hp, q⟩ := q
  subst ex
  obtain ⟨u, eu, rx⟩ := vals1 r
  subst eu
  cases rx
  obtain ⟨its, rv, pl, hz⟩ := hq.plain I
  have ei := refs_at rv
  subst ei
  rw [List.length_map] at hz
  obtain ⟨prs, rel, hl, hpr⟩ := pairs_of I hp
  have hpl : ∀ j (hj : j < prs.length), ∃ (b : Addr) (u : Value), ps[j]? = some b ∧ IsTup s.heap b #[u, prs[j].2] ∧ keyIs prs[j].1 u = true := fun j hj => hpr j prs[j] (List.getElem?_eq_getElem hj)
  -- the keys as they stand
  have hks : ∃ us : List Value, us.length = prs.length ∧ ∀ j (hj : j < prs.length) u, us[j]? = some u → ∃ b, ps[j]? = some b ∧ IsTup s.heap b #[u, prs[j].2] ∧ keyIs prs[j].1 u = true := by
    refine ⟨(List.range prs.length).map fun j => if hj : j < prs.length then Classical.choose (Classical.choose_spec (hpl j hj)) else .none, by simp, fun j hj u hu => ?_⟩
    rw [List.getElem?_map, List.getElem?_range hj] at hu
    simp only [Option.map_some, Option.some.injEq] at hu
    rw [dif_pos hj] at hu
    subst hu
    exact ⟨_, Classical.choose_spec (Classical.choose_spec (hpl j hj))⟩
  obtain ⟨us, ul, hus⟩ := hks
  let qs : List (Value × Value) := us.zip (prs.map (·.2))
  have ql : qs.length = ps.length := by simp [qs, ul, hl]
  have hq2 : ∀ (j : Nat) (k v : Value), qs[j]? = some (k, v) → ∃ (hj : j < prs.length), us[j]? = some k ∧ prs[j].2 = v := fun j k v e => by
    rw [List.getElem?_zip_eq_some] at e
    have hj : j < prs.length := by
      have := (List.getElem?_eq_some_iff.mp e.1).1
      omega
    refine ⟨hj, e.1, ?_⟩
    have := e.2
    rw [List.getElem?_map, List.getElem?_eq_getElem hj] at this
    simpa using this
  refine PySem.call_dict_pairs (knd := mixKind X.prog X.w) (kvs := prs) (n := qs.length) (PairArg.tuple a (ps.map Value.ref).toArray (fun j => ps.getD j 0) qs) (I.ok.hd hcalm) ⟨pl, by simp [ql], fun j k v e => ?_⟩ ⟨by rw [ql, hl], fun i key v e => ?_⟩ (by rw [ql]; exact hz) fun h' tk hd' k => ?_
  · obtain ⟨hj, e1, e2⟩ := hq2 j k v e
    obtain ⟨b, eb, ht, _⟩ := hus j hj k e1
    rw [e2] at ht
    refine ⟨by simp [eb, List.getD_eq_getElem?_getD], .inl ?_⟩
    show s.heap.IsTuple (ps.getD j 0) _
    rw [List.getD_eq_getElem?_getD, eb]
    exact ht
  · obtain ⟨hj, e1, e2⟩ := hq2 i key v e
    obtain ⟨b, eb, _, hk⟩ := hus i hj key e1
    refine ⟨prs[i].1, ?_, hk⟩
    rw [List.getElem?_eq_getElem hj, ← e2]
  · have hm : (s.heap.objs.size == sysModules) = false := beq_eq_false_iff_ne.mpr (Nat.ne_of_gt I.big)
    have hlen : (mergeK [] kvs).length ≤ sizeLine := by
      refine Nat.le_trans (length_mergeK kvs []) ?_
      rw [List.length_nil, Nat.zero_add, rel.length, hl]
      exact hz
    exact ⟨.ref s.heap.objs.size, upd H s.heap.objs.size (.dK (mergeK [] kvs)), I.laid (t' := tk) (fun b o e => k b o (by simp) e) (Nat.le_refl _) (show ObjOk X.prog X.w _ _ _ (.dK (mergeK [] kvs)) from ⟨hlen, hm, merged [] prs, KV.merge rel .nil, hd'⟩), rfl, q _ (I.hok.fresh (Nat.le_refl _))⟩
abbrev rDictOf (K : Frag) : List V → Hp → VK → Prop := fun xs H Q => (∃ (a : Addr) (ps : List Addr) (kvs : List (Key × V)), xs = [.ref a] ∧ SqL K H a (ps.map V.ref) ∧ Paired (fun p kv => SqT K H p [kV kv.1, kv.2]) ps kvs ∧ ∀ p, H p = none → Q (.ref p) (upd H p (.dK (mergeK [] kvs)))) ∨
  ∃ (a : Addr) (ps : List Addr) (kvs : List (Key × V)), xs = [.ref a] ∧ SqP K H a (ps.map V.ref) ∧ Paired (fun p kv => SqT K H p [kV kv.1, kv.2]) ps kvs ∧ ∀ p, H p = none → Q (.ref p) (upd H p (.dK (mergeK [] kvs)))
theorem merge_ok {K : Frag} {H : Hp} {P : Addr → Prop} : ∀ {ds : List D} {vs : List V} {acc acc' : List D × List D} {kvs : List (Key × V)}, Reps K H P ds vs → merge ds acc = some acc' → KsOf kvs acc.1 → Reps K H P acc.2 (kvs.map (·.2)) →
    ∃ (ps : List Addr) (more : List (Key × V)), vs = ps.map V.ref ∧ Paired (fun p kv => SqT K H p [kV kv.1, kv.2]) ps more ∧ KsOf (mergeK kvs more) acc'.1 ∧ Reps K H P acc'.2 ((mergeK kvs more).map (·.2))
  | [], [], acc, acc', kvs, _, e, hk, hr => by
    simp only [merge, Option.some.injEq] at e
    subst e
    exact ⟨[], [], rfl, .nil, hk, hr⟩
  | d :: ds, v :: vs, acc, acc', kvs, h, e, hk, hr => by
    rw [reps_cons] at h
    unfold merge at e
    split at e <;> first | contradiction | skip
    · rename_i h1
      cases h1
      rename_i k w
      split at e
      · rename_i hik
        have hd := h.1
        simp only [Rep] at hd
        obtain ⟨a, xs, ev, hs, hx⟩ := hd
        obtain ⟨v1, r1, rfl, hv1, hx⟩ := reps_consL.mp hx
        obtain ⟨v2, r2, rfl, hv2, hx⟩ := reps_consL.mp hx
        have : r2 = [] := by cases r2 with | nil => rfl | cons _ _ => simp [Reps] at hx
        subst this
        obtain ⟨kk, ek, eu⟩ := isKey_kD hik hv1.one
        subst ek eu ev
        obtain ⟨q1, q2⟩ := put_ok (k := kk) hk hr hv2 (key_short hv1.one)
        obtain ⟨ps, more, e1, e2, e3, e4⟩ := merge_ok h.2 e q1 q2
        exact ⟨a :: ps, (kk, v2) :: more, by rw [e1]; rfl, .cons hs.sq e2, e3, e4⟩
      · cases e
  | [], _ :: _, _, _, _, h, _, _, _ => by simp [Reps] at h
  | _ :: _, [], _, _, _, h, _, _, _ => by simp [Reps] at h
theorem dict_ok {σ : Sg} {ρ : Env} {O : List Addr} {H : Hp} {x d : D} {v : V} {Q : VK} (rs : RS Γ O σ H ρ) (hx : Rep1 Γ.K H (Pc Γ O) x v) (e : b1D .dict x = .ok d) (q : ∀ w H', Ex H H' → Val (Γ := Γ) O H H' d w → Q w H') : rDictOf Γ.K [v] H Q := by
  have ks0 : KsOf ([] : List (Key × V)) [] := ⟨rfl, fun p hp => by cases hp⟩
  have fin : ∀ {ks vs : List D} {kvs : List (Key × V)}, KsOf kvs ks → Reps Γ.K H (Pc Γ O) vs (kvs.map (·.2)) → ∀ p, H p = none → Val (Γ := Γ) O H (upd H p (.dK kvs)) (.dic ks vs) (.ref p) := fun {ks vs kvs} hk hr p hp => by
    have e : Ex H (upd H p (.dK kvs)) := Ex.new hp
    refine ⟨?_, p, rfl, hp, kvs, upd_same, hk, (hr.apart hp).ex e⟩
    simp only [Rep]
    exact ⟨p, kvs, rfl, rs.pnew hp, .inl upd_same, hk, hr.ex e⟩
  cases x <;> simp only [b1D] at e <;> try contradiction
  case lst ds =>
    obtain ⟨a, xs, ex, ha, hr⟩ := hx
    subst ex
    obtain ⟨acc, e1, rfl⟩ := map_ok e
    obtain ⟨ps, more, e2, e3, e4, e5⟩ := merge_ok (kvs := []) hr e1 ks0 reps_nil
    subst e2
    exact .inl ⟨a, ps, more, rfl, SqL.of ha, e3, fun p hp => q _ _ (Ex.new hp) (fin e4 e5 p hp)⟩
  case tup ds =>
    simp only [Rep1, Rep] at hx
    obtain ⟨a, xs, ex, ha, hr⟩ := hx
    subst ex
    obtain ⟨acc, e1, rfl⟩ := map_ok e
    obtain ⟨ps, more, e2, e3, e4, e5⟩ := merge_ok (kvs := []) hr e1 ks0 reps_nil
    subst e2
    exact .inr ⟨a, ps, more, rfl, ha, e3, fun p hp => q _ _ (Ex.new hp) (fin e4 e5 p hp)⟩
theorem se_dict (ok : XOk Γ) {a : E} {x : Expr} {p pos : Pos} (hg : Gl Γ.X "dict") (hm : Γ.X.mg "dict" = none) (ha : SE Γ a x) (hs : noStar x = true) : SE Γ (.b1 .dict a) (.Call (.Name "dict" p) [x] [] pos) :=
  se_b1T ((call_dictP ok.calm).or (call_dictT ok.calm)) hg hm (by decide +kernel) ha hs rfl (by decide) (by decide) (fun rs hx e q => dict_ok rs hx e q) (b1D_err _)
/-! ### max and min of a list -/
mutual
theorem toPy_inj : ∀ (x y : D), plain x = true → plain y = true → toPy x = toPy y → x = y := by
  intro x y px py h
  cases x <;> cases y <;> simp only [plain] at px py <;> (try contradiction) <;> simp only [toPy] at h <;> (try contradiction) <;> (try rfl)
  case bl.bl a b => cases h; rfl
  case int.int a b => cases h; rfl
  case str.str a b =>
    injection h with h
    have := congrArg (fun s : PySem.Str => s.cps.toList) h
    simp at this
    rw [this]
  case lst.lst a b =>
    injection h with h
    rw [toPys_inj a b px py h]
  case tup.tup a b =>
    injection h with h
    rw [toPys_inj a b px py h]
theorem toPys_inj : ∀ (x y : List D), plains x = true → plains y = true → toPys x = toPys y → x = y
  | [], [], _, _, _ => rfl
  | x :: xs, y :: ys, px, py, h => by
    have p : plain x = true ∧ plains xs = true := by simpa [plains] using px
    have q : plain y = true ∧ plains ys = true := by simpa [plains] using py
    simp only [toPys] at h
    injection h with h1 h2
    rw [toPy_inj x y p.1 q.1 h1, toPys_inj xs ys p.2 q.2 h2]
  | [], _ :: _, _, _, h => by simp [toPys] at h
  | _ :: _, [], _, _, h => by simp [toPys] at h
end
theorem best_max : ∀ (ds : List D) (x : D), (∀ a ∈ x :: ds, ∀ b ∈ x :: ds, alike a b = true) → (∀ a ∈ x :: ds, plain a = true) → PySem.W.maxD (toPy x) (ds.map toPy) = toPy (best ltD x ds) ∧ best ltD x ds ∈ x :: ds
  | [], x, _, _ => ⟨rfl, List.mem_cons_self⟩
  | y :: ds, x, al, pl => by
    have h1 := lt_py x y (al x List.mem_cons_self y (List.mem_cons_of_mem _ List.mem_cons_self)) (pl x List.mem_cons_self) (pl y (List.mem_cons_of_mem _ List.mem_cons_self))
    have e : PySem.W.maxD (toPy x) ((y :: ds).map toPy) = PySem.W.maxD (toPy (if ltD x y = true then y else x)) (ds.map toPy) := by
      unfold PySem.W.maxD
      rw [List.map_cons, List.foldl_cons]
      congr 1
      rw [h1]
      split <;> rfl
    rw [e, best]
    have hsub : ∀ a ∈ (if ltD x y = true then y else x) :: ds, a ∈ x :: y :: ds := fun a ha => by
      rcases List.mem_cons.mp ha with z | z
      · rw [z]; split <;> simp
      · simp [z]
    obtain ⟨q1, q2⟩ := best_max ds (if ltD x y = true then y else x) (fun a ha b hb => al a (hsub a ha) b (hsub b hb)) (fun a ha => pl a (hsub a ha))
    exact ⟨q1, hsub _ q2⟩
theorem best_min : ∀ (ds : List D) (x : D), (∀ a ∈ x :: ds, ∀ b ∈ x :: ds, alike a b = true) → (∀ a ∈ x :: ds, plain a = true) → PySem.W.minD (toPy x) (ds.map toPy) = toPy (best (fun a b => ltD b a) x ds) ∧ best (fun a b => ltD b a) x ds ∈ x :: ds
  | [], x, _, _ => ⟨rfl, List.mem_cons_self⟩
  | y :: ds, x, al, pl => by
    have h1 := lt_py y x (al y (List.mem_cons_of_mem _ List.mem_cons_self) x List.mem_cons_self) (pl y (List.mem_cons_of_mem _ List.mem_cons_self)) (pl x List.mem_cons_self)
    have e : PySem.W.minD (toPy x) ((y :: ds).map toPy) = PySem.W.minD (toPy (if ltD y x = true then y else x)) (ds.map toPy) := by
      unfold PySem.W.minD
      rw [List.map_cons, List.foldl_cons]
      congr 1
      rw [h1]
      split <;> rfl
    rw [e, best]
    have hsub : ∀ a ∈ (if ltD y x = true then y else x) :: ds, a ∈ x :: y :: ds := fun a ha => by
      rcases List.mem_cons.mp ha with z | z
      · rw [z]; split <;> simp
      · simp [z]
    obtain ⟨q1, q2⟩ := best_min ds (if ltD y x = true then y else x) (fun a ha b hb => al a (hsub a ha) b (hsub b hb)) (fun a ha => pl a (hsub a ha))
    exact ⟨q1, hsub _ q2⟩
abbrev rBest (Γ : Ctx) (lt : D → D → Bool) : List V → Hp → VK → Prop := fun xs H Q => ∃ (P : Addr → Prop) (a : Addr) (vs : List V) (d : D) (ds : List D), xs = [.ref a] ∧ SqL Γ.K H a vs ∧ Reps Γ.K H P (d :: ds) vs ∧ sortable (d :: ds) = true ∧ ∀ v, Rep Γ.K H P (best lt d ds) v → Q v H
theorem at_each {K : Frag} {H : Hp} {P : Addr → Prop} : ∀ {us : List Value} {ds : List D} {i : Nat} {u : Value}, PySem.W.EachIs (fun u d => ∃ v, RelV v u ∧ Rep K H P d v) us ds → us[i]? = some u → ∃ d v, ds[i]? = some d ∧ RelV v u ∧ Rep K H P d v
  | _, _, _, _, .nil, h => by simp at h
  | _, _, 0, u, .cons ⟨v, r, h⟩ t, e => by
    simp only [List.getElem?_cons_zero, Option.some.injEq] at e
    subst e
    exact ⟨_, v, rfl, r, h⟩
  | _, _, i + 1, u, .cons h t, e => by
    rw [List.getElem?_cons_succ] at e
    obtain ⟨d, v, e1, e2, e3⟩ := at_each t e
    exact ⟨d, v, by rw [List.getElem?_cons_succ]; exact e1, e2, e3⟩
theorem call_best (ok : XOk Γ) (mx : Bool) : CallR Γ.X (.builtin (if mx then "max" else "min")) (rBest Γ (if mx then ltD else fun a b => ltD b a)) := by
  intro pins s σ H xs us Q I r h
  obtain ⟨P, a, vs, d, ds, rfl, hs, hr, so, q⟩ := h
  obtain ⟨its, rv, hl, hz⟩ := I.list hs
  rw [vals_ref r]
  have so := sok_of so
  have e := reps_each hr rv
  have er : PySem.W.EachIs (fun u d => ∃ as, Reads s.heap u (toPy d) as) its (d :: ds) := by
    have := PySem.W.each_mem e
    exact this.mono fun u d ⟨⟨v, r1, r2⟩, hd⟩ => Dp.reads I _ v u (r2.dp (so.pl d hd)) r1
  obtain ⟨as, hra⟩ := PySem.W.each_readsAll toPy er
  have hunits : Γ.X.A.units + 1 + PyData.depthAll (toPy d :: ds.map toPy) < cLine := by
    have h1 := so.dp
    have h2 := ok.units
    have h3 := deeps_py (d :: ds) (by
      have : ∀ l : List D, (∀ x ∈ l, plain x = true) → plains l = true := fun l => by
        induction l with
        | nil => intro _; simp [plains]
        | cons x r ih => intro h; simp only [plains, Bool.and_eq_true]; exact ⟨h x List.mem_cons_self, ih fun y hy => h y (List.mem_cons_of_mem _ hy)⟩
      exact this _ so.pl)
    rw [toPys_map, List.map_cons] at h3
    rw [h3]
    omega
  have hal : PySem.W.AlikeAll (toPy d :: ds.map toPy) := by
    have h1 := so.all
    rw [List.map_cons] at h1
    refine ⟨h1, fun x hx z => ?_⟩
    rw [← List.map_cons] at hx
    obtain ⟨y, hy, ey⟩ := List.mem_map.mp hx
    have ay := so.alm y hy y hy
    rw [z] at ey
    cases y <;> simp only [alike] at ay <;> (try contradiction) <;> simp only [toPy] at ey <;> contradiction
  have hend : ∀ (m : D), m ∈ d :: ds → ∀ (i : Nat) v h' tk bs, its.toArray[i]? = some v → Reads h' v (toPy m) bs → (∀ b o, s.heap.get? b = some o → h'.get? b = some o) → (∀ w, Rep Γ.K H P m w → Q w H) →
      ∃ (x : V) (H' : Hp), Inv Γ.X pins σ H' { s with heap := h', toks := tk } ∧ RelV x v ∧ Q x H' := fun m hm i v h' tk bs hv hrd hk hq => by
    obtain ⟨d', w, e1, e2, e3⟩ := at_each e (i := i) (u := v) (by simpa using hv)
    have hd' : d' ∈ d :: ds := List.mem_of_getElem? e1
    obtain ⟨as', hr'⟩ := Dp.reads I _ w v (e3.dp (so.pl d' hd')) e2
    have := (PyProof.Rows.reads_det (fun b o e _ => hk b o e) hr' hrd).1
    have := toPy_inj d' m (so.pl d' hd') (so.pl m hm) this.symm
    subst this
    exact ⟨w, H, I.kept (t' := tk) hk, e2, hq w e3⟩
  cases mx with
  | true =>
    obtain ⟨b1, b2⟩ := best_max ds d so.alm so.pl
    refine PySem.W.max_list_data (x := toPy d) (xs := ds.map toPy) (I.ok.hd ok.calm) hl.isList (by simpa using hra) hal hunits fun i v h' tk bs hv hrd hk => ?_
    rw [b1] at hrd
    exact hend _ b2 i v h' tk bs hv hrd hk q
  | false =>
    obtain ⟨b1, b2⟩ := best_min ds d so.alm so.pl
    refine PySem.W.min_list_data (x := toPy d) (xs := ds.map toPy) (I.ok.hd ok.calm) hl.isList (by simpa using hra) hal hunits fun i v h' tk bs hv hrd hk => ?_
    rw [b1] at hrd
    exact hend _ b2 i v h' tk bs hv hrd hk q
theorem TEm.un' {a m : E} {k : D → Res D} {r : V → Hp → VK → Prop} {σ : Sg} {H : Hp} {Q : VK} (hm : ∀ ρ, ev Γ.cf m ρ = (ev Γ.cf a ρ).bind fun x => k x) (hf : fr Γ.FR m = false)
    (hr : ∀ {ρ O H x v d Q}, RS Γ O σ H ρ → Rep1 Γ.K H (Pc Γ O) x v → k x = .ok d → (∀ w H', Ex H H' → Rep Γ.K H' (Pc Γ O) d w → Q w H') → r v H Q)
    (hk : ∀ x c, k x ≠ .err c) (h : TEm Γ m σ H Q) : tUn r (TEm Γ a) σ H Q := by
  obtain ⟨ρ, O, rs, h⟩ := h
  rw [hm] at h
  refine ⟨ρ, O, rs, h.bnd.mono fun x ex hx v H1 e1 o1 => ?_⟩
  have hx' : Fin Γ σ H (k x) _ := hx
  cases q : k x with
  | ok d =>
    rw [q] at hx'
    exact hr (rs.ext e1) o1.one q fun w H' e2 o2 => hx' w H' (e1.trans e2) ⟨o2.one, fun _ => o2, fun z => absurd (hf.symm.trans z) (by decide), fun _ => o2.away⟩
  | err c => exact absurd q (hk x c)
  | bad => rw [q] at hx'; exact hx'.elim
theorem best_ok {σ : Sg} {ρ : Env} {O : List Addr} {H : Hp} {x d : D} {v : V} {Q : VK} {mx : Bool} (rs : RS Γ O σ H ρ) (hx : Rep1 Γ.K H (Pc Γ O) x v) (e : b1D (if mx then .max else .min) x = .ok d) (q : ∀ w H', Ex H H' → Rep Γ.K H' (Pc Γ O) d w → Q w H') : rBest Γ (if mx then ltD else fun a b => ltD b a) [v] H Q := by
  cases mx <;> cases x <;> simp only [b1D, if_true, if_false, Bool.false_eq_true] at e <;> try contradiction
  all_goals
    rename_i ds
    cases ds with
    | nil => simp at e
    | cons y r =>
      simp only at e
      split at e
      · rename_i so
        cases e
        obtain ⟨a, xs, ex, ha, hr⟩ := hx
        subst ex
        exact ⟨Pc Γ O, a, xs, y, r, rfl, SqL.of ha, hr, so, fun v hv => q v H (Ex.refl H) hv⟩
      · cases e
theorem se_best (ok : XOk Γ) (mx : Bool) {a : E} {x : Expr} {nm : PySem.Str} {p pos : Pos} (hnm : nm = if mx then "max" else "min") (hg : Gl Γ.X nm) (hm : Γ.X.mg nm = none) (ha : SE Γ a x) (hs : noStar x = true) : SE Γ (.b1 (if mx then .max else .min) a) (.Call (.Name nm p) [x] [] pos) := by
  subst hnm
  have hv : bootBuiltins (if mx then "max" else "min") = some (.builtin (if mx then "max" else "min")) := by cases mx <;> decide +kernel
  refine PE.wk (pe_callB (call_best ok mx) hg hm (by cases mx <;> exact hv) (pa_cons ha pa_nil (star_of hs)) (by cases mx <;> decide) (by cases mx <;> decide) (star_of hs) rfl) fun σ H Q h => ?_
  exact TEm.un' (r := fun x H Q => rBest Γ (if mx then ltD else fun a b => ltD b a) [x] H Q) (k := b1D (if mx then .max else .min)) (fun ρ => by simp only [ev]) (by cases mx <;> rfl) (fun rs hx e q => best_ok rs hx e q) (b1D_err _) h
/-! ### the place in a constant tuple -/
def TupFact (X : Cx) (x : PySem.Str) (ss : List (List Nat)) : Prop :=
  ∃ (a : Addr) (o : Obj) (its : Array Value) (n : Nat), X.mg x = some (.ref a) ∧ X.K.lookup a = some o ∧ PObj o ∧ o.data = .seq its n ∧ its.size ≤ sizeLine ∧ Vals (ss.map fun s => V.str (mkS s)) its.toList
theorem idx_first (s : List Nat) : ∀ (ss : List (List Nat)), s ∈ ss → ss[ss.idxOf s]? = some s ∧ ∀ m, m < ss.idxOf s → ss[m]? ≠ some s
  | x :: r, h => by
    rw [List.idxOf_cons]
    by_cases e : x = s
    · subst e
      simp
    · have h2 := (List.mem_cons.mp h).resolve_left fun q => e q.symm
      obtain ⟨q1, q2⟩ := idx_first s r h2
      rw [beq_eq_false_iff_ne.mpr e]
      refine ⟨by simpa using q1, fun m hm => ?_⟩
      cases m with
      | zero => simpa using e
      | succ m => exact (by simpa using q2 m (by simpa using hm))
theorem se_kix {ss : List (List Nat)} {a : E} {x : PySem.Str} {y : Expr} {p apos cpos : Pos} (f : TupFact Γ.X x ss) (hg : Gl Γ.X x) (hd : (x == ("__debug__" : PySem.Str)) = false) (ha : SE Γ a y) (hs : noStar y = true) (hl : (apos.endLine == cpos.line) = true) :
    SE Γ (.kix ss a) (.Call (.Attribute (.Name x p) "index" apos) [y] [] cpos) := by
  obtain ⟨b, o, its, n, h1, h2, h3, h4, h5, h6⟩ := f
  have hq : ∀ H, SqT Γ.K H b ((ss.map fun s => mkS s).map V.str) := fun H => .inr ⟨o, its, n, h2, h3.1, h4, h5, by rw [List.map_map]; exact h6⟩
  refine PE.wk (pe_bm PySem.F.plainAttrs_tuple PySem.F.slot_tuple_index PySem.F.type_tuple_index mt_tup_index (pe_glob hg h1 (v := .ref b) rfl hd) (pa_cons ha pa_nil (star_of hs)) (base_of rfl) (few1 hs) hl (star_of hs) rfl) fun σ H Q h => ?_
  obtain ⟨ρ, O, rs, h⟩ := h
  simp only [ev] at h
  refine ⟨.inr (.inl ⟨rfl, o, h2, h3.1, h3.2⟩), ρ, O, rs, h.bnd.mono fun d ed hd v H1 e1 o1 => ?_⟩
  have hd' : Fin Γ σ H (kixD ss d) _ := hd
  cases d <;> simp only [kixD] at hd' <;> try exact hd'.elim
  case str s =>
    split at hd'
    · rename_i hm
      have o2 := o1.one
      simp only [Rep1, Rep] at o2
      obtain ⟨rfl, _⟩ := o2
      obtain ⟨q1, q2⟩ := idx_first s ss hm
      refine ⟨b, ss.map fun s => mkS s, mkS s, ss.idxOf s, rfl, rfl, hq H1, by rw [List.getElem?_map, q1]; rfl, fun m hm z => q2 m hm ?_, hd' _ _ e1 ((val_int (Γ := Γ)).back e1).out⟩
      rw [List.getElem?_map] at z
      cases hz : ss[m]? with
      | none => rw [hz] at z; cases z
      | some t =>
        rw [hz] at z
        have : mkS t = mkS s := by simpa using z
        rw [mkS_inj this]
    · exact hd'.elim
end VE

/-! Dicts that nobody changes from here on; pairs unpacked; lists by keys. -/
namespace VE
open PySem PySem.Spec PyProof.Rows L2
variable {Γ : Ctx} {rf : Bool}
theorem PE.frzO {X : Cx} {e : Expr} {t : TE} (h : PE X e t) : PE X e (fun σ H Q => t σ H fun v H1 => Q v H1 ∨ ∃ a kvs, v = .ref a ∧ H1 a = some (.dK kvs) ∧ ∀ od, Q v (upd H1 a (.frz od (.dK kvs)))) :=
  ⟨fun pins s σ H Q I q => L2.thn (h.run pins s σ H _ I q) fun u s1 ⟨v, H1, I1, r1, hq⟩ => by
    rcases hq with hq | ⟨a, kvs, ev, ha, hq⟩
    · exact ⟨v, H1, I1, r1, hq⟩
    · obtain ⟨od, I2⟩ := I1.lock ha trivial
      exact ⟨v, _, I2, r1, hq od⟩⟩
theorem mv_at {H : Hp} {a : Addr} {kvs : List (Key × V)} {o : HO} (hk : H a = some (.dK kvs)) : Mv (fun c => c = a) H (upd H a o) := ⟨fun c o hc hn => by rw [upd_ne hn]; exact hc, fun c hc => by subst hc; exact .inr (by rw [hk]; trivial)⟩
theorem fzD_not {H : Hp} {d : D} {v : V} (h : ¬ ∃ ks vs, d = .dic ks vs) : FzD H d v := by
  cases d <;> first | trivial | exact absurd ⟨_, _, rfl⟩ h
theorem fz_new {O : List Addr} {H1 : Hp} {a : Addr} {kvs : List (Key × V)} {ks vs : List D} {od : Obj} {P : Addr → Prop} (hp : Pc Γ O a) (hk : H1 a = some (.dK kvs)) (hks : KsOf kvs ks) (hr : Reps Γ.K H1 P vs (kvs.map (·.2))) (h1 : ∀ b, P b → b ≠ a) (h2 : ∀ b, P b → Pc Γ O b) :
    KRep Γ (upd H1 a (.frz od (.dK kvs))) O .fz (.dic ks vs) (.ref a) := by
  refine ⟨?_, fun b e => ?_⟩
  · simp only [Rep]
    exact ⟨a, kvs, rfl, hp, .inr ⟨od, upd_same⟩, hks, Reps.move (mv_at hk) h1 h2 hr⟩
  · cases e
    exact ⟨od, _, upd_same⟩
theorem asg_fz {i : Nat} {e : E} {E' : Ends} {σ : Sg} {H : Hp} (hk : kdAt Γ.ks i = .fz) (hl : lk Γ.ks e = true) (hf : fr Γ.FR e = true) (h : TSm Γ rf (.asg i e) E' σ H) :
    tAsg (fun σ H Q => TEm Γ e σ H fun v H1 => Q v H1 ∨ ∃ a kvs, v = .ref a ∧ H1 a = some (.dK kvs) ∧ ∀ od, Q v (upd H1 a (.frz od (.dK kvs)))) (gName i) E' σ H := by
  obtain ⟨ρ, O, rs, h⟩ := h
  simp only [exS] at h
  refine ⟨ρ, O, rs, (h.fin rs).mono fun d _ hd v H1 e1 o1 => ?_⟩
  by_cases hdic : ∃ ks vs, d = .dic ks vs
  · obtain ⟨ks, vs, rfl⟩ := hdic
    obtain ⟨a, ev, ha, kvs, hk', hks, hr⟩ := o1.new hf
    refine .inr ⟨a, kvs, ev, hk', fun od => ?_⟩
    subst ev
    have e2 : Ex H (upd H1 a (.frz od (.dK kvs))) := fun c o hc => by
      rw [upd_ne (ne_of_none hc ha)]
      exact e1 c o hc
    exact hd _ _ O ((rs.ext e2).put (by rw [hk]; decide) (by rw [hk]; exact fz_new (rs.pnew ha) hk' hks hr (fun b hb => hb.2) (fun b hb => hb.1))) (Step.ex e2)
  · left
    exact hd _ H1 O ((rs.ext e1).put (by rw [hk]; decide) (by rw [hk]; exact ⟨o1.ord hl, fzD_not hdic⟩)) (Step.ex e1)
theorem ss_asgF (ok : XOk Γ) {i : Nat} {e : E} {x : PySem.Str} {p pos : Pos} {ex : Expr} (hn : NmAt Γ.X i x) (he : SE Γ e ex) (hk : kdAt Γ.ks i = .fz) (hl : lk Γ.ks e = true) (hf : fr Γ.FR e = true) (hc : noLC ex = true) : SS Γ rf (.asg i e) (.Assign [.Name x p] ex pos) :=
  PS.wk (ps_set ok.nd hn.ix hn.loc (PE.frzO he) (sw_no hc) hn.fn) fun E σ H h => asg_fz hk hl hf h
theorem Rep1.mvA {H H2 : Hp} {O : List Addr} {P P' : Addr → Prop} {a : Addr} {d : D} {v : V} (mv : Mv (fun b => b = a) H H2) (np : ∀ b, P b → ¬ b = a) (sub : ∀ b, P b → P' b) (ha : a ∈ O) (aw : Away O d v) (h : Rep1 Γ.K H P d v) : Rep1 Γ.K H2 P' d v := by
  cases d with
  | lst ds =>
    obtain ⟨b, xs, eb, hb, hr⟩ := h
    subst eb
    have hba : b ≠ a := fun z => aw b rfl (z ▸ ha)
    exact ⟨b, xs, rfl, mv.keep _ _ hb hba, Reps.move mv np sub hr⟩
  | dic ks vs =>
    obtain ⟨b, xs, eb, hb, hk', hr⟩ := h
    subst eb
    have hba : b ≠ a := fun z => aw b rfl (z ▸ ha)
    exact ⟨b, xs, rfl, mv.rd hb hba, hk', Reps.move mv np sub hr⟩
  | non => exact Rep.move (K := Γ.K) mv np sub (d := .non) h
  | bl b => exact Rep.move (K := Γ.K) mv np sub (d := .bl b) h
  | int b => exact Rep.move (K := Γ.K) mv np sub (d := .int b) h
  | str b => exact Rep.move (K := Γ.K) mv np sub (d := .str b) h
  | tup b => exact Rep.move (K := Γ.K) mv np sub (d := .tup b) h
  | exc b => exact (show False by simpa [Rep1, Rep] using h).elim
  | scr b => exact Rep.move (K := Γ.K) mv np sub (d := .scr b) h
theorem Away.sub {O O' : List Addr} {d : D} {v : V} (h : Away O d v) (hs : ∀ a ∈ O', a ∈ O) : Away O' d v := by
  cases d <;> simp only [Away] at h ⊢ <;> exact fun b eb z => h b eb (hs b z)
/-- an own object is nobody's any more; its object changes -/
theorem RS.dropTo {O : List Addr} {σ : Sg} {H H2 : Hp} {ρ : Env} {j : Nat} {d : D} {a : Addr} (rs : RS Γ O σ H ρ) (ha : a ∈ O) (hσ : σ[j]? = some (some (.ref a))) (hρ : ρ[j]? = some (some d)) (hk : kdAt Γ.ks j = .own) (hH : ∀ b, b ≠ a → H2 b = H b) :
    RS Γ (O.filter (· != a)) σ H2 (ρ.set j none) := by
  have sub : ∀ b, Pc Γ O b → Pc Γ (O.filter (· != a)) b := fun b hb => ⟨fun z => hb.1 (List.mem_filter.mp z).1, hb.2⟩
  have mv : Mv (fun b => b = a) H H2 := ⟨fun b o hb hn => by rw [hH b hn]; exact hb, fun b hb => by subst hb; exact .inr (rs.own b ha).2⟩
  have np : ∀ b, Pc Γ O b → ¬ b = a := fun b hb z => hb.1 (z ▸ ha)
  have nf : ∀ b o u, H b = some (.frz o u) → b ≠ a := fun b o u q z => by
    subst z
    have := (rs.own b ha).2
    rw [q] at this
    exact this
  have ne : ∀ n g, (ρ.set j none)[n]? = some (some g) → j ≠ n ∧ ρ[n]? = some (some g) := fun n g hn => by
    have hjn : j ≠ n := fun z => by
      subst z
      rw [List.getElem?_set_self (List.getElem?_eq_some_iff.mp hρ).1] at hn; cases hn
    rw [List.getElem?_set_ne hjn] at hn
    exact ⟨hjn, hn⟩
  refine ⟨by rw [List.length_set]; exact rs.len, fun b o hb => ?_, fun b hb => ?_, fun l e hl => ?_, fun l m e f w hlm hl hm kl km sl sm => ?_⟩
  · rw [hH b (fun z => by subst z; rw [(rs.own b ha).1] at hb; cases hb)]
    exact rs.ex b o hb
  · obtain ⟨h1, h2⟩ := List.mem_filter.mp hb
    rw [hH b (by simpa using h2)]
    exact rs.own b h1
  · obtain ⟨hjl, hl⟩ := ne l e hl
    obtain ⟨v, h1, h2⟩ := rs.val l e hl
    refine ⟨v, h1, ?_⟩
    cases kk : kdAt Γ.ks l with
    | ord => rw [kk] at h2; exact Rep.move mv np sub h2
    | fz => rw [kk] at h2; exact ⟨Rep.move mv np sub h2.1, h2.2.keep fun b o u q => by rw [hH b (nf b o u q)]; exact q⟩
    | bor =>
      rw [kk] at h2
      exact ⟨Rep1.mvA mv np sub ha h2.2 h2.1, h2.2.sub fun b hb => (List.mem_filter.mp hb).1⟩
    | own =>
      rw [kk] at h2
      obtain ⟨b, eb, hb, hob⟩ := h2
      subst eb
      have hba : b ≠ a := fun z => by
        subst z
        exact rs.dis j l d e _ hjl hρ hl hk kk hσ h1
      exact ⟨b, rfl, List.mem_filter.mpr ⟨hb, by simpa using hba⟩, OwnAt.move mv np sub hba hob⟩
  · exact rs.dis l m e f w hlm (ne l e hl).2 (ne m f hm).2 kl km sl sm
theorem ss_mvF (ok : XOk Γ) {i j : Nat} {x y : PySem.Str} {p q pos : Pos} (hn : NmAt Γ.X i x) (hv : VarAt Γ.X j y) (hi : kdAt Γ.ks i = .fz) (hj : kdAt Γ.ks j = .own) : SS Γ rf (.mv i j) (.Assign [.Name x p] (.Name y q) pos) :=
  PS.wk (ps_set ok.nd hn.ix hn.loc (PE.frzO (pe_var hv.ix hv.vis hv.nd hv.nc)) (sw_no rfl) hn.fn) fun E σ H h => by
    obtain ⟨ρ, O, rs, h⟩ := h
    simp only [exS] at h
    have h1 := h.fin rs
    cases hg : ρ.get j with
    | err c => exact absurd hg get_err
    | bad => rw [hg] at h1; exact h1.elim
    | ok d =>
      rw [hg] at h1
      obtain ⟨hρ, a, hσ, ha, ho⟩ := own_at rs hj hg
      have sub : ∀ b, Pc Γ O b → Pc Γ (O.filter (· != a)) b := fun b hb => ⟨fun z => hb.1 (List.mem_filter.mp z).1, hb.2⟩
      have hpa : Pc Γ (O.filter (· != a)) a := ⟨fun z => by have := (List.mem_filter.mp z).2; simp at this, .inr (rs.own a ha).1⟩
      refine ⟨.ref a, hσ, ?_⟩
      by_cases hdic : ∃ ks vs, d = .dic ks vs
      · obtain ⟨ks, vs, rfl⟩ := hdic
        obtain ⟨kvs, hk', hks, hr⟩ := ho
        refine .inr ⟨a, kvs, rfl, hk', fun od => ?_⟩
        refine h1 _ _ _ ((rs.dropTo ha hσ hρ hj fun b hb => upd_ne hb).put (by rw [hi]; decide) (by rw [hi]; exact fz_new hpa hk' hks hr (fun b hb z => hb.1 (z ▸ ha)) sub)) ⟨fun b o hb hn => ?_, fun b hb => .inl (List.mem_filter.mp hb).1⟩
        rw [upd_ne (fun z => hn (by rw [z]; exact ha))]
        exact hb
      · left
        exact h1 _ H _ ((rs.dropTo (H2 := H) ha hσ hρ hj fun b hb => rfl).put (by rw [hi]; decide) (by rw [hi]; exact ⟨OwnAt.rep ho sub hpa, fzD_not hdic⟩)) ⟨Keeps.refl _ _, fun b hb => .inl (List.mem_filter.mp hb).1⟩
/-- an own object into an own list -/
theorem ss_appo {i j : Nat} {x y : PySem.Str} {p q apos cpos pos : Pos} (hv : VarAt Γ.X i x) (hw : VarAt Γ.X j y) (hij : i ≠ j) (hk : kdAt Γ.ks i = .own) (hkj : kdAt Γ.ks j = .own) (hln : (apos.endLine == cpos.line) = true) :
    SS Γ rf (.appo i j) (.Expr (.Call (.Attribute (.Name x p) "append" apos) [.Name y q] [] cpos) pos) :=
  PS.wk (ps_expr (pe_bm PySem.F.plainAttrs_list PySem.F.slot_list_append PySem.F.type_list_append mt_append (pe_var hv.ix hv.vis hv.nd hv.nc) (pa_cons (pe_var hw.ix hw.vis hw.nd hw.nc) pa_nil (star_of rfl)) (base_of rfl) (few1 rfl) hln (star_of rfl) rfl) (sw_no rfl)) fun E σ H h => by
    obtain ⟨ρ, O, rs, h⟩ := h
    simp only [exS] at h
    have h1 := h.fin rs
    cases hg : ρ.get i with
    | err c => exact absurd hg get_err
    | bad => rw [hg] at h1; exact h1.elim
    | ok d =>
      rw [hg] at h1
      obtain ⟨hρ, a, hσ, ha, ho⟩ := own_at rs hk hg
      cases d <;> (try (exact h1.elim))
      case lst ds =>
        obtain ⟨xs, hx, hr⟩ := ho
        have h2 := FinS.fin rs h1
        cases hg2 : ρ.get j with
        | err c => exact absurd hg2 get_err
        | bad => rw [hg2] at h2; exact h2.elim
        | ok d2 =>
          rw [hg2] at h2
          obtain ⟨hρ2, b, hσ2, hb, ho2⟩ := own_at rs hkj hg2
          have hab : a ≠ b := fun z => by
            subst z
            exact rs.dis i j _ _ _ hij hρ hρ2 hk hkj hσ hσ2
          have h3 : FinS Γ rf O H (if ds.length < big then .next ((ρ.set j none).set i (some (.lst (ds ++ [d2])))) else .bad) E := h2
          split at h3
          · rename_i hlen
            have sub : ∀ c, Pc Γ O c → Pc Γ (O.filter (· != b)) c := fun c hc => ⟨fun z => hc.1 (List.mem_filter.mp z).1, hc.2⟩
            have hpb : Pc Γ (O.filter (· != b)) b := ⟨fun z => by have := (List.mem_filter.mp z).2; simp at this, .inr (rs.own b hb).1⟩
            have rs1 := rs.dropTo (H2 := H) hb hσ2 hρ2 hkj fun c hc => rfl
            have haO : a ∈ O.filter (· != b) := List.mem_filter.mpr ⟨ha, by simpa using hab⟩
            have hρ1 : (ρ.set j none)[i]? = some (some (.lst ds)) := by rw [List.getElem?_set_ne (Ne.symm hij)]; exact hρ
            refine ⟨.ref a, hσ, .inl ⟨rfl, xs, SqL.of hx⟩, .ref b, hσ2, a, xs, .ref b, rfl, rfl, hx, by rw [← hr.length, sizeLine_eq]; exact hlen, ?_⟩
            have hall : Reps Γ.K H (Pc Γ (O.filter (· != b))) (ds ++ [d2]) (xs ++ [.ref b]) := reps_append (hr.wk sub) (reps_cons.mpr ⟨OwnAt.rep ho2 sub hpb, reps_nil⟩)
            exact h3 σ _ (O.filter (· != b)) (rs1.chg haO hσ hρ1 hk (fun c hc => upd_ne hc) (by rw [upd_same]; trivial) ⟨xs ++ [.ref b], upd_same, Reps.move (mv_upd (rs1.own a haO).2) (fun c hc z => hc.1 (z ▸ haO)) (fun _ z => z) hall⟩)
              ⟨fun c o hc hn => by
                rw [upd_ne (fun z => hn (by rw [z]; exact ha))]
                exact hc, fun c hc => .inl (List.mem_filter.mp hc).1⟩
          · exact h3.elim
/-! ### a tuple unpacked -/
def unpC : Expr → Bool
  | .Name _ _ => true
  | .Call _ _ _ _ => true
  | .Subscript _ _ _ => true
  | _ => false
theorem ss_unp (ok : XOk Γ) {is : List Nat} {e : E} {es : List Expr} {ex : Expr} {kt : Nat} {pt pos : Pos} (hn : NamesAt Γ.X is es) (he : SE Γ e ex) (hk : ordAll Γ.ks is = true) (hl : lk Γ.ks e = true) (hu : unpC ex = true) :
    SS Γ rf (.unp is e) (.Assign [.Tuple es kt pt] ex pos) := by
  obtain ⟨g1, g2, g3⟩ := names_pgs ok.nd hn
  have hw : swappedStores [.Tuple es kt pt] ex Γ.X.env = pure none := by cases ex <;> first | rfl | simp [unpC] at hu
  have hs : swapsWithSole [.Tuple es kt pt] ex pos.line Γ.X.env = pure false := by cases ex <;> first | rfl | simp [unpC] at hu
  refine PS.wk (ps_asg he (pg_tup ok.calm g1 g2 g3) hs hw rfl) fun E σ H h => ?_
  obtain ⟨ρ, O, rs, h⟩ := h
  simp only [exS] at h
  refine ⟨ρ, O, rs, (h.fin rs).mono fun d hdd hd v H1 e1 o1 => ?_⟩
  clear hdd
  cases d <;> (try (exact hd.elim))
  case tup ds =>
    have hr := o1.ord hl
    simp only [Rep] at hr
    obtain ⟨a, ys, ea, ht, hr⟩ := hr
    subst ea
    have h2 : FinS Γ rf O H (match setAll ρ is ds with | some ρ' => .next ρ' | none => .bad) E := hd
    cases hs : setAll ρ is ds with
    | none => rw [hs] at h2; exact h2.elim
    | some ρ' =>
      rw [hs] at h2
      exact ⟨a, ys, rfl, ht.sq, by rw [← hr.length, setAll_len hs], all_ok' (rs.ext e1) hk hr hs fun σ' rs' _ _ => h2 σ' H1 O rs' (Step.ex e1)⟩
/-! ### two names at once, the second an own one -/
theorem ss_par2o (ok : XOk Γ) {i j : Nat} {a b : E} {x y : PySem.Str} {ex ey : Expr} {px py pt pos : Pos} {kt k2 pt2} (hi : Γ.X.N[i]? = some x) (hj : Γ.X.N[j]? = some y) (hij : i ≠ j) (hx : Γ.X.env.scope.names.lookup x = some .local) (hy : Γ.X.env.scope.names.lookup y = some .local)
    (ha : SE Γ a ex) (hb : SE Γ b ey) (hs : noStar ex = true) (ht : noStar ey = true) (hk : kdAt Γ.ks i = .ord) (hkj : kdAt Γ.ks j = .own) (hl : lk Γ.ks a = true) (hf : fr Γ.FR b = true) (hcb : ∀ ρ, (∃ l, ev Γ.cf b ρ = .ok (.lst l)) ∨ (∃ c, ev Γ.cf b ρ = .err c) ∨ ev Γ.cf b ρ = .bad)
    (hw : swappedStores [.Tuple [.Name x px, .Name y py] kt pt] (.Tuple [ex, ey] k2 pt2) Γ.X.env = pure (some [x, y])) : SS Γ rf (.par [i, j] (.cons a (.cons b .nil))) (.Assign [.Tuple [.Name x px, .Name y py] kt pt] (.Tuple [ex, ey] k2 pt2) pos) :=
  PS.wk (ps_par ok.calm ok.nd hi hj hij hx hy (pa_cons ha (pa_cons hb pa_nil (star_of ht)) (star_of hs)) hw rfl) fun E σ H h => by
    obtain ⟨ρ, O, rs, h⟩ := h
    simp only [exS, evs] at h
    have h1 : Fin Γ σ H ((ev Γ.cf a ρ).bind fun d => ((ev Γ.cf b ρ).bind fun d2 => .ok [d2]).bind fun ds => .ok (d :: ds)) fun ds => FinS Γ rf O H (match setAll ρ [i, j] ds with | some ρ' => .next ρ' | none => .bad) E := by
      have h0 := h.fin rs
      cases ea : ev Γ.cf a ρ with
      | err c => rw [ea] at h0; exact h0
      | bad => rw [ea] at h0; exact h0
      | ok d =>
        rw [ea] at h0
        cases eb : ev Γ.cf b ρ with
        | err c => rw [eb] at h0; exact h0
        | bad => rw [eb] at h0; exact h0
        | ok d2 => rw [eb] at h0; exact h0
    refine ⟨ρ, O, rs, h1.bnd.mono fun d1 _ hd1 v1 H1 e1 o1 => ?_⟩
    have h2 := (Fin.bnd hd1)
    have h3 : Fin Γ σ H (ev Γ.cf b ρ) fun d2 => FinS Γ rf O H (match setAll ρ [i, j] [d1, d2] with | some ρ' => .next ρ' | none => .bad) E := by
      cases eb : ev Γ.cf b ρ with
      | err c => rw [eb] at h2; exact h2
      | bad => rw [eb] at h2; exact h2
      | ok d2 => rw [eb] at h2; exact h2
    refine ⟨ρ, O, rs.ext e1, h3.imp e1 fun d2 ed2 hd2 v2 H2 e2 o2 => ⟨v1, v2, rfl, ?_⟩⟩
    have hd3 : FinS Γ rf O H (.next ((ρ.set i (some d1)).set j (some d2))) E := hd2
    rcases hcb ρ with ⟨l, el⟩ | ⟨c, ec⟩ | eb
    · rw [el] at ed2
      cases ed2
      obtain ⟨p, ep, hp, ho⟩ := o2.new hf
      subst ep
      have r1 : RS Γ O (σ.set i (some v1)) H1 (ρ.set i (some d1)) := (rs.ext e1).put (by rw [hk]; decide) (by rw [hk]; exact o1.ord hl)
      exact hd3 _ H2 (p :: O) (r1.putOwn e2 hp ho hkj) ⟨(e1.trans e2).keeps, fun b hb => (List.mem_cons.mp hb).elim (fun z => .inr (z ▸ e1.none hp)) .inl⟩
    · rw [ec] at ed2; cases ed2
    · rw [eb] at ed2; cases ed2
/-- the same, where nothing is swapped: a pair is laid and unpacked -/
theorem ss_parTo (ok : XOk Γ) {i j : Nat} {a b : E} {x y : PySem.Str} {ex ey : Expr} {px py pt pos : Pos} {kt k2 pt2} (hn : NamesAt Γ.X [i, j] [.Name x px, .Name y py])
    (ha : SE Γ a ex) (hb : SE Γ b ey) (hs : noStar ex = true) (ht : noStar ey = true) (hk : kdAt Γ.ks i = .ord) (hkj : kdAt Γ.ks j = .own) (hl : lk Γ.ks a = true) (hf : fr Γ.FR b = true) (hcb : ∀ ρ, (∃ l, ev Γ.cf b ρ = .ok (.lst l)) ∨ (∃ c, ev Γ.cf b ρ = .err c) ∨ ev Γ.cf b ρ = .bad)
    (hw : swappedStores [.Tuple [.Name x px, .Name y py] kt pt] (.Tuple [ex, ey] k2 pt2) Γ.X.env = pure none) : SS Γ rf (.par [i, j] (.cons a (.cons b .nil))) (.Assign [.Tuple [.Name x px, .Name y py] kt pt] (.Tuple [ex, ey] k2 pt2) pos) := by
  obtain ⟨g1, g2, g3⟩ := names_pgs ok.nd hn
  refine PS.wk (ps_asg (pe_tupP (pa_cons ha (pa_cons hb pa_nil (star_of ht)) (star_of hs))) (pg_tup ok.calm g1 g2 g3) rfl hw rfl) fun E σ H h => ?_
  obtain ⟨ρ, O, rs, h⟩ := h
  simp only [exS, evs] at h
  have h1 : Fin Γ σ H ((ev Γ.cf a ρ).bind fun d => ((ev Γ.cf b ρ).bind fun d2 => .ok [d2]).bind fun ds => .ok (d :: ds)) fun ds => FinS Γ rf O H (match setAll ρ [i, j] ds with | some ρ' => .next ρ' | none => .bad) E := by
    have h0 := h.fin rs
    cases ea : ev Γ.cf a ρ with
    | err c => rw [ea] at h0; exact h0
    | bad => rw [ea] at h0; exact h0
    | ok d =>
      rw [ea] at h0
      cases eb : ev Γ.cf b ρ with
      | err c => rw [eb] at h0; exact h0
      | bad => rw [eb] at h0; exact h0
      | ok d2 => rw [eb] at h0; exact h0
  refine ⟨ρ, O, rs, h1.bnd.mono fun d1 _ hd1 v1 H1 e1 o1 => ?_⟩
  have h2 := (Fin.bnd hd1)
  have h3 : Fin Γ σ H (ev Γ.cf b ρ) fun d2 => FinS Γ rf O H (match setAll ρ [i, j] [d1, d2] with | some ρ' => .next ρ' | none => .bad) E := by
    cases eb : ev Γ.cf b ρ with
    | err c => rw [eb] at h2; exact h2
    | bad => rw [eb] at h2; exact h2
    | ok d2 => rw [eb] at h2; exact h2
  refine ⟨ρ, O, rs.ext e1, h3.imp e1 fun d2 ed2 hd2 v2 H2 e2 o2 => ⟨by show 2 ≤ sizeLine; decide, fun T o hT hob => ?_⟩⟩
  have e3 : Ex H2 (upd H2 T (.frz o (.tup [v1, v2]))) := Ex.new hT
  refine ⟨T, [v1, v2], rfl, (SqP.of upd_same hob).sq, rfl, v1, [v2], rfl, v2, [], rfl, rfl, ?_⟩
  have hd3 : FinS Γ rf O H (.next ((ρ.set i (some d1)).set j (some d2))) E := hd2
  rcases hcb ρ with ⟨l, el⟩ | ⟨c, ec⟩ | eb
  · rw [el] at ed2
    cases ed2
    obtain ⟨p, ep, hp, ho⟩ := o2.new hf
    subst ep
    obtain ⟨zs, z, hr⟩ := ho
    have r1 : RS Γ O (σ.set i (some v1)) H1 (ρ.set i (some d1)) := (rs.ext e1).put (by rw [hk]; decide) (by rw [hk]; exact o1.ord hl)
    exact hd3 _ _ (p :: O) (r1.putOwn (e2.trans e3) hp ⟨zs, e3 p _ z, hr.ex e3⟩ hkj) ⟨((e1.trans e2).trans e3).keeps, fun b hb => (List.mem_cons.mp hb).elim (fun z => .inr (z ▸ e1.none hp)) .inl⟩
  · rw [ec] at ed2; cases ed2
  · rw [eb] at ed2; cases ed2
/-! ### a dict of one pair -/
theorem se_dsp {k a : E} {x y : Expr} {pos : Pos} (hk : SE Γ k x) (ha : SE Γ a y) (hl : lk Γ.ks a = true) : SE Γ (.dsp k a) (.Dict [some x] [y] pos) :=
  PE.wk (pe_disp (pps_cons hk ha pps_nil) rfl rfl (by simp) (by simp)) fun σ H Q h => by
    obtain ⟨ρ, O, rs, h⟩ := h
    simp only [ev] at h
    intro p hp
    have e0 : Ex H (upd H p (.dK [])) := Ex.new hp
    have r0 : RS Γ (p :: O) σ (upd H p (.dK [])) ρ := rs.more hp e0 (by rw [upd_same]; trivial)
    refine ⟨ρ, p :: O, r0, h.bnd.imp e0 fun d _ hd v H1 e1 o1 => ?_⟩
    refine ⟨ρ, p :: O, r0.ext e1, (Fin.bnd hd).imp (e0.trans e1) fun d2 _ hd2 u H2 e2 o2 => ?_⟩
    have hd' : Fin Γ σ H (dspD d d2) _ := hd2
    unfold dspD at hd'
    split at hd'
    · rename_i hik
      have hk1 := o1.one
      obtain ⟨kk, ek, eu⟩ := isKey_kD hik hk1
      subst ek eu
      have hp2 : H2 p = some (.dK []) := e2 p _ (e1 p _ upd_same)
      refine ⟨hp2, [(kk, u)], rfl, by simp, ?_⟩
      have em : mergeK [] [(kk, u)] = [(kk, u)] := by simp [mergeK, putK]
      rw [em]
      have ks1 : KsOf [(kk, u)] [kD kk] := ⟨rfl, fun q hq x ex => by
        rw [List.mem_singleton.mp hq] at ex
        exact key_short hk1 x ex⟩
      have e3 : Ex H (upd H2 p (.dK [(kk, u)])) := fun c o hc => by
        rw [upd_ne (ne_of_none hc hp)]
        exact e2 c o (e1 c o (e0 c o hc))
      have mv := mv_at (o := .dK [(kk, u)]) hp2
      have hr0 : Reps Γ.K H2 (fun b => Pc Γ O b ∧ b ≠ p) [d2] [u] := by
        refine reps_cons.mpr ⟨(o2.ord hl).wk fun b hb => ⟨⟨fun z => hb.1 (List.mem_cons_of_mem _ z), hb.2⟩, fun z => hb.1 (z ▸ List.mem_cons_self)⟩, reps_nil⟩
      have hr : Reps Γ.K (upd H2 p (.dK [(kk, u)])) (fun b => Pc Γ O b ∧ b ≠ p) [d2] ([(kk, u)].map (·.2)) := Reps.move mv (fun c hc => hc.2) (fun c hc => hc) hr0
      have ow : OwnAt Γ.K (upd H2 p (.dK [(kk, u)])) (fun b => Pc Γ O b ∧ b ≠ p) p (.dic [kD kk] [d2]) := ⟨[(kk, u)], upd_same, ks1, hr⟩
      exact hd' _ _ e3 (Val.out ⟨OwnAt.rep ow (fun b z => z.1) (rs.pnew hp), p, rfl, hp, ow⟩)
    · exact hd'.elim
/-! ### lists by keys -/
/-- no own slot but one -/
def soleOwn (ks : List Kd) (i : Nat) : Bool := (List.range ks.length).all fun j => j == i || kdAt ks j != .own
theorem soleOwn_of {ks : List Kd} {i j : Nat} (h : soleOwn ks i = true) (hj : kdAt ks j = .own) : j = i := by
  unfold soleOwn at h
  by_cases hl : j < ks.length
  · have := List.all_eq_true.mp h j (List.mem_range.mpr hl)
    rw [hj] at this
    simpa using this
  · unfold kdAt at hj
    rw [List.getD_eq_getElem?_getD, List.getElem?_eq_none (by omega)] at hj
    cases hj
variable (Γ) in
def NoOwn (ρ : Env) : Prop := ∀ (j : Nat) (d : D), ρ[j]? = some (some d) → kdAt Γ.ks j ≠ .own
theorem RS.chgF {O : List Addr} {σ : Sg} {H H1 : Hp} {ρ : Env} {c : Addr} (rs : RS Γ O σ H ρ) (no : NoOwn Γ ρ) (hc : c ∈ O) (hH : ∀ b, b ≠ c → H1 b = H b) (hm : Mut (H1 c)) : RS Γ O σ H1 ρ := by
  have mv : Mv (fun b => b = c) H H1 := ⟨fun b o hb hn => by rw [hH b hn]; exact hb, fun b hb => by subst hb; exact .inr (rs.own b hc).2⟩
  have np : ∀ b, Pc Γ O b → ¬ b = c := fun b hb z => hb.1 (z ▸ hc)
  refine ⟨rs.len, fun b o hb => ?_, fun b hb => ⟨(rs.own b hb).1, ?_⟩, fun j e hj => ?_, rs.dis⟩
  · rw [hH b (fun z => by subst z; rw [(rs.own b hc).1] at hb; cases hb)]
    exact rs.ex b o hb
  · by_cases z : b = c
    · subst z; exact hm
    · rw [hH b z]; exact (rs.own b hb).2
  · obtain ⟨v, h1, h2⟩ := rs.val j e hj
    refine ⟨v, h1, ?_⟩
    cases kk : kdAt Γ.ks j with
    | ord => rw [kk] at h2; exact Rep.move mv np (fun _ z => z) h2
    | fz =>
      rw [kk] at h2
      refine ⟨Rep.move mv np (fun _ z => z) h2.1, h2.2.keep fun b o u q => ?_⟩
      rw [hH b (fun z => by
        subst z
        have := (rs.own b hc).2
        rw [q] at this
        exact this)]
      exact q
    | bor => rw [kk] at h2; exact ⟨Rep1.mvA mv np (fun _ z => z) hc h2.2 h2.1, h2.2⟩
    | own => exact absurd kk (no j e hj)
theorem RS.shrink {O O' : List Addr} {σ : Sg} {H : Hp} {ρ : Env} (rs : RS Γ O σ H ρ) (no : NoOwn Γ ρ) (hs : ∀ b ∈ O', b ∈ O) : RS Γ O' σ H ρ := by
  have sub : ∀ b, Pc Γ O b → Pc Γ O' b := fun b hb => ⟨fun z => hb.1 (hs b z), hb.2⟩
  refine ⟨rs.len, rs.ex, fun b hb => rs.own b (hs b hb), fun j e hj => ?_, rs.dis⟩
  obtain ⟨v, h1, h2⟩ := rs.val j e hj
  refine ⟨v, h1, ?_⟩
  cases kk : kdAt Γ.ks j with
  | ord => rw [kk] at h2; exact Rep.wk sub h2
  | fz => rw [kk] at h2; exact ⟨Rep.wk sub h2.1, h2.2⟩
  | bor => rw [kk] at h2; exact ⟨Rep1.move (Ex.refl H).mv (fun _ _ z => z) sub (fun _ _ z => z) h2.1, h2.2.sub hs⟩
  | own => exact absurd kk (no j e hj)
/-- lists, each an object of its own -/
def GL (K : Frag) (H : Hp) (P : Addr → Prop) (n : Nat) : List Addr → List D → Prop
  | [], [] => True
  | b :: bs, .lst ds :: vs => (∃ xs, H b = some (.lst xs) ∧ Reps K H P ds xs ∧ ds.length ≤ n) ∧ GL K H P n bs vs
  | _, _ => False
theorem GL.move {K : Frag} {H H' : Hp} {P P' : Addr → Prop} {n n' : Nat} (hn : n ≤ n') (hr : ∀ ds xs, Reps K H P ds xs → Reps K H' P' ds xs) : ∀ {bs : List Addr} {vs : List D}, (∀ b ∈ bs, H' b = H b) → GL K H P n bs vs → GL K H' P' n' bs vs
  | [], [], _, h => h
  | b :: bs, .lst ds :: vs, hb, h => by
    simp only [GL] at h ⊢
    obtain ⟨⟨xs, h1, h2, h3⟩, h4⟩ := h
    exact ⟨⟨xs, by rw [hb b List.mem_cons_self]; exact h1, hr _ _ h2, by omega⟩, GL.move hn hr (fun c hc => hb c (List.mem_cons_of_mem _ hc)) h4⟩
  | [], _ :: _, _, h => by simp [GL] at h
  | _ :: _, [], _, h => by simp [GL] at h
  | _ :: _, .non :: _, _, h => by simp [GL] at h
  | _ :: _, .bl _ :: _, _, h => by simp [GL] at h
  | _ :: _, .int _ :: _, _, h => by simp [GL] at h
  | _ :: _, .str _ :: _, _, h => by simp [GL] at h
  | _ :: _, .tup _ :: _, _, h => by simp [GL] at h
  | _ :: _, .dic _ _ :: _, _, h => by simp [GL] at h
  | _ :: _, .exc _ :: _, _, h => by simp [GL] at h
  | _ :: _, .scr _ :: _, _, h => by simp [GL] at h
theorem GL.snoc {K : Frag} {H : Hp} {P : Addr → Prop} {n : Nat} {b : Addr} {ds : List D} {xs : List V} (h1 : H b = some (.lst xs)) (h2 : Reps K H P ds xs) (h3 : ds.length ≤ n) : ∀ {bs : List Addr} {vs : List D}, GL K H P n bs vs → GL K H P n (bs ++ [b]) (vs ++ [.lst ds])
  | [], [], _ => by
    simp only [List.nil_append, GL]
    exact ⟨⟨xs, h1, h2, h3⟩, trivial⟩
  | c :: bs, .lst es :: vs, h => by
    simp only [GL, List.cons_append] at h ⊢
    exact ⟨h.1, GL.snoc h1 h2 h3 h.2⟩
  | [], _ :: _, h => by simp [GL] at h
  | _ :: _, [], h => by simp [GL] at h
  | _ :: _, .non :: _, h => by simp [GL] at h
  | _ :: _, .bl _ :: _, h => by simp [GL] at h
  | _ :: _, .int _ :: _, h => by simp [GL] at h
  | _ :: _, .str _ :: _, h => by simp [GL] at h
  | _ :: _, .tup _ :: _, h => by simp [GL] at h
  | _ :: _, .dic _ _ :: _, h => by simp [GL] at h
  | _ :: _, .exc _ :: _, h => by simp [GL] at h
  | _ :: _, .scr _ :: _, h => by simp [GL] at h
theorem GL.reps {K : Frag} {H : Hp} {P P' : Addr → Prop} {n : Nat} (hp : ∀ b, P b → P' b) : ∀ {bs : List Addr} {vs : List D}, (∀ b ∈ bs, P' b) → GL K H P n bs vs → Reps K H P' vs (bs.map V.ref)
  | [], [], _, _ => reps_nil
  | b :: bs, .lst ds :: vs, hb, h => by
    simp only [GL] at h
    obtain ⟨⟨xs, h1, h2, h3⟩, h4⟩ := h
    refine reps_cons.mpr ⟨?_, GL.reps hp (fun c hc => hb c (List.mem_cons_of_mem _ hc)) h4⟩
    simp only [Rep]
    exact ⟨b, xs, rfl, hb b List.mem_cons_self, h1, h2.wk hp⟩
  | [], _ :: _, _, h => by simp [GL] at h
  | _ :: _, [], _, h => by simp [GL] at h
  | _ :: _, .non :: _, _, h => by simp [GL] at h
  | _ :: _, .bl _ :: _, _, h => by simp [GL] at h
  | _ :: _, .int _ :: _, _, h => by simp [GL] at h
  | _ :: _, .str _ :: _, _, h => by simp [GL] at h
  | _ :: _, .tup _ :: _, _, h => by simp [GL] at h
  | _ :: _, .dic _ _ :: _, _, h => by simp [GL] at h
  | _ :: _, .exc _ :: _, _, h => by simp [GL] at h
  | _ :: _, .scr _ :: _, _, h => by simp [GL] at h
theorem dapp_at {K : Frag} {H : Hp} {P : Addr → Prop} {n : Nat} {kk : Key} {x : D} : ∀ {kvs : List (Key × V)} {ks vs ks' vs' : List D} {bs : List Addr}, GL K H P n bs vs → kvs.map (fun p => kD p.1) = ks → kvs.map (·.2) = bs.map V.ref → dapp (kD kk) x ks vs = some (ks', vs') →
    (∃ b xs, valV kvs kk = some (.ref b) ∧ b ∈ bs ∧ H b = some (.lst xs) ∧ xs.length ≤ n ∧ ks' = ks ∧ (bs.Nodup → ∀ (v : V) (H' : Hp), H' b = some (.lst (xs ++ [v])) → (∀ c, c ≠ b → H' c = H c) → (∀ ds xs, Reps K H P ds xs → Reps K H' P ds xs) → Rep K H' P x v → GL K H' P (n + 1) bs vs'))
    ∨ (valV kvs kk = none ∧ ks' = ks ++ [kD kk] ∧ vs' = vs ++ [.lst [x]])
  | [], ks, vs, ks', vs', bs, hg, h1, h2, e => by
    rw [List.map_nil] at h1 h2
    subst h1
    cases bs with
    | cons b r => cases h2
    | nil =>
      cases vs with
      | cons v r => simp [GL] at hg
      | nil =>
        simp only [dapp, Option.some.injEq, Prod.mk.injEq] at e
        obtain ⟨rfl, rfl⟩ := e
        exact .inr ⟨valV_nil, rfl, rfl⟩
  | (k', v0) :: kvs, ks, vs, ks', vs', bs, hg, h1, h2, e => by
    rw [List.map_cons] at h1 h2
    subst h1
    cases bs with
    | nil => cases h2
    | cons b bs =>
      rw [List.map_cons] at h2
      injection h2 with h2a h2b
      have h2a' : v0 = V.ref b := h2a
      subst h2a'
      cases vs with
      | nil => simp [GL] at hg
      | cons w vs =>
        cases w <;> try (simp [GL] at hg; done)
        case lst ds =>
          simp only [GL] at hg
          obtain ⟨⟨xs, g1, g2, g3⟩, g4⟩ := hg
          simp only [dapp, keyEq_kD] at e
          by_cases hk : k' = kk
          · subst hk
            simp only [decide_true, if_true, Option.some.injEq, Prod.mk.injEq] at e
            obtain ⟨rfl, rfl⟩ := e
            refine .inl ⟨b, xs, valV_pos rfl, List.mem_cons_self, g1, by rw [← g2.length]; exact g3, rfl, fun nd v H' q1 q2 q3 q4 => ?_⟩
            rw [List.nodup_cons] at nd
            simp only [GL]
            refine ⟨⟨xs ++ [v], q1, reps_append (q3 _ _ g2) (reps_cons.mpr ⟨q4, reps_nil⟩), by simp; omega⟩, GL.move (Nat.le_succ n) q3 (fun c hc => q2 c (fun z => nd.1 (z ▸ hc))) g4⟩
          · rw [if_neg (by simpa using hk)] at e
            cases hr : dapp (kD kk) x (kvs.map fun p => kD p.1) vs with
            | none => rw [hr] at e; cases e
            | some p =>
              rw [hr] at e
              simp only [Option.map_some, Option.some.injEq, Prod.mk.injEq] at e
              obtain ⟨rfl, rfl⟩ := e
              rcases dapp_at (kk := kk) (x := x) g4 rfl h2b hr with ⟨c, ys, a1, a2, a3, a4, a5, a6⟩ | ⟨a1, a2, a3⟩
              · refine .inl ⟨c, ys, by rw [valV_neg hk]; exact a1, List.mem_cons_of_mem _ a2, a3, a4, by rw [a5], fun nd v H' q1 q2 q3 q4 => ?_⟩
                rw [List.nodup_cons] at nd
                simp only [GL]
                refine ⟨⟨xs, ?_, q3 _ _ g2, by omega⟩, a6 nd.2 v H' q1 q2 q3 q4⟩
                rw [q2 b (fun z => nd.1 (z ▸ a2))]
                exact g1
              · exact .inr ⟨by rw [valV_neg hk]; exact a1, by rw [a2]; rfl, by rw [a3]; rfl⟩
/-- the state within such a walk -/
structure GS (O : List Addr) (σ : Sg) (H : Hp) (ρ : Env) (i n : Nat) (a : Addr) (kvs : List (Key × V)) (bs : List Addr) (ks vs : List D) : Prop where
  rs : RS Γ O σ H ρ
  no : NoOwn Γ ρ
  at_ : σ[i]? = some (some (.ref a))
  dk : H a = some (.dK kvs)
  ks : KsOf kvs ks
  refs : kvs.map (·.2) = bs.map V.ref
  aO : a ∈ O
  bO : ∀ b ∈ bs, b ∈ O
  nd : bs.Nodup
  na : a ∉ bs
  gl : GL Γ.K H (Pc Γ O) n bs vs
  len : kvs.length ≤ n
theorem PE.nlen {X : Cx} {e : Expr} {t : TE} (h : PE X e t) : PE X e (fun σ H Q => σ.length = X.N.length → t σ H Q) := ⟨fun pins s σ H Q I q => h.run pins s σ H Q I (q I.len)⟩
theorem ss_grp (ok : XOk Γ) (hp : PassesOwn (model Γ.X.prog Γ.X.w) Γ.X.A Γ.X.env Γ.X.xe) {i t : Nat} {src : Src} {k : E} {x y z : PySem.Str} {iter kx : Expr} {p0 p1 lp ap1 cp1 ap2 cp2 ep tp pos : Pos} (hi : SI Γ src (.Name y tp) iter) (ht : NmAt Γ.X t y) (hvi : VarAt Γ.X i x) (hvt : VarAt Γ.X t y) (hk : SE Γ k kx) (hs : noStar kx = true)
    (hki : kdAt Γ.ks i = .own) (hkt : kdAt Γ.ks t = .ord) (hso : soleOwn Γ.ks i = true) (hit : i ≠ t) (hf : srcFar Γ.ks src = true) (hn : noSetD iter = true) (l1 : (ap1.endLine == cp1.line) = true) (l2 : (ap2.endLine == cp2.line) = true) :
    SS Γ rf (.grp i t src k) (.For (.Name y tp) iter [.Expr (.Call (.Attribute (.Call (.Attribute (.Name x p0) "setdefault" ap1) [kx, .List [] lp] [] cp1) "append" ap2) [.Name y p1] [] cp2) ep] [] pos) :=
  PS.wk (ps_for hp ok.calm hi (pg_name ok.nd ht.ix ht.loc ht.fn) (pss_cons (ps_expr (pe_bm PySem.F.plainAttrs_list PySem.F.slot_list_append PySem.F.type_list_append mt_append
      (pe_dsetd (pe_var hvi.ix hvi.vis hvi.nd hvi.nc) hk (pe_lst pa_nil) ⟨base_of rfl, few2 hs rfl, l1, by rw [star_of hs]; rfl⟩)
      (pa_cons (PE.nlen (pe_var hvt.ix hvt.vis hvt.nd hvt.nc)) pa_nil (star_of rfl)) (base_of rfl) (few1 rfl) l2 (star_of rfl) rfl) (sw_no rfl)) pss_nil) (folded_of hn)) fun E σ H h => by
    obtain ⟨ρ, O, rs, h⟩ := h
    simp only [exS] at h
    cases hg : ρ.get i with
    | err c => exact absurd hg get_err
    | bad => rw [hg] at h; exact h.elim
    | ok d =>
      rw [hg] at h
      obtain ⟨hρ, a, hσ, ha, ho⟩ := own_at rs hki hg
      cases d <;> (try (exact h.elim))
      case dic ks0 vs0 =>
        cases ks0 with
        | cons _ _ => exact h.elim
        | nil => cases vs0 with
          | cons _ _ => exact h.elim
          | nil =>
            obtain ⟨kvs0, hdk0, hks0, _⟩ := ho
            have hkv0 : kvs0 = [] := List.map_eq_nil_iff.mp hks0.eq
            subst hkv0
            have no0 : NoOwn Γ (ρ.set i none) := fun j d hj kj => by
              have := soleOwn_of hso kj
              subst this
              rw [List.getElem?_set_self (List.getElem?_eq_some_iff.mp hρ).1] at hj
              cases hj
            have rs0 : RS Γ O σ H (ρ.set i none) := by
              refine ⟨by rw [List.length_set]; exact rs.len, rs.ex, rs.own, fun j e hj => ?_, fun j l e f w hjl hj hl kj kl => absurd kj (no0 j e hj)⟩
              have hij : i ≠ j := fun z => by
                subst z
                rw [List.getElem?_set_self (List.getElem?_eq_some_iff.mp hρ).1] at hj
                cases hj
              rw [List.getElem?_set_ne hij] at hj
              exact rs.val j e hj
            refine ⟨ρ.set i none, O, rs0, ?_⟩
            cases hits : its Γ.cf src (ρ.set i none) with
            | err c => rw [hits] at h; exact h.elim
            | bad => rw [hits] at h; exact h.elim
            | ok xs =>
              rw [hits] at h
              have h' : FinS Γ rf O H (match grpGo t (fun ρ => ev Γ.cf k ρ) xs (ρ.set i none) [] [] with
                | .ok (ρ', ks, vs) => .next (ρ'.set i (some (.dic ks vs)))
                | _ => .bad) E := h
              intro J H1 e1 hlen _ wk
              obtain ⟨G, Y, w, hG, hY⟩ := (wk hf).run
              refine for_it w (fun n σ' H' => ∃ ρ' O' kvs bs ks vs, GS (Γ := Γ) O' σ' H' ρ' i n a kvs bs ks vs ∧ Step O H1 O' H' ∧ FinS Γ rf O H (match grpGo t (fun ρ => ev Γ.cf k ρ) (xs.drop n) ρ' ks vs with
                | .ok (ρ', ks, vs) => .next (ρ'.set i (some (.dic ks vs)))
                | _ => .bad) E) ?_ ?_ ?_ ?_
              · exact ⟨ρ.set i none, O, [], [], [], [], ⟨rs0.ext e1, no0, hσ, e1 a _ hdk0, hks0, rfl, ha, (fun b hb => by cases hb), List.nodup_nil, (by simp), (by simp [GL]), by simp⟩, Step.ex (Ex.refl _), by rw [List.drop_zero]; exact h'⟩
              · rintro n σ' H' hi ⟨ρ', O', kvs, bs, ks, vs, gs, st, _⟩
                exact hG H' st.keep
              · rintro n v σ' H2 H3 hi ⟨ρ', O', kvs, bs, ks, vs, gs, st, fin⟩ y
                obtain ⟨x, hx, e3, hrep⟩ := hY n H2 v H3 hi st.keep y
                have hrx : Rep Γ.K H3 (Pc Γ O') x v := hrep O' st.own
                have hdr : xs.drop n = x :: xs.drop (n + 1) := by
                  obtain ⟨hi', ex⟩ := List.getElem?_eq_some_iff.mp hx
                  rw [List.drop_eq_getElem_cons hi', ex]
                rw [hdr] at fin
                simp only [grpGo] at fin
                have hnl : n < sizeLine := Nat.lt_of_lt_of_le hi hlen
                have rs3 : RS Γ O' (σ'.set t (some v)) H3 (ρ'.set t (some x)) := (gs.rs.ext e3).put (by rw [hkt]; decide) (by rw [hkt]; exact hrx)
                have no3 : NoOwn Γ (ρ'.set t (some x)) := fun j d hj kj => by
                  by_cases z : t = j
                  · subst z; rw [hkt] at kj; cases kj
                  · rw [List.getElem?_set_ne z] at hj
                    exact gs.no j d hj kj
                have hat : ∀ s2 : Sg, s2 = σ'.set t (some v) → s2.length = Γ.X.N.length → s2[t]? = some (some v) := fun s2 e2 q => by
                  have hl : t < Γ.X.N.length := (List.getElem?_eq_some_iff.mp hvt.ix).1
                  subst e2
                  rw [List.length_set] at q
                  rw [List.getElem?_set_self (by omega)]
                have hat3 : (σ'.set t (some v))[i]? = some (some (.ref a)) := by rw [List.getElem?_set_ne (Ne.symm hit)]; exact gs.at_
                refine ⟨.ref a, hat3, a, rfl, .inl ⟨kvs, .inl (e3 a _ gs.dk)⟩, ρ'.set t (some x), O', rs3, ?_⟩
                cases hev : ev Γ.cf k (ρ'.set t (some x)) with
                | err c => rw [hev] at fin; exact fin.elim
                | bad => rw [hev] at fin; exact fin.elim
                | ok kd =>
                  rw [hev] at fin
                  simp only [Res.bind_ok] at fin
                  intro yv H4 e4 o4
                  by_cases hik : isKey kd = true
                  · rw [if_pos hik] at fin
                    obtain ⟨kk, ek, eu⟩ := isKey_kD hik o4.one
                    subst ek eu
                    have hsh := key_short o4.one
                    refine ⟨by show 0 ≤ sizeLine; exact Nat.zero_le _, fun pz hpz => ?_⟩
                    have dk4 : H4 a = some (.dK kvs) := e4 a _ (e3 a _ gs.dk)
                    have apz : a ≠ pz := ne_of_none dk4 hpz
                    have e5 : Ex H4 (upd H4 pz (.lst [])) := Ex.new hpz
                    have e35 : Ex H2 (upd H4 pz (.lst [])) := (e3.trans e4).trans e5
                    have rs4 := rs3.ext e4
                    have bpz : ∀ b ∈ O', b ≠ pz := fun b hb z => by
                      subst z
                      have := (rs4.own b hb).2
                      rw [hpz] at this
                      exact this
                    have glH : ∀ b ∈ bs, (upd H4 pz (.lst [])) b = H2 b := fun b hb => by
                      obtain ⟨o, q⟩ : ∃ o, H2 b = some o := by
                        have := (gs.rs.own b (gs.bO b hb)).2
                        cases q : H2 b with
                        | none => rw [q] at this; exact this.elim
                        | some o => exact ⟨o, rfl⟩
                      rw [q]
                      exact e35 b o q
                    have gl5 : GL Γ.K (upd H4 pz (.lst [])) (Pc Γ O') n bs vs := GL.move (Nat.le_refl n) (fun ds xs h => h.ex e35) glH gs.gl
                    have dk5 : (upd H4 pz (.lst [])) a = some (.dK kvs) := e5 a _ dk4
                    refine ⟨kvs, kk, dk5, rfl, Nat.lt_of_le_of_lt gs.len hnl, fun vv hvv => ?_, fun hnone => ?_⟩
                    · cases hd : dapp (kD kk) x ks vs with
                      | none => rw [hd] at fin; exact fin.elim
                      | some pr =>
                        obtain ⟨ks', vs'⟩ := pr
                        rw [hd] at fin
                        rcases dapp_at gl5 gs.ks.eq gs.refs hd with ⟨b, ys, a1, a2, a3, a4, a5, a6⟩ | ⟨a1, _⟩
                        · rw [a1] at hvv
                          have hvv' : V.ref b = vv := Option.some.inj hvv
                          subst hvv' a5
                          have hbO := gs.bO b a2
                          have mvb : Mv (fun c => c = b) (upd H4 pz (.lst [])) (upd (upd H4 pz (.lst [])) b (.lst (ys ++ [v]))) := ⟨fun c o hc hn => by rw [upd_ne hn]; exact hc, fun c hc => by subst hc; exact .inr (by rw [a3]; trivial)⟩
                          have npb : ∀ c, Pc Γ O' c → ¬ c = b := fun c hc z => hc.1 (z ▸ hbO)
                          have hab : a ≠ b := fun z => gs.na (z ▸ a2)
                          refine ⟨.inl ⟨rfl, ys, SqL.of a3⟩, fun hl => ⟨v, hat _ rfl hl, b, ys, v, rfl, rfl, a3, Nat.lt_of_le_of_lt a4 hnl, ?_⟩⟩
                          refine ⟨ρ'.set t (some x), O', kvs, bs, ks', vs', ⟨(rs4.ext e5).chgF no3 hbO (fun c hc => upd_ne hc) (by rw [upd_same]; trivial), no3, hat3, by rw [upd_ne hab]; exact dk5, gs.ks, gs.refs, gs.aO, gs.bO, gs.nd, gs.na,
                            a6 gs.nd v _ upd_same (fun c hc => upd_ne hc) (fun ds xs h => Reps.move mvb npb (fun _ z => z) h) (Rep.move mvb npb (fun _ z => z) (hrx.ex (e4.trans e5))), Nat.le_succ_of_le gs.len⟩, st.trans ⟨fun c o hc hn => ?_, fun c hc => .inl hc⟩, fin⟩
                          rw [upd_ne (fun z => hn (by rw [z]; exact hbO))]
                          exact e35 c o hc
                        · rw [a1] at hvv; cases hvv
                    · cases hd : dapp (kD kk) x ks vs with
                      | none => rw [hd] at fin; exact fin.elim
                      | some pr =>
                        obtain ⟨ks', vs'⟩ := pr
                        rw [hd] at fin
                        rcases dapp_at gl5 gs.ks.eq gs.refs hd with ⟨b, ys, a1, _⟩ | ⟨a1, a2, a3⟩
                        · rw [a1] at hnone; cases hnone
                        · subst a2 a3
                          simp only [ofO, Res.bind_ok] at fin
                          have h6p : (upd (upd H4 pz (.lst [])) a (.dK (putK kvs kk (.ref pz)))) pz = some (.lst []) := by rw [upd_ne (Ne.symm apz), upd_same]
                          refine ⟨.inl ⟨rfl, [], SqL.of h6p⟩, fun hl => ⟨v, hat _ rfl hl, pz, [], v, rfl, rfl, h6p, by show 0 < sizeLine; rw [sizeLine_eq]; omega, ?_⟩⟩
                          have mva : Mv (fun c => c = a) (upd H4 pz (.lst [])) (upd (upd H4 pz (.lst [])) a (.dK (putK kvs kk (.ref pz)))) := mv_at dk5
                          have mvp : Mv (fun c => c = pz) (upd (upd H4 pz (.lst [])) a (.dK (putK kvs kk (.ref pz)))) (upd (upd (upd H4 pz (.lst [])) a (.dK (putK kvs kk (.ref pz)))) pz (.lst ([] ++ [v]))) := ⟨fun c o hc hn => by rw [upd_ne hn]; exact hc, fun c hc => by subst hc; exact .inr (by rw [h6p]; trivial)⟩
                          have mall : ∀ ds xs, Reps Γ.K H4 (Pc Γ O') ds xs → Reps Γ.K (upd (upd (upd H4 pz (.lst [])) a (.dK (putK kvs kk (.ref pz)))) pz (.lst ([] ++ [v]))) (Pc Γ (pz :: O')) ds xs := fun ds xs h =>
                            Reps.move mvp (fun c hc => hc.2) (fun c hc => ⟨fun z => (List.mem_cons.mp z).elim hc.2 hc.1.1, hc.1.2⟩) (Reps.move mva (fun c hc z => hc.1.1 (z ▸ gs.aO)) (fun _ z => z) ((h.apart hpz).ex e5))
                          have rs5 : RS Γ (pz :: O') (σ'.set t (some v)) (upd H4 pz (.lst [])) (ρ'.set t (some x)) := rs4.more hpz e5 (by rw [upd_same]; trivial)
                          have rs6 := rs5.chgF (H1 := upd (upd H4 pz (.lst [])) a (.dK (putK kvs kk (.ref pz)))) no3 (List.mem_cons_of_mem _ gs.aO) (fun c hc => upd_ne hc) (by rw [upd_same]; trivial)
                          have rs7 := rs6.chgF (H1 := upd (upd (upd H4 pz (.lst [])) a (.dK (putK kvs kk (.ref pz)))) pz (.lst ([] ++ [v]))) no3 List.mem_cons_self (fun c hc => upd_ne hc) (by rw [upd_same]; trivial)
                          have glH7 : ∀ b ∈ bs, (upd (upd (upd H4 pz (.lst [])) a (.dK (putK kvs kk (.ref pz)))) pz (.lst ([] ++ [v]))) b = H2 b := fun b hb => by
                            rw [upd_ne (bpz b (gs.bO b hb)), upd_ne (fun z => gs.na (by rw [← z]; exact hb))]
                            exact glH b hb
                          have hrv := mall [x] [v] (reps_cons.mpr ⟨hrx.ex e4, reps_nil⟩)
                          have pn := putK_new (V.ref pz) a1
                          refine ⟨ρ'.set t (some x), pz :: O', kvs ++ [(kk, .ref pz)], bs ++ [pz], ks ++ [kD kk], vs ++ [D.lst [x]], ⟨rs7, no3, hat3, by rw [upd_ne apz, upd_same, pn], ⟨by rw [List.map_append, gs.ks.eq]; rfl, fun q hq w ew => ?_⟩, by rw [List.map_append, gs.refs, List.map_append]; rfl, List.mem_cons_of_mem _ gs.aO, fun b hb => ?_, ?_, ?_,
                            GL.snoc upd_same hrv (by simp) (GL.move (Nat.le_succ n) (fun ds xs h => mall ds xs (h.ex (e3.trans e4))) glH7 gs.gl), by rw [List.length_append]; exact Nat.succ_le_succ gs.len⟩, st.trans ⟨fun c o hc hn => ?_, fun c hc => ?_⟩, fin⟩
                          · rcases List.mem_append.mp hq with q1 | q1
                            · exact gs.ks.short q q1 w ew
                            · rw [List.mem_singleton.mp q1] at ew
                              exact hsh w ew
                          · rcases List.mem_append.mp hb with q1 | q1
                            · exact List.mem_cons_of_mem _ (gs.bO b q1)
                            · rw [List.mem_singleton.mp q1]; exact List.mem_cons_self
                          · rw [List.nodup_append]
                            exact ⟨gs.nd, by simp, fun c hc d hd => by rw [List.mem_singleton.mp hd]; exact bpz c (gs.bO c hc)⟩
                          · intro z
                            rcases List.mem_append.mp z with q1 | q1
                            · exact gs.na q1
                            · exact apz (List.mem_singleton.mp q1)
                          · have hcz : c ≠ pz := fun z => by
                              have := e3.trans e4 c o hc
                              rw [z, hpz] at this
                              cases this
                            rw [upd_ne hcz, upd_ne (fun z => hn (by rw [z]; exact gs.aO))]
                            exact e35 c o hc
                          · rcases List.mem_cons.mp hc with z | z
                            · right
                              rw [z]
                              exact (e3.trans e4).none hpz
                            · exact .inl z
                  · rw [if_neg hik] at fin
                    exact fin.elim
              · rintro σ' H' ⟨ρ', O', kvs, bs, ks, vs, gs, st, fin⟩
                rw [List.drop_length] at fin
                simp only [grpGo] at fin
                have fsub : ∀ b ∈ O'.filter (fun b => decide (b ∉ bs)), b ∈ O' := fun b hb => (List.mem_filter.mp hb).1
                have rsS := gs.rs.shrink gs.no fsub
                have sub : ∀ b, Pc Γ O' b → Pc Γ (O'.filter (fun b => decide (b ∉ bs))) b := fun b hb => ⟨fun z => hb.1 (fsub b z), hb.2⟩
                have hbs : ∀ b ∈ bs, Pc Γ (O'.filter (fun b => decide (b ∉ bs))) b := fun b hb => ⟨fun z => by
                  have := (List.mem_filter.mp z).2
                  exact of_decide_eq_true this hb, .inr (gs.rs.own b (gs.bO b hb)).1⟩
                have hil : i < ρ'.length := by
                  rw [gs.rs.len]
                  exact (List.getElem?_eq_some_iff.mp gs.at_).1
                refine fin σ' H' (O'.filter fun b => decide (b ∉ bs)) ⟨by rw [List.length_set]; exact rsS.len, rsS.ex, rsS.own, fun j e hj => ?_, fun j l e f w hjl hj hl kj kl => absurd ((soleOwn_of hso kj).trans (soleOwn_of hso kl).symm) hjl⟩ ((Step.ex e1).trans ⟨st.keep, fun b hb => st.own b (fsub b hb)⟩)
                by_cases hij : i = j
                · subst hij
                  rw [List.getElem?_set_self hil] at hj
                  cases hj
                  refine ⟨.ref a, gs.at_, ?_⟩
                  rw [hki]
                  exact ⟨a, rfl, List.mem_filter.mpr ⟨gs.aO, decide_eq_true gs.na⟩, kvs, gs.dk, gs.ks, by rw [gs.refs]; exact GL.reps sub hbs gs.gl⟩
                · rw [List.getElem?_set_ne hij] at hj
                  exact rsS.val j e hj
end VE

/-! max and sum of a dict's values. -/
namespace VE
open PySem PySem.Spec PyProof.Rows L2
variable {Γ : Ctx} {rf : Bool}
def tMaxV (td : TE) : TE := fun σ H Q => td σ H fun x H1 => ∃ (a : Addr) (kvs : List (Key × V)) (is : List Int), x = V.ref a ∧ Rd H1 a (.dK kvs) ∧ kvs.map (·.2) = is.map V.int ∧ is ≠ [] ∧ ∀ m, m ∈ is → (∀ j ∈ is, j ≤ m) → Q (.int m) H1
def tSumV (td : TE) : TE := fun σ H Q => td σ H fun x H1 => ∃ (a : Addr) (kvs : List (Key × V)) (is : List Int), x = V.ref a ∧ Rd H1 a (.dK kvs) ∧ kvs.map (·.2) = is.map V.int ∧ Q (.int is.sum) H1
section
variable {X : Cx} {o : Expr} {p pos apos mpos : Pos} {td : TE}
theorem pe_maxVals (hc : X.calm = true) (hg : Gl X "max") (hm : X.mg "max" = none) (hd : PE X o td) (hbase : attributeBase o "values" X.env (eval o X.env) = eval o X.env) (hline : (apos.endLine == mpos.line) = true)
    (hse : starEach [Expr.Call (.Attribute o "values" apos) [] [] mpos] X.env = [(false, eval (Expr.Call (.Attribute o "values" apos) [] [] mpos) X.env)]) :
    PE X (.Call (.Name "max" p) [.Call (.Attribute o "values" apos) [] [] mpos] [] pos) (tMaxV td) := by
  refine ⟨fun pins s σ H Q I h => ?_⟩
  refine wpAny_Call_Name_kw (ld_blt I hg hm (u := .builtin "max") (by first | rfl | decide +kernel) ?_ (by first | decide +kernel | decide) (by first | decide +kernel | decide))
  rw [hse]
  refine PySem.callWith_builtin1 (wpAny_Call_method0_late hbase hline (L2.thn (hd.run pins s σ H _ I h) fun v s1 ⟨x, H1, I1, r1, a, kvs, is, ex, ha, hv, hne, q⟩ => ?_))
  subst ex
  obtain rfl : v = Value.ref a := r1
  obtain ⟨_, hsys, vs, rel, dof⟩ := dk_rd I1.hok ha
  obtain ⟨ep, dat⟩ := dof.dictAt
  have dat' := dat
  obtain ⟨ob, es, ho, ex, hdat, hko, hpr, hnd⟩ := dat'
  refine ⟨"dict", "dict.values", F.plainAttrs_dict, F.slot_dict_values, F.type_dict_values, ⟨ob, ho, ex.1⟩, fun b e => ?_, Calls.callWith_builtin rfl (PySem.evalArgs_none ?_)⟩
  · cases e
    exact ⟨ob, ho, ex.2.1⟩
  refine call_meetsIn F.slot_dict_values ⟨ob, ho, ex.1⟩ F.entry_dict_values (F.args_dict_values_1 _) (meets_dict_values (mixKind X.prog X.w) a hsys) ⟨⟨vs, dof⟩, ?_⟩
  have k1 : ∀ b u, s1.heap.get? b = some u → (s1.heap.push { cls := .type "dict_values", data := .fields #[.ref a] }).get? b = some u := fun b u e => Heap.get?_push_of_some _ e
  have dat1 : (s1.heap.push { cls := .type "dict_values", data := .fields #[.ref a] }).DictAt (mixKind X.prog X.w) a vs ep := dat.keep k1
  have hlv : vs.length = is.length := by
    have e1 := congrArg List.length hv
    rw [List.length_map, List.length_map] at e1
    rw [← e1]
    exact (KV.length rel).symm
  have hval : ∀ (i : Nat) (v : Value), (∃ k, vs[i]? = some (k, v)) → ∃ t, v = Value.int (is.getD i 0) t := fun i v ⟨k, hk⟩ => by
    obtain ⟨x, h1, h2⟩ := KV.at' rel hk
    have e1 : (kvs.map (·.2))[i]? = some x := by rw [List.getElem?_map, h1] <;> rfl
    rw [hv, List.getElem?_map] at e1
    obtain ⟨j, hj, e2⟩ := Option.map_eq_some_iff.mp e1
    subst e2
    obtain ⟨t, e3⟩ := h2
    refine ⟨t, ?_⟩
    rw [e3, List.getD_eq_getElem?_getD, hj] <;> rfl
  have hlt : a < s1.heap.objs.size := Heap.lt_size ho
  have hsz : (s1.heap.push { cls := .type "dict_values", data := .fields #[.ref a] }).objs.size = s1.heap.objs.size + 1 := Heap.size_push _ _
  have hfp : ∀ b ∈ [(s1.heap.push { cls := .type "dict_values", data := .fields #[.ref a] }).objs.size, a], b < ((s1.heap.push { cls := .type "dict_values", data := .fields #[.ref a] }).push { cls := .type "dict_valueiterator", data := .fields #[.ref a, .int 0 0, .int vs.length 0, .int ep 0] }).objs.size := fun b hb => by
    rw [Heap.size_push, Heap.size_push]
    rw [hsz] at hb
    rcases List.mem_cons.mp hb with z | z
    · rw [z]; exact Nat.lt_succ_self _
    · rw [List.mem_singleton.mp z]; exact Nat.lt_succ_of_lt (Nat.lt_succ_of_lt hlt)
  have hlen : 0 < vs.length := by
    rw [hlv]
    exact List.length_pos_iff.mpr hne
  refine call_max_walk (wpAny_pyIter_values (v := s1.heap.objs.size) (d := a) ⟨_, Heap.get?_push_size _ rfl, rfl, rfl⟩ dat1 ?_)
  refine ⟨_, _, _, _, _, _, _, rfl, Walks.dictValues (knd := mixKind X.prog X.w) (A := X.A.in1) (I.ok.hd hc) (s1.heap.push { cls := .type "dict_values", data := .fields #[.ref a] }).objs.size a (by rw [hsz]; exact Nat.ne_of_lt (Nat.lt_succ_of_lt hlt)) vs ep,
    ⟨⟨_, Heap.get?_push_size _ rfl, rfl, rfl⟩, dat1.keep fun b u e => Heap.get?_push_of_some _ e⟩, hfp, hlen, CmpOf.ints_gt (fun i => is.getD i 0) hval, fun v h' tk hP hk => ?_⟩
  obtain ⟨t, rfl⟩ := hval _ v hP
  obtain ⟨m1', m2'⟩ := argBest_gt (fun i => is.getD i 0) (vs.length - 1)
  have hk2 : ∀ b o, s1.heap.get? b = some o → h'.get? b = some o := fun b o e => hk b o (fun z => by
    rw [List.mem_singleton.mp z, hsz] at e
    have := Heap.lt_size e
    exact absurd this (Nat.not_lt.mpr (Nat.le_succ _))) (Heap.get?_push_of_some _ (k1 b o e))
  refine ⟨.int _, H1, I1.kept (t' := tk) hk2, ⟨t, rfl⟩, q _ (PySem.getD_mem (by omega)) fun y hy => ?_⟩
  obtain ⟨j, hj, e⟩ := List.mem_iff_getElem.mp hy
  have z := m2' j (by omega)
  have e3 : is.getD j 0 = y := by rw [List.getD_eq_getElem?_getD, List.getElem?_eq_getElem hj, ← e] <;> rfl
  simp only [e3] at z
  exact z
theorem pe_sumVals (hc : X.calm = true) (hg : Gl X "sum") (hm : X.mg "sum" = none) (hd : PE X o td) (hbase : attributeBase o "values" X.env (eval o X.env) = eval o X.env) (hline : (apos.endLine == mpos.line) = true)
    (hse : starEach [Expr.Call (.Attribute o "values" apos) [] [] mpos] X.env = [(false, eval (Expr.Call (.Attribute o "values" apos) [] [] mpos) X.env)]) :
    PE X (.Call (.Name "sum" p) [.Call (.Attribute o "values" apos) [] [] mpos] [] pos) (tSumV td) := by
  refine ⟨fun pins s σ H Q I h => ?_⟩
  refine wpAny_Call_Name_kw (ld_blt I hg hm (u := .builtin "sum") (by first | rfl | decide +kernel) ?_ (by first | decide +kernel | decide) (by first | decide +kernel | decide))
  rw [hse]
  refine PySem.callWith_builtin1 (wpAny_Call_method0_late hbase hline (L2.thn (hd.run pins s σ H _ I h) fun v s1 ⟨x, H1, I1, r1, a, kvs, is, ex, ha, hv, q⟩ => ?_))
  subst ex
  obtain rfl : v = Value.ref a := r1
  obtain ⟨_, hsys, vs, rel, dof⟩ := dk_rd I1.hok ha
  obtain ⟨ep, dat⟩ := dof.dictAt
  have dat' := dat
  obtain ⟨ob, es, ho, ex, hdat, hko, hpr, hnd⟩ := dat'
  refine ⟨"dict", "dict.values", F.plainAttrs_dict, F.slot_dict_values, F.type_dict_values, ⟨ob, ho, ex.1⟩, fun b e => ?_, Calls.callWith_builtin rfl (PySem.evalArgs_none ?_)⟩
  · cases e
    exact ⟨ob, ho, ex.2.1⟩
  refine call_meetsIn F.slot_dict_values ⟨ob, ho, ex.1⟩ F.entry_dict_values (F.args_dict_values_1 _) (meets_dict_values (mixKind X.prog X.w) a hsys) ⟨⟨vs, dof⟩, ?_⟩
  have k1 : ∀ b u, s1.heap.get? b = some u → (s1.heap.push { cls := .type "dict_values", data := .fields #[.ref a] }).get? b = some u := fun b u e => Heap.get?_push_of_some _ e
  have dat1 : (s1.heap.push { cls := .type "dict_values", data := .fields #[.ref a] }).DictAt (mixKind X.prog X.w) a vs ep := dat.keep k1
  have hlv : vs.length = is.length := by
    have e1 := congrArg List.length hv
    rw [List.length_map, List.length_map] at e1
    rw [← e1]
    exact (KV.length rel).symm
  have hval : ∀ (i : Nat) (v : Value), (∃ k, vs[i]? = some (k, v)) → ∃ t, v = Value.int (is.getD i 0) t := fun i v ⟨k, hk⟩ => by
    obtain ⟨x, h1, h2⟩ := KV.at' rel hk
    have e1 : (kvs.map (·.2))[i]? = some x := by rw [List.getElem?_map, h1] <;> rfl
    rw [hv, List.getElem?_map] at e1
    obtain ⟨j, hj, e2⟩ := Option.map_eq_some_iff.mp e1
    subst e2
    obtain ⟨t, e3⟩ := h2
    refine ⟨t, ?_⟩
    rw [e3, List.getD_eq_getElem?_getD, hj] <;> rfl
  have hlt : a < s1.heap.objs.size := Heap.lt_size ho
  have hsz : (s1.heap.push { cls := .type "dict_values", data := .fields #[.ref a] }).objs.size = s1.heap.objs.size + 1 := Heap.size_push _ _
  have hfp : ∀ b ∈ [(s1.heap.push { cls := .type "dict_values", data := .fields #[.ref a] }).objs.size, a], b < ((s1.heap.push { cls := .type "dict_values", data := .fields #[.ref a] }).push { cls := .type "dict_valueiterator", data := .fields #[.ref a, .int 0 0, .int vs.length 0, .int ep 0] }).objs.size := fun b hb => by
    rw [Heap.size_push, Heap.size_push]
    rw [hsz] at hb
    rcases List.mem_cons.mp hb with z | z
    · rw [z]; exact Nat.lt_succ_self _
    · rw [List.mem_singleton.mp z]; exact Nat.lt_succ_of_lt (Nat.lt_succ_of_lt hlt)
  refine call_sum_walkG (wpAny_pyIter_values (v := s1.heap.objs.size) (d := a) ⟨_, Heap.get?_push_size _ rfl, rfl, rfl⟩ dat1 ?_)
  refine ⟨_, _, _, _, _, _, fun i => is.getD i 0, rfl, Walks.dictValues (knd := mixKind X.prog X.w) (A := X.A.in1) (I.ok.hd hc) (s1.heap.push { cls := .type "dict_values", data := .fields #[.ref a] }).objs.size a (by rw [hsz]; exact Nat.ne_of_lt (Nat.lt_succ_of_lt hlt)) vs ep,
    ⟨⟨_, Heap.get?_push_size _ rfl, rfl, rfl⟩, dat1.keep fun b u e => Heap.get?_push_of_some _ e⟩, hfp, hval, fun h' tk t' hk => ?_⟩
  have hk2 : ∀ b o, s1.heap.get? b = some o → h'.get? b = some o := fun b o e => hk b o (fun z => by
    rw [List.mem_singleton.mp z, hsz] at e
    have := Heap.lt_size e
    exact absurd this (Nat.not_lt.mpr (Nat.le_succ _))) (Heap.get?_push_of_some _ (k1 b o e))
  refine ⟨.int _, H1, I1.kept (t' := tk) hk2, ⟨t', rfl⟩, ?_⟩
  rw [preSum_getD, hlv, List.take_length]
  exact q

end
theorem foldl_max : ∀ (ns : List Int) (n : Int), ns.foldl max n ∈ n :: ns ∧ ∀ y ∈ n :: ns, y ≤ ns.foldl max n
  | [], n => ⟨by simp, fun y hy => by rw [List.mem_singleton.mp hy]; exact Int.le_refl _⟩
  | m :: ns, n => by
    rw [List.foldl_cons]
    obtain ⟨h1, h2⟩ := foldl_max ns (max n m)
    refine ⟨?_, fun y hy => ?_⟩
    · rcases List.mem_cons.mp h1 with e | e
      · rw [e]
        by_cases h : n ≤ m
        · rw [Int.max_eq_right h]; simp
        · rw [Int.max_eq_left (by omega)]; simp
      · exact List.mem_cons_of_mem _ (List.mem_cons_of_mem _ e)
    · have hm := h2 (max n m) List.mem_cons_self
      rcases List.mem_cons.mp hy with e | e
      · rw [e]; exact Int.le_trans (Int.le_max_left n m) hm
      · rcases List.mem_cons.mp e with e | e
        · rw [e]; exact Int.le_trans (Int.le_max_right n m) hm
        · exact h2 y (List.mem_cons_of_mem _ e)
theorem se_vb {f : B1} (ok : XOk Γ) {a : E} {x : Expr} {nm : PySem.Str} {p pos apos mpos : Pos} (hf : (f = .max ∧ nm = "max") ∨ (f = .sum ∧ nm = "sum")) (hg : Gl Γ.X nm) (hm : Γ.X.mg nm = none) (ha : SE Γ a x) (hn : noSup x = true) (hl : (apos.endLine == mpos.line) = true) :
    SE Γ (.vb f a) (.Call (.Name nm p) [.Call (.Attribute x "values" apos) [] [] mpos] [] pos) := by
  rcases hf with ⟨rfl, rfl⟩ | ⟨rfl, rfl⟩
  · refine PE.wk (pe_maxVals ok.calm hg hm ha (base_of hn) hl rfl) fun σ H Q h => ?_
    obtain ⟨ρ, O, rs, h⟩ := h
    simp only [ev] at h
    refine ⟨ρ, O, rs, h.bnd.mono fun d edd hd v H1 e1 o1 => ?_⟩
    clear edd
    have hd' : Fin Γ σ H (vbD .max d) _ := hd
    cases d <;> simp only [vbD] at hd' <;> try exact hd'.elim
    case dic ks vs =>
      obtain ⟨b, kvs, ex, hb, hk, hr⟩ := o1.one
      subst ex
      cases hi : intsD vs with
      | none => rw [hi] at hd'; exact hd'.elim
      | some l => cases l with
        | nil => rw [hi] at hd'; exact hd'.elim
        | cons n ns =>
          rw [hi] at hd'
          refine ⟨b, kvs, n :: ns, rfl, hb, reps_ints hr hi, by simp, fun m hm1 hm2 => ?_⟩
          obtain ⟨q1, q2⟩ := foldl_max ns n
          have : m = ns.foldl max n := Int.le_antisymm (q2 m hm1) (hm2 _ q1)
          rw [this]
          exact hd' _ _ e1 ((val_int (Γ := Γ)).back e1).out
  · refine PE.wk (pe_sumVals ok.calm hg hm ha (base_of hn) hl rfl) fun σ H Q h => ?_
    obtain ⟨ρ, O, rs, h⟩ := h
    simp only [ev] at h
    refine ⟨ρ, O, rs, h.bnd.mono fun d edd hd v H1 e1 o1 => ?_⟩
    clear edd
    have hd' : Fin Γ σ H (vbD .sum d) _ := hd
    cases d <;> simp only [vbD] at hd' <;> try exact hd'.elim
    case dic ks vs =>
      obtain ⟨b, kvs, ex, hb, hk, hr⟩ := o1.one
      subst ex
      simp only [b1D] at hd'
      cases hi : intsD vs with
      | none => rw [hi] at hd'; exact hd'.elim
      | some l =>
        rw [hi] at hd'
        exact ⟨b, kvs, l, rfl, hb, reps_ints hr hi, hd' _ _ e1 ((val_int (Γ := Γ)).back e1).out⟩
end VE

/-! The text held against the small language. -/
namespace VE
open PySem PySem.Spec PyProof.Rows L2
structure Cfg where
  N : List PySem.Str
  ks : List Kd
  FR : Nat → Bool
  fns : List (PySem.Str × Nat × List Kd)
  exs : List (PySem.Str × Nat)
  cst : List (PySem.Str × (Int ⊕ List Nat))
  tcs : List (PySem.Str × List (List Nat))
def glob (sc : Scope) (x : PySem.Str) : Bool := decide (sc.names.lookup x = some .globalImplicit)
def visC (sc : Scope) (x : PySem.Str) : Bool := decide (sc.names.lookup x = some .local) || decide (sc.names.lookup x = some .cell) || decide (sc.names.lookup x = some .free)
def varC (c : Cfg) (sc : Scope) (i : Nat) (x : PySem.Str) : Bool := decide (c.N[i]? = some x) && visC sc x && !(x == ("__debug__" : PySem.Str)) && !(x == ("__classdict__" : PySem.Str))
def nmC (c : Cfg) (sc : Scope) (fs : PySem.Str → Bool) (i : Nat) (x : PySem.Str) : Bool := decide (c.N[i]? = some x) && (decide (sc.names.lookup x = some .local) || (decide (sc.names.lookup x = some .cell) && fs x))
def bnames : List PySem.Str := ["len", "all", "any", "sum", "sorted", "set", "list", "tuple", "int", "str", "bool", "max", "min", "isinstance", "range", "enumerate", "zip", "dict"]
def bltC (sc : Scope) (x y : PySem.Str) : Bool := (x == y) && glob sc x && bnames.contains x
def constC : D → Const → Bool
  | .non, .none => true
  | .bl b, .bool b' => b == b'
  | .int i, .int j => i == j
  | .str s, .str x => (x.cps.toList == s) && decide (s.length ≤ 100000)
  | _, _ => false
def cstC : D → (Int ⊕ List Nat) → Bool
  | .int i, .inl j => i == j
  | .str s, .inr t => (s == t) && decide (s.length ≤ 100000)
  | _, _ => false
def lookC (l : List (PySem.Str × (Int ⊕ List Nat))) (x : PySem.Str) (d : D) : Bool := l.any fun p => (p.1 == x) && cstC d p.2
def lookF (l : List (PySem.Str × Nat × List Kd)) (x : PySem.Str) (f : Nat) (ks : List Kd) (es : Es) : Bool := l.any fun p => (p.1 == x) && (p.2.1 == f) && argsLk ks p.2.2 es
def plT : Expr → Bool
  | .UnaryOp _ _ _ => false
  | .BoolOp _ _ _ => false
  | .IfExp _ _ _ _ => false
  | .Compare _ _ _ _ => false
  | _ => true
def tstC : E → Expr → Bool
  | .cmp _ _ _, _ => true
  | .cmp2 _ _ _ _ _, _ => true
  | .not _, _ => true
  | .and _, _ => true
  | .or _, _ => true
  | _, e => plT e
def b1C : B1 → PySem.Str
  | .len => "len"
  | .all => "all"
  | .any => "any"
  | .sum => "sum"
  | .sorted => "sorted"
  | .list => "list"
  | .tuple => "tuple"
  | .int => "int"
  | .str => "str"
  | .dict => "dict"
  | .max => "max"
  | .min => "min"
  | _ => ""
def namesC (c : Cfg) (sc : Scope) (fs : PySem.Str → Bool) : List Nat → List Expr → Bool
  | [], [] => true
  | i :: is, .Name x _ :: es => nmC c sc fs i x && namesC c sc fs is es
  | _, _ => false
def tgC (c : Cfg) (sc : Scope) (fs : PySem.Str → Bool) : Tg → Expr → Bool
  | .nm i, e => namesC c sc fs [i] [e]
  | .tp is, .Tuple es _ _ => namesC c sc fs is es
  | _, _ => false
def tgNames : Tg → Expr → List (PySem.Str × Nat)
  | .nm i, .Name x _ => [(x, i)]
  | .tp is, .Tuple es _ _ => (es.zip is).map fun p => match p.1 with
    | .Name x _ => (x, p.2)
    | _ => ("", p.2)
  | _, _ => []
/-- a name of kind fz -/
def fzVar (c : Cfg) (sc : Scope) : E → Expr → Bool
  | .v i, .Name x _ => varC c sc i x && decide (kdAt c.ks i = .fz)
  | _, _ => false
mutual
def mE (c : Cfg) (sc : Scope) : E → Expr → Bool
  | .c d, .Constant k _ _ => constC d k
  | .c d, .Name x _ => glob sc x && lookC c.cst x d && !(x == ("__debug__" : PySem.Str))
  | .v i, .Name x _ => varC c sc i x
  | .tup es, .Tuple xs _ _ => mEs c sc es xs && lks c.ks es && decide (es.len ≤ 100000)
  | .lst es, .List xs _ => mEs c sc es xs && lks c.ks es && decide (es.len ≤ 100000)
  | .dnew _, .Dict [] [] _ => true
  | .bin o a b, .BinOp x p y _ => decide (p = opOf o) && mE c sc a x && mE c sc b y
  | .neg a, .UnaryOp .USub x _ => mE c sc a x
  | .cmp o a b, .Compare x [p] [y] _ => decide (p = cmpOf o) && mE c sc a x && mE c sc b y && noSet y
  | .cmp2 o p a b d, .Compare x [q, r] [y, z] _ => decide (q = cmpOf o) && decide (r = cmpOf p) && mE c sc a x && mE c sc b y && mE c sc d z && noSet z
  | .and es, .BoolOp .And xs _ => mL c sc es xs && decide (0 < es.len)
  | .or es, .BoolOp .Or xs _ => mL c sc es xs && decide (0 < es.len)
  | .not a, .UnaryOp .Not x _ => mE c sc a x && tstC a x
  | .ite t a b, .IfExp z x y _ => mE c sc t z && tstC t z && mE c sc a x && mE c sc b y
  | .call f (.cons e es), .Call (.Name nm _) (x :: xs) [] _ => glob sc nm && lookF c.fns nm f c.ks (.cons e es) && mE c sc e x && mEs c sc es xs && noStar x && xs.all noStar
  | .b1 .lenset a, .Call (.Name nm _) [.Call (.Name nm2 _) [y] [] _] [] _ => bltC sc nm "len" && bltC sc nm2 "set" && mE c sc a y && noStar y
  | .b1 .sortset a, .Call (.Name nm _) [.Call (.Name nm2 _) [y] [] _] [] _ => bltC sc nm "sorted" && bltC sc nm2 "set" && mE c sc a y && noStar y
  | .b1 f a, .Call (.Name nm _) [x] [] _ => bltC sc nm (b1C f) && mE c sc a x && noStar x
  | .b2 f a b, .Call (.Name nm _) [x, y] [] _ => bltC sc nm (b2Nm f) && mE c sc a x && mE c sc b y && noStar x && noStar y
  | .isi a [t], .Call (.Name nm _) [x, .Name ty _] [] _ => bltC sc nm "isinstance" && bltC sc ty (PySem.Str.ofString (tyNm t)) && mE c sc a x && noStar x
  | .isi a [t, u], .Call (.Name nm _) [x, .Tuple [.Name ty _, .Name tz _] _ _] [] _ => bltC sc nm "isinstance" && bltC sc ty (PySem.Str.ofString (tyNm t)) && bltC sc tz (PySem.Str.ofString (tyNm u)) && mE c sc a x && noStar x
  | .m1 .join o a, .Call (.Attribute x nm ap) [y] [] cp => (nm == ("join" : PySem.Str)) && mE c sc o x && mE c sc a y && noStar y && noSup x && (ap.endLine == cp.line)
  | .m1 .count o a, .Call (.Attribute x nm ap) [y] [] cp => (nm == ("count" : PySem.Str)) && mE c sc o x && mE c sc a y && noStar y && noSup x && (ap.endLine == cp.line)
  | .m1 .index o a, .Call (.Attribute x nm ap) [y] [] cp => (nm == ("index" : PySem.Str)) && mE c sc o x && mE c sc a y && noStar y && noSup x && (ap.endLine == cp.line)
  | .m2 .find o a b, .Call (.Attribute x nm ap) [y, z] [] cp => (nm == ("find" : PySem.Str)) && mE c sc o x && mE c sc a y && mE c sc b z && noStar y && noStar z && noSup x && (ap.endLine == cp.line)
  | .m2 .get o a b, .Call (.Attribute x nm ap) [y, z] [] cp => (nm == ("get" : PySem.Str)) && mE c sc o x && mE c sc a y && mE c sc b z && noStar y && noStar z && noSup x && (ap.endLine == cp.line) && lk c.ks b
  | .dsp k a, .Dict [some x] [y] _ => mE c sc k x && mE c sc a y && lk c.ks a
  | .zl a b, .Call (.Name nm _) [.Call (.Name nm2 _) [x, y] [] _] [] _ => bltC sc nm "list" && bltC sc nm2 "zip" && mE c sc a x && mE c sc b y && noStar x && noStar y
  | .vb f a, .Call (.Name nm _) [.Call (.Attribute x nm2 ap) [] [] cp] [] _ => bltC sc nm (b1C f) && (decide (f = .max) || decide (f = .sum)) && (nm2 == ("values" : PySem.Str)) && mE c sc a x && noSup x && (ap.endLine == cp.line)
  | .ix a b, .Subscript x y _ => mE c sc a x && mE c sc b y && noSlice y
  | .kix ss a, .Call (.Attribute (.Name x _) nm ap) [y] [] cp => (nm == ("index" : PySem.Str)) && glob sc x && (c.tcs.any fun t => (t.1 == x) && (t.2 == ss)) && mE c sc a y && noStar y && (ap.endLine == cp.line) && !(x == ("__debug__" : PySem.Str))
  | .sl a lo hi, .Subscript x (.Slice l h none _) _ => mE c sc a x && mO c sc lo l && mO c sc hi h
  | .rev a, .Subscript x (.Slice none none (some (.UnaryOp .USub (.Constant (.int 1) _ _) _)) _) _ => mE c sc a x
  | .lc tg src cnd elt, .ListComp eltE [⟨tgE, iter, ifs, 0⟩] scope _ => mSrc c sc src tgE iter && blkC c.N sc scope (tgNames tg tgE) && decide ((tgNames tg tgE).map (·.2) = tg.slots) && ordAll c.ks tg.slots && lk c.ks elt && noSetD iter
      && tgC c (relS scope sc) (fun x => scope.names.lookup x == some .cell) tg tgE && mIf c (relS scope sc) cnd ifs && mE c (relS scope sc) elt eltE
  | _, _ => false
def mEs (c : Cfg) (sc : Scope) : Es → List Expr → Bool
  | .nil, [] => true
  | .cons e es, x :: xs => mE c sc e x && noStar x && mEs c sc es xs
  | _, _ => false
def mL (c : Cfg) (sc : Scope) : Es → List Expr → Bool
  | .nil, [] => true
  | .cons e es, x :: xs => mE c sc e x && tstC e x && mL c sc es xs
  | _, _ => false
def mO (c : Cfg) (sc : Scope) : Eo → Option Expr → Bool
  | .no, none => true
  | .yes e, some x => mE c sc e x
  | _, _ => false
def mIf (c : Cfg) (sc : Scope) : Eo → List Expr → Bool
  | .no, [] => true
  | .yes e, [x] => mE c sc e x && tstC e x
  | _, _ => false
def mSrc (c : Cfg) (sc : Scope) : Src → Expr → Expr → Bool
  | .e a, _, x => mE c sc a x
  | .r1 a, _, .Call (.Name nm _) [x] [] _ => bltC sc nm "range" && mE c sc a x && noStar x
  | .r2 a b, _, .Call (.Name nm _) [x, y] [] _ => bltC sc nm "range" && mE c sc a x && mE c sc b y && noStar x && noStar y
  | .zip a b, .Tuple _ _ _, .Call (.Name nm _) [x, y] [] _ => bltC sc nm "zip" && mE c sc a x && mE c sc b y && noStar x && noStar y
  | .enum a, .Tuple _ _ _, .Call (.Name nm _) [x] [] _ => bltC sc nm "enumerate" && mE c sc a x && noStar x
  | .keys (.v i), _, .Name x _ => varC c sc i x && decide (kdAt c.ks i = .fz)
  | .vals a, _, .Call (.Attribute x nm ap) [] [] cp => (nm == ("values" : PySem.Str)) && (ap.endLine == cp.line) && (fzVar c sc a x || (mE c sc a x && noSup x && fr c.FR a))
  | .itms a, .Tuple _ _ _, .Call (.Attribute x nm ap) [] [] cp => (nm == ("items" : PySem.Str)) && (ap.endLine == cp.line) && fzVar c sc a x
  | _, _, _ => false
end
end VE

/-! What is held against the text is what the text does. -/
namespace VE
open PySem PySem.Spec PyProof.Rows L2
def FnFact (X : Cx) (cad : Nat → Addr) (FR : Nat → Bool) (cf : Nat → List D → Res D) (nm : PySem.Str) (f : Nat) (kps : List Kd) : Prop :=
  ∃ k fa fd ps, FnOk X.prog X.w X.K X.mg X.base (L2.CX X.prog X.w) k fa fd ps (spF X.K cad kps (FR f) (cf f)) ∧ Room k X.A ∧ X.mg nm = some (.ref fa) ∧ PySem.W.keepIn X.K (.ref fa) = true ∧ Binds X.K fd ps [] ∧ (nm == ("__debug__" : PySem.Str)) = false
def CstFact (X : Cx) (x : PySem.Str) : Int ⊕ List Nat → Prop
  | .inl i => ∃ u, X.mg x = some u ∧ RelV (.int i) u
  | .inr s => ∃ u, X.mg x = some u ∧ RelV (.str (mkS s)) u
structure Ok (Γ : Ctx) (c : Cfg) (sc : Scope) : Prop where
  x : XOk Γ
  N : Γ.X.N = c.N
  ks : Γ.ks = c.ks
  sc : Γ.X.env.scope = sc
  blt : ∀ nm, bnames.contains nm = true → Γ.X.mg nm = none
  fns : ∀ t ∈ c.fns, FnFact Γ.X Γ.cad Γ.FR Γ.cf t.1 t.2.1 t.2.2
  cst : ∀ t ∈ c.cst, CstFact Γ.X t.1 t.2
  tcs : ∀ t ∈ c.tcs, TupFact Γ.X t.1 t.2
  FR : Γ.FR = c.FR
variable {Γ : Ctx} {c : Cfg} {sc : Scope}
theorem Ok.blk (ok : Ok Γ c sc) (s : Shared) (H : Hp) (scope : Scope) (C : Addr) (cl : List (PySem.Str × Addr)) (fp : List Addr) : Ok (Γ.blk s H scope C cl fp) c (relS scope sc) where
  x := ⟨ok.x.calm, ok.x.nd, ok.x.units, ok.x.len, fun u s' ⟨_, _, _, _, _, _, _, _, _, _, _, _, _, _, _, _, w⟩ => w.elim⟩
  N := ok.N
  ks := ok.ks
  sc := by
    show relS scope Γ.X.env.scope = _
    rw [ok.sc]
  blt := ok.blt
  fns := ok.fns
  cst := ok.cst
  tcs := ok.tcs
  FR := ok.FR
theorem glob_ok (ok : Ok Γ c sc) {x : PySem.Str} (h : glob sc x = true) : Gl Γ.X x := by
  have := of_decide_eq_true h
  show Γ.X.env.scope.names.lookup x = _
  rw [ok.sc]; exact this
theorem blt_ok (ok : Ok Γ c sc) {x y : PySem.Str} (h : bltC sc x y = true) : x = y ∧ Gl Γ.X x ∧ Γ.X.mg x = none := by
  unfold bltC at h
  rw [Bool.and_eq_true, Bool.and_eq_true] at h
  exact ⟨by simpa using h.1.1, glob_ok ok h.1.2, ok.blt x h.2⟩
theorem vis_ok (ok : Ok Γ c sc) {x : PySem.Str} (h : visC sc x = true) : Vis Γ.X.env.scope x := by
  unfold visC at h
  rw [Bool.or_eq_true, Bool.or_eq_true, decide_eq_true_eq, decide_eq_true_eq, decide_eq_true_eq] at h
  unfold Vis
  rw [ok.sc]
  rcases h with (h | h) | h
  · exact .inl h
  · exact .inr (.inl h)
  · exact .inr (.inr h)
theorem var_ok (ok : Ok Γ c sc) {i : Nat} {x : PySem.Str} (h : varC c sc i x = true) : VarAt Γ.X i x := by
  unfold varC at h
  rw [Bool.and_eq_true, Bool.and_eq_true, Bool.and_eq_true, decide_eq_true_eq] at h
  exact ⟨by rw [ok.N]; exact h.1.1.1, vis_ok ok h.1.1.2, by simpa using h.1.2, by simpa using h.2⟩
theorem nm_ok (ok : Ok Γ c sc) {fs : PySem.Str → Bool} (hf : ∀ x, fs x = true → Γ.X.fn x = true) {i : Nat} {x : PySem.Str} (h : nmC c sc fs i x = true) : NmAt Γ.X i x := by
  unfold nmC at h
  rw [Bool.and_eq_true, Bool.or_eq_true, Bool.and_eq_true, decide_eq_true_eq, decide_eq_true_eq, decide_eq_true_eq] at h
  refine ⟨by rw [ok.N]; exact h.1, ?_, ?_⟩
  · unfold L2.Loc
    rw [ok.sc]
    exact h.2.imp id fun z => z.1
  · rw [ok.sc]
    exact h.2.elim .inr fun z => .inl (hf x z.2)
theorem names_ok (ok : Ok Γ c sc) {fs : PySem.Str → Bool} (hf : ∀ x, fs x = true → Γ.X.fn x = true) : ∀ {is : List Nat} {es : List Expr}, namesC c sc fs is es = true → NamesAt Γ.X is es
  | [], [], _ => trivial
  | i :: is, e :: es, h => by
    cases e <;> simp only [namesC] at h <;> try contradiction
    case Name x p =>
      rw [Bool.and_eq_true] at h
      have n := nm_ok ok hf h.1
      exact ⟨⟨n.ix, n.loc, n.fn⟩, names_ok ok hf h.2⟩
  | [], _ :: _, h => by simp [namesC] at h
  | _ :: _, [], h => by simp [namesC] at h
theorem tg_okC (ok : Ok Γ c sc) {fs : PySem.Str → Bool} (hf : ∀ x, fs x = true → Γ.X.fn x = true) {tg : Tg} {e : Expr} (h : tgC c sc fs tg e = true) : TgAt Γ.X tg e := by
  cases tg with
  | nm i => exact names_ok ok hf h
  | tp is =>
    cases e <;> simp only [tgC] at h <;> try contradiction
    exact names_ok ok hf h
theorem tp_ofC {fs : PySem.Str → Bool} {tg : Tg} {e : Expr} (h : tgC c sc fs tg e = true) : tpE e = isTp tg := by
  cases tg with
  | nm i => cases e <;> simp only [tgC, namesC] at h <;> first | rfl | contradiction
  | tp is => cases e <;> simp only [tgC] at h <;> first | rfl | contradiction
theorem plT_ok {e : Expr} {env : PySem.Env} (h : plT e = true) : ∀ whole, isTrue e env whole = (do let v ← whole; standAt e.pos; holding [v] (truthy v)) := fun whole => by
  cases e <;> first | rfl | simp [plT] at h
theorem val_both {m : E} {e : Expr} (h : SE Γ m e) (ht : tstC m e = true → plT e = true) : SE Γ m e ∧ (tstC m e = true → ST Γ m e) := ⟨h, fun q => st_val h (plT_ok (ht q))⟩
theorem call_ok (ok : Ok Γ c sc) {nm : PySem.Str} {f : Nat} {es : Es} (hg : glob sc nm = true) (h : lookF c.fns nm f c.ks es = true) : ∃ kps, CallAt Γ f nm kps ∧ argsLk Γ.ks kps es = true := by
  unfold lookF at h
  obtain ⟨t, ht, q⟩ := List.any_eq_true.mp h
  rw [Bool.and_eq_true, Bool.and_eq_true] at q
  obtain ⟨⟨q1, q2⟩, q3⟩ := q
  have e1 : t.1 = nm := by simpa using q1
  have e2 : t.2.1 = f := by simpa using q2
  obtain ⟨k, fa, fd, ps, hF, hr, hm, hk, hb, hd⟩ := ok.fns t ht
  rw [e1] at hm hd
  rw [e2] at hF
  refine ⟨t.2.2, ⟨fun {e es t p pos} ha hs hss => ?_⟩, by rw [ok.ks]; exact q3⟩
  exact pe_callS hF hr (glob_ok ok hg) hm hk hb (fun σ => passAt ok.x.tk σ) ha hd (star_of hs) (star_any hss)
theorem const_ok {d : D} {k : Const} {j : Nat} {pos : Pos} (h : constC d k = true) : SE Γ (.c d) (.Constant k j pos) := by
  cases d <;> cases k <;> simp only [constC] at h <;> try contradiction
  case non.none => exact se_non
  case bl.bool a b =>
    have : a = b := by simpa using h
    subst this
    exact se_bl
  case int.int a b =>
    have : a = b := by simpa using h
    subst this
    exact se_int
  case str.str s x =>
    rw [Bool.and_eq_true, decide_eq_true_eq] at h
    exact se_str (by simpa using h.1) h.2
theorem cst_ok (ok : Ok Γ c sc) {x : PySem.Str} {d : D} {pos : Pos} (hg : glob sc x = true) (h : lookC c.cst x d = true) (hd : (x == ("__debug__" : PySem.Str)) = false) : SE Γ (.c d) (.Name x pos) := by
  unfold lookC at h
  obtain ⟨t, ht, q⟩ := List.any_eq_true.mp h
  rw [Bool.and_eq_true] at q
  have e1 : t.1 = x := by simpa using q.1
  have f := ok.cst t ht
  rw [e1] at f
  have q2 := q.2
  cases hv : t.2 with
  | inl i =>
    rw [hv] at f q2
    obtain ⟨u, h1, h2⟩ := f
    cases d <;> simp only [cstC] at q2 <;> try contradiction
    case int j =>
      have : j = i := by simpa using q2
      subst this
      exact se_c (pe_glob (glob_ok ok hg) h1 h2 hd) (fun _ _ => by simp [Rep]) fun _ _ _ => trivial
  | inr s =>
    rw [hv] at f q2
    obtain ⟨u, h1, h2⟩ := f
    cases d <;> simp only [cstC] at q2 <;> try contradiction
    case str t =>
      rw [Bool.and_eq_true, decide_eq_true_eq] at q2
      have : t = s := by simpa using q2.1
      subst this
      exact se_c (pe_glob (glob_ok ok hg) h1 h2 hd) (fun _ _ => by unfold Rep; exact ⟨rfl, by rw [sizeLine_eq]; omega⟩) fun _ _ _ => trivial
theorem ifs_one {m : E} {e : Expr} (h : SE Γ m e ∧ (tstC m e = true → ST Γ m e)) (ht : tstC m e = true) : IfsAt Γ (.yes m) [e] := h.2 ht
theorem lc_of {tg : Tg} {src : Src} {cnd : Eo} {elt : E} {eltE tgE iter : Expr} {ifs : List Expr} {scope : Scope} (ok : Ok Γ c sc) (hS : mSrc c sc src tgE iter = true → SI Γ src tgE iter) (hI : ∀ Γ' sc', Ok Γ' c sc' → mIf c sc' cnd ifs = true → IfsAt Γ' cnd ifs) (hE : ∀ Γ' sc', Ok Γ' c sc' → mE c sc' elt eltE = true → SE Γ' elt eltE)
    (h : (mSrc c sc src tgE iter && blkC c.N sc scope (tgNames tg tgE) && decide ((tgNames tg tgE).map (·.2) = tg.slots) && ordAll c.ks tg.slots && lk c.ks elt && noSetD iter
      && tgC c (relS scope sc) (fun x => scope.names.lookup x == some .cell) tg tgE && mIf c (relS scope sc) cnd ifs && mE c (relS scope sc) elt eltE) = true) : LcAt Γ tg src cnd elt tgE iter eltE ifs scope (tgNames tg tgE) := by
  rw [Bool.and_eq_true, Bool.and_eq_true, Bool.and_eq_true, Bool.and_eq_true, Bool.and_eq_true, Bool.and_eq_true, Bool.and_eq_true, Bool.and_eq_true, decide_eq_true_eq] at h
  obtain ⟨⟨⟨⟨⟨⟨⟨⟨h1, h2⟩, h3⟩, h4⟩, h5⟩, h6⟩, h7⟩, h8⟩, h9⟩ := h
  exact {
    src := hS h1
    tp := tp_ofC h7
    blk := by rw [ok.N, ok.sc]; exact blkOk_by h2
    slots := h3
    ord := by rw [ok.ks]; exact h4
    let_ := by rw [ok.ks]; exact h5
    fold := h6
    tg := fun s H C cl fp => tg_okC (ok.blk s H scope C cl fp) (fun x hx => hx) h7
    ifs := fun s H C cl fp => hI _ _ (ok.blk s H scope C cl fp) h8
    elt := fun s H C cl fp => hE _ _ (ok.blk s H scope C cl fp) h9 }
theorem fzVar_of {a : E} {x : Expr} (h : fzVar c sc a x = true) : ∃ i y p, a = .v i ∧ x = .Name y p ∧ varC c sc i y = true ∧ kdAt c.ks i = .fz := by
  unfold fzVar at h
  split at h
  · rename_i i y p
    rw [Bool.and_eq_true, decide_eq_true_eq] at h
    exact ⟨i, y, p, rfl, rfl, h.1, h.2⟩
  · cases h
mutual
theorem mE_ok : ∀ (m : E) (e : Expr) (Γ : Ctx) (sc : Scope), Ok Γ c sc → mE c sc m e = true → SE Γ m e ∧ (tstC m e = true → ST Γ m e)
  | .c d, e, Γ, sc, ok, h => by
    cases e <;> simp only [mE] at h <;> try contradiction
    case Constant k j p => exact val_both (const_ok h) fun q => q
    case Name x p =>
      rw [Bool.and_eq_true, Bool.and_eq_true] at h
      exact val_both (cst_ok ok h.1.1 h.1.2 (by simpa using h.2)) fun q => q
  | .v i, e, Γ, sc, ok, h => by
    cases e <;> simp only [mE] at h <;> try contradiction
    case Name x p =>
      have v := var_ok ok h
      exact val_both (se_var v.ix v.vis v.nd v.nc) fun q => q
  | .tup es, e, Γ, sc, ok, h => by
    cases e <;> simp only [mE] at h <;> try contradiction
    case Tuple xs k p =>
      rw [Bool.and_eq_true, Bool.and_eq_true, decide_eq_true_eq] at h
      exact val_both (se_tup (mEs_ok es xs Γ sc ok h.1.1) (by rw [ok.ks]; exact h.1.2) h.2) fun q => q
  | .lst es, e, Γ, sc, ok, h => by
    cases e <;> simp only [mE] at h <;> try contradiction
    case List xs p =>
      rw [Bool.and_eq_true, Bool.and_eq_true, decide_eq_true_eq] at h
      exact val_both (se_lst (mEs_ok es xs Γ sc ok h.1.1) (by rw [ok.ks]; exact h.1.2) h.2) fun q => q
  | .dnew b, e, Γ, sc, ok, h => by
    unfold mE at h
    split at h <;> first | contradiction | skip
    exact val_both se_dnew fun q => q
  | .bin o a b, e, Γ, sc, ok, h => by
    cases e <;> simp only [mE] at h <;> try contradiction
    case BinOp x p y pos =>
      rw [Bool.and_eq_true, Bool.and_eq_true, decide_eq_true_eq] at h
      obtain ⟨⟨rfl, h1⟩, h2⟩ := h
      exact val_both (se_bin (mE_ok a x Γ sc ok h1).1 (mE_ok b y Γ sc ok h2).1) fun q => q
  | .neg a, e, Γ, sc, ok, h => by
    unfold mE at h
    split at h <;> first | contradiction | skip
    rename_i a' x p he
    cases he
    exact ⟨se_neg (mE_ok a x Γ sc ok h).1, fun q => by simp [tstC, plT] at q⟩
  | .cmp o a b, e, Γ, sc, ok, h => by
    unfold mE at h
    split at h <;> first | contradiction | skip
    rename_i o' a' b' x p y pos he
    cases he
    rw [Bool.and_eq_true, Bool.and_eq_true, Bool.and_eq_true, decide_eq_true_eq] at h
    obtain ⟨⟨⟨rfl, h1⟩, h2⟩, h3⟩ := h
    have ha := mE_ok a x Γ sc ok h1
    have hb := mE_ok b y Γ sc ok h2
    exact ⟨se_cmp ok.x ha.1 hb.1 h3, fun _ => st_cmp ok.x ha.1 hb.1 h3⟩
  | .cmp2 o p a b d, e, Γ, sc, ok, h => by
    unfold mE at h
    split at h <;> first | contradiction | skip
    rename_i o' p' a' b' d' x q r y z pos he
    cases he
    rw [Bool.and_eq_true, Bool.and_eq_true, Bool.and_eq_true, Bool.and_eq_true, Bool.and_eq_true, decide_eq_true_eq, decide_eq_true_eq] at h
    obtain ⟨⟨⟨⟨⟨rfl, rfl⟩, h1⟩, h2⟩, h3⟩, h4⟩ := h
    have ha := mE_ok a x Γ sc ok h1
    have hb := mE_ok b y Γ sc ok h2
    have hd := mE_ok d z Γ sc ok h3
    exact ⟨se_cmp2 ok.x ha.1 hb.1 hd.1 h4, fun _ => st_cmp2 ok.x ha.1 hb.1 hd.1 h4⟩
  | .and es, e, Γ, sc, ok, h => by
    unfold mE at h
    split at h <;> first | contradiction | skip
    rename_i es' xs pos he
    cases he
    rw [Bool.and_eq_true, decide_eq_true_eq] at h
    have hl := mL_ok es xs Γ sc ok h.1
    exact ⟨se_and hl h.2, fun _ => st_and hl h.2⟩
  | .or es, e, Γ, sc, ok, h => by
    unfold mE at h
    split at h <;> first | contradiction | skip
    rename_i es' xs pos he
    cases he
    rw [Bool.and_eq_true, decide_eq_true_eq] at h
    have hl := mL_ok es xs Γ sc ok h.1
    exact ⟨se_or hl h.2, fun _ => st_or hl h.2⟩
  | .not a, e, Γ, sc, ok, h => by
    unfold mE at h
    split at h <;> first | contradiction | skip
    rename_i a' x pos he
    cases he
    rw [Bool.and_eq_true] at h
    have ha := mE_ok a x Γ sc ok h.1
    exact ⟨se_not ha.1, fun _ => st_not (ha.2 h.2)⟩
  | .ite t a b, e, Γ, sc, ok, h => by
    cases e <;> simp only [mE] at h <;> try contradiction
    case IfExp z x y pos =>
      rw [Bool.and_eq_true, Bool.and_eq_true, Bool.and_eq_true] at h
      exact ⟨se_ite ((mE_ok t z Γ sc ok h.1.1.1).2 h.1.1.2) (mE_ok a x Γ sc ok h.1.2).1 (mE_ok b y Γ sc ok h.2).1, fun q => by simp [tstC, plT] at q⟩
  | .call f .nil, e, Γ, sc, ok, h => by
    unfold mE at h
    exact absurd h Bool.false_ne_true
  | .call f (.cons m ms), e, Γ, sc, ok, h => by
    unfold mE at h
    split at h <;> first | contradiction | skip
    rename_i f' m' ms' nm p x xs pos he
    cases he
    rw [Bool.and_eq_true, Bool.and_eq_true, Bool.and_eq_true, Bool.and_eq_true, Bool.and_eq_true] at h
    obtain ⟨⟨⟨⟨⟨h1, h2⟩, h3⟩, h4⟩, h5⟩, h6⟩ := h
    obtain ⟨kps, hc, hl⟩ := call_ok ok h1 h2
    exact val_both (se_call hc (sa_cons (mE_ok m x Γ sc ok h3).1 (mEs_ok ms xs Γ sc ok h4) h5) h5 h6 hl) fun q => q
  | .sel fs k es, e, Γ, sc, ok, h => by
    unfold mE at h
    exact absurd h Bool.false_ne_true
  | .b1 f a, e, Γ, sc, ok, h => by
    unfold mE at h
    split at h <;> first | contradiction | skip
    · rename_i a' nm p nm2 p2 y pos2 pos he
      cases he
      rw [Bool.and_eq_true, Bool.and_eq_true, Bool.and_eq_true] at h
      obtain ⟨⟨⟨h1, h2⟩, h3⟩, h4⟩ := h
      obtain ⟨rfl, hg, hm⟩ := blt_ok ok h1
      obtain ⟨rfl, hg2, hm2⟩ := blt_ok ok h2
      exact val_both (se_lenset ok.x hg2 hm2 hg hm (mE_ok a y Γ sc ok h3).1 h4) fun q => q
    · rename_i a' nm p nm2 p2 y pos2 pos he
      cases he
      rw [Bool.and_eq_true, Bool.and_eq_true, Bool.and_eq_true] at h
      obtain ⟨⟨⟨h1, h2⟩, h3⟩, h4⟩ := h
      obtain ⟨rfl, hg, hm⟩ := blt_ok ok h1
      obtain ⟨rfl, hg2, hm2⟩ := blt_ok ok h2
      exact val_both (se_sortset ok.x hg2 hm2 hg hm (mE_ok a y Γ sc ok h3).1 h4) fun q => q
    · rename_i f' a' nm p x pos _ _ he
      cases he
      rw [Bool.and_eq_true, Bool.and_eq_true] at h
      obtain ⟨⟨h1, h2⟩, h3⟩ := h
      obtain ⟨en, hg, hm⟩ := blt_ok ok h1
      have ha := (mE_ok a x Γ sc ok h2).1
      have hbad : ∀ y : PySem.Str, bltC sc y "" = true → False := fun y hy => by
        obtain ⟨rfl, _, _⟩ := blt_ok ok hy
        unfold bltC at hy
        rw [Bool.and_eq_true] at hy
        exact absurd hy.2 (by decide +kernel)
      cases f <;> simp only [b1C] at en h1 <;> subst en
      case len => exact val_both (se_len hg hm ha h3) fun q => q
      case all => exact val_both (se_all ok.x hg hm ha h3) fun q => q
      case any => exact val_both (se_any ok.x hg hm ha h3) fun q => q
      case sum => exact val_both (se_sum ok.x hg hm ha h3) fun q => q
      case sorted => exact val_both (se_sorted ok.x hg hm ha h3) fun q => q
      case list => exact val_both (se_list hg hm ha h3) fun q => q
      case tuple => exact val_both (se_tuple hg hm ha h3) fun q => q
      case int => exact val_both (se_intc hg hm ha h3) fun q => q
      case str => exact val_both (se_strc hg hm ha h3) fun q => q
      case dict => exact val_both (se_dict ok.x hg hm ha h3) fun q => q
      case max => exact val_both (se_best ok.x true rfl hg hm ha h3) fun q => q
      case min => exact val_both (se_best ok.x false rfl hg hm ha h3) fun q => q
      all_goals exact (hbad _ h1).elim
  | .b2 f a b, e, Γ, sc, ok, h => by
    unfold mE at h
    split at h <;> first | contradiction | skip
    rename_i f' a' b' nm p x y pos he
    cases he
    rw [Bool.and_eq_true, Bool.and_eq_true, Bool.and_eq_true, Bool.and_eq_true] at h
    obtain ⟨⟨⟨⟨h1, h2⟩, h3⟩, h4⟩, h5⟩ := h
    obtain ⟨rfl, hg, hm⟩ := blt_ok ok h1
    exact val_both (se_b2 ok.x hg hm (mE_ok a x Γ sc ok h2).1 (mE_ok b y Γ sc ok h3).1 h4 h5) fun q => q
  | .isi a [], e, Γ, sc, ok, h => by
    unfold mE at h
    exact absurd h Bool.false_ne_true
  | .isi a [t], e, Γ, sc, ok, h => by
    unfold mE at h
    split at h <;> first | contradiction | skip
    · rename_i a' t' nm p x ty p2 pos he
      cases he
      rw [Bool.and_eq_true, Bool.and_eq_true, Bool.and_eq_true] at h
      obtain ⟨⟨⟨h1, h2⟩, h3⟩, h4⟩ := h
      obtain ⟨rfl, hg, hm⟩ := blt_ok ok h1
      obtain ⟨rfl, hg2, hm2⟩ := blt_ok ok h2
      exact val_both (se_isi hg hm hg2 hm2 (mE_ok a x Γ sc ok h3).1 h4) fun q => q
    · rename_i he
      cases he
  | .isi a [t, u], e, Γ, sc, ok, h => by
    unfold mE at h
    split at h <;> first | contradiction | skip
    · rename_i he
      cases he
    · rename_i a' t' u' nm p x ty p2 tz p3 kk p4 pos he
      cases he
      rw [Bool.and_eq_true, Bool.and_eq_true, Bool.and_eq_true, Bool.and_eq_true] at h
      obtain ⟨⟨⟨⟨h1, h2⟩, h3⟩, h4⟩, h5⟩ := h
      obtain ⟨rfl, hg, hm⟩ := blt_ok ok h1
      obtain ⟨rfl, hg2, hm2⟩ := blt_ok ok h2
      obtain ⟨rfl, hg3, hm3⟩ := blt_ok ok h3
      exact val_both (se_isi2 hg hm hg2 hm2 hg3 hm3 (mE_ok a x Γ sc ok h4).1 h5) fun q => q
  | .isi a (_ :: _ :: _ :: _), e, Γ, sc, ok, h => by
    unfold mE at h
    exact absurd h Bool.false_ne_true
  | .m1 m o a, e, Γ, sc, ok, h => by
    unfold mE at h
    split at h <;> first | contradiction | skip
    · rename_i o' a' x nm ap y cp he
      cases he
      rw [Bool.and_eq_true, Bool.and_eq_true, Bool.and_eq_true, Bool.and_eq_true, Bool.and_eq_true] at h
      obtain ⟨⟨⟨⟨⟨h1, h2⟩, h3⟩, h4⟩, h5⟩, h6⟩ := h
      have en : nm = ("join" : PySem.Str) := by simpa using h1
      subst en
      exact val_both (se_join (mE_ok o x Γ sc ok h2).1 (mE_ok a y Γ sc ok h3).1 h4 h5 h6) fun q => q
    · rename_i o' a' x nm ap y cp he
      cases he
      rw [Bool.and_eq_true, Bool.and_eq_true, Bool.and_eq_true, Bool.and_eq_true, Bool.and_eq_true] at h
      obtain ⟨⟨⟨⟨⟨h1, h2⟩, h3⟩, h4⟩, h5⟩, h6⟩ := h
      have en : nm = ("count" : PySem.Str) := by simpa using h1
      subst en
      exact val_both (se_count ok.x (mE_ok o x Γ sc ok h2).1 (mE_ok a y Γ sc ok h3).1 h4 h5 h6) fun q => q
    · rename_i o' a' x nm ap y cp he
      cases he
      rw [Bool.and_eq_true, Bool.and_eq_true, Bool.and_eq_true, Bool.and_eq_true, Bool.and_eq_true] at h
      obtain ⟨⟨⟨⟨⟨h1, h2⟩, h3⟩, h4⟩, h5⟩, h6⟩ := h
      have en : nm = ("index" : PySem.Str) := by simpa using h1
      subst en
      exact val_both (se_index ok.x (mE_ok o x Γ sc ok h2).1 (mE_ok a y Γ sc ok h3).1 h4 h5 h6) fun q => q
  | .m2 m o a b, e, Γ, sc, ok, h => by
    unfold mE at h
    split at h <;> first | contradiction | skip
    · rename_i o' a' b' x nm ap y z cp he
      cases he
      rw [Bool.and_eq_true, Bool.and_eq_true, Bool.and_eq_true, Bool.and_eq_true, Bool.and_eq_true, Bool.and_eq_true, Bool.and_eq_true] at h
      obtain ⟨⟨⟨⟨⟨⟨⟨h1, h2⟩, h3⟩, h4⟩, h5⟩, h6⟩, h7⟩, h8⟩ := h
      have en : nm = ("find" : PySem.Str) := by simpa using h1
      subst en
      exact val_both (se_find (mE_ok o x Γ sc ok h2).1 (mE_ok a y Γ sc ok h3).1 (mE_ok b z Γ sc ok h4).1 h5 h6 h7 h8) fun q => q
    · rename_i o' a' b' x nm ap y z cp he
      cases he
      rw [Bool.and_eq_true, Bool.and_eq_true, Bool.and_eq_true, Bool.and_eq_true, Bool.and_eq_true, Bool.and_eq_true, Bool.and_eq_true, Bool.and_eq_true] at h
      obtain ⟨⟨⟨⟨⟨⟨⟨⟨h1, h2⟩, h3⟩, h4⟩, h5⟩, h6⟩, h7⟩, h8⟩, h9⟩ := h
      have en : nm = ("get" : PySem.Str) := by simpa using h1
      subst en
      exact val_both (se_get ok.x (mE_ok o x Γ sc ok h2).1 (mE_ok a y Γ sc ok h3).1 (mE_ok b z Γ sc ok h4).1 h5 h6 h7 h8 (by rw [ok.ks]; exact h9)) fun q => q
  | .ix a b, e, Γ, sc, ok, h => by
    cases e <;> simp only [mE] at h <;> try contradiction
    case Subscript x y p =>
      rw [Bool.and_eq_true, Bool.and_eq_true] at h
      exact val_both (se_ix ok.x (mE_ok a x Γ sc ok h.1.1).1 (mE_ok b y Γ sc ok h.1.2).1 h.2) fun q => q
  | .kix ss a, e, Γ, sc, ok, h => by
    unfold mE at h
    split at h <;> first | contradiction | skip
    rename_i ss' a' x p nm ap y cp he
    cases he
    simp only [Bool.and_eq_true, Bool.not_eq_true'] at h
    obtain ⟨⟨⟨⟨⟨⟨h1, h2⟩, h3⟩, h4⟩, h5⟩, h6⟩, h7⟩ := h
    have en : nm = ("index" : PySem.Str) := by simpa using h1
    subst en
    obtain ⟨t, ht, q⟩ := List.any_eq_true.mp h3
    rw [Bool.and_eq_true] at q
    have e1 : t.1 = x := by simpa using q.1
    have e2 : t.2 = ss := by simpa using q.2
    have f := ok.tcs t ht
    rw [e1, e2] at f
    exact val_both (se_kix f (glob_ok ok h2) h7 (mE_ok a y Γ sc ok h4).1 h5 h6) fun q => q
  | .dsp k a, e, Γ, sc, ok, h => by
    unfold mE at h
    split at h <;> first | contradiction | skip
    rename_i k' a' x y p he
    cases he
    rw [Bool.and_eq_true, Bool.and_eq_true] at h
    exact val_both (se_dsp (mE_ok k x Γ sc ok h.1.1).1 (mE_ok a y Γ sc ok h.1.2).1 (by rw [ok.ks]; exact h.2)) fun q => q
  | .zl a b, e, Γ, sc, ok, h => by
    unfold mE at h
    split at h <;> first | contradiction | skip
    rename_i a' b' nm p nm2 p2 x y pos2 pos he
    cases he
    rw [Bool.and_eq_true, Bool.and_eq_true, Bool.and_eq_true, Bool.and_eq_true, Bool.and_eq_true] at h
    obtain ⟨rfl, hgl, hml⟩ := blt_ok ok h.1.1.1.1.1
    obtain ⟨rfl, hg, hm⟩ := blt_ok ok h.1.1.1.1.2
    exact val_both (se_zl ok.x hgl hml hg hm (mE_ok a x Γ sc ok h.1.1.1.2).1 (mE_ok b y Γ sc ok h.1.1.2).1 h.1.2 h.2) fun q => q
  | .vb f a, e, Γ, sc, ok, h => by
    unfold mE at h
    split at h <;> first | contradiction | skip
    rename_i f' a' nm p x nm2 ap cp p2 he
    cases he
    simp only [Bool.and_eq_true, Bool.or_eq_true, decide_eq_true_eq] at h
    obtain ⟨⟨⟨⟨⟨h1, h2⟩, h3⟩, h4⟩, h5⟩, h6⟩ := h
    have en : nm2 = ("values" : PySem.Str) := by simpa using h3
    subst en
    obtain ⟨en, hg, hm⟩ := blt_ok ok h1
    refine val_both (se_vb ok.x ?_ hg hm (mE_ok a x Γ sc ok h4).1 h5 h6) fun q => q
    rcases h2 with z | z
    · subst z; exact .inl ⟨rfl, en⟩
    · subst z; exact .inr ⟨rfl, en⟩
  | .sl a lo hi, e, Γ, sc, ok, h => by
    unfold mE at h
    split at h <;> first | contradiction | skip
    rename_i a' lo' hi' x l hh p2 pos he
    cases he
    rw [Bool.and_eq_true, Bool.and_eq_true] at h
    exact val_both (se_sl (mE_ok a x Γ sc ok h.1.1).1 (mO_ok lo l Γ sc ok h.1.2) (mO_ok hi hh Γ sc ok h.2)) fun q => q
  | .rev a, e, Γ, sc, ok, h => by
    unfold mE at h
    split at h <;> first | contradiction | skip
    rename_i a' x k p1 p2 p3 pos he
    cases he
    exact val_both (se_rev (k := k) (p1 := p1) (p2 := p2) (mE_ok a x Γ sc ok h).1) fun q => q
  | .lc tg src cnd elt, e, Γ, sc, ok, h => by
    unfold mE at h
    split at h <;> first | contradiction | skip
    rename_i tg' src' cnd' elt' eltE tgE iter ifs scope pos he
    cases he
    exact val_both (se_lc ok.x (lc_of ok (fun q => mSrc_ok src tgE iter Γ sc ok q) (fun Γ' sc' ok' q => mIf_ok cnd ifs Γ' sc' ok' q) (fun Γ' sc' ok' q => (mE_ok elt eltE Γ' sc' ok' q).1) h)) fun q => q
theorem mEs_ok : ∀ (ms : Es) (es : List Expr) (Γ : Ctx) (sc : Scope), Ok Γ c sc → mEs c sc ms es = true → SA Γ ms es
  | .nil, [], Γ, sc, ok, _ => sa_nil
  | .cons m ms, e :: es, Γ, sc, ok, h => by
    simp only [mEs] at h
    rw [Bool.and_eq_true, Bool.and_eq_true] at h
    exact sa_cons (mE_ok m e Γ sc ok h.1.1).1 (mEs_ok ms es Γ sc ok h.2) h.1.2
  | .nil, _ :: _, _, _, _, h => by simp [mEs] at h
  | .cons _ _, [], _, _, _, h => by simp [mEs] at h
theorem mL_ok : ∀ (ms : Es) (es : List Expr) (Γ : Ctx) (sc : Scope), Ok Γ c sc → mL c sc ms es = true → SL Γ ms es
  | .nil, [], Γ, sc, ok, _ => by simp [SL]
  | .cons m ms, e :: es, Γ, sc, ok, h => by
    simp only [mL] at h
    rw [Bool.and_eq_true, Bool.and_eq_true] at h
    have hm := mE_ok m e Γ sc ok h.1.1
    simp only [SL]
    exact ⟨⟨hm.1, hm.2 h.1.2⟩, mL_ok ms es Γ sc ok h.2⟩
  | .nil, _ :: _, _, _, _, h => by simp [mL] at h
  | .cons _ _, [], _, _, _, h => by simp [mL] at h
theorem mO_ok : ∀ (m : Eo) (o : Option Expr) (Γ : Ctx) (sc : Scope), Ok Γ c sc → mO c sc m o = true → OE o m (SE Γ)
  | .no, none, Γ, sc, ok, _ => trivial
  | .yes m, some e, Γ, sc, ok, h => (mE_ok m e Γ sc ok (by simpa only [mO] using h)).1
  | .no, some _, _, _, _, h => by simp [mO] at h
  | .yes _, none, _, _, _, h => by simp [mO] at h
theorem mIf_ok : ∀ (m : Eo) (es : List Expr) (Γ : Ctx) (sc : Scope), Ok Γ c sc → mIf c sc m es = true → IfsAt Γ m es
  | .no, [], Γ, sc, ok, _ => trivial
  | .yes m, [e], Γ, sc, ok, h => by
    simp only [mIf] at h
    rw [Bool.and_eq_true] at h
    exact (mE_ok m e Γ sc ok h.1).2 h.2
  | .no, _ :: _, _, _, _, h => by simp [mIf] at h
  | .yes _, [], _, _, _, h => by simp [mIf] at h
  | .yes _, _ :: _ :: _, _, _, _, h => by simp [mIf] at h
theorem mSrc_ok : ∀ (src : Src) (tg e : Expr) (Γ : Ctx) (sc : Scope), Ok Γ c sc → mSrc c sc src tg e = true → SI Γ src tg e
  | .e a, tg, e, Γ, sc, ok, h => si_e (mE_ok a e Γ sc ok (by simpa only [mSrc] using h)).1
  | .r1 a, tg, e, Γ, sc, ok, h => by
    unfold mSrc at h
    split at h <;> first | contradiction | skip
    rename_i a' nm p x pos he
    cases he
    rw [Bool.and_eq_true, Bool.and_eq_true] at h
    obtain ⟨rfl, hg, hm⟩ := blt_ok ok h.1.1
    exact si_r1 hg hm (mE_ok a x Γ sc ok h.1.2).1 h.2
  | .r2 a b, tg, e, Γ, sc, ok, h => by
    unfold mSrc at h
    split at h <;> first | contradiction | skip
    rename_i a' b' nm p x y pos he
    cases he
    rw [Bool.and_eq_true, Bool.and_eq_true, Bool.and_eq_true, Bool.and_eq_true] at h
    obtain ⟨rfl, hg, hm⟩ := blt_ok ok h.1.1.1.1
    exact si_r2 hg hm (mE_ok a x Γ sc ok h.1.1.1.2).1 (mE_ok b y Γ sc ok h.1.1.2).1 h.1.2 h.2
  | .enum a, tg, e, Γ, sc, ok, h => by
    unfold mSrc at h
    split at h <;> first | contradiction | skip
    rename_i a' el kk tp nm p x pos he
    cases he
    rw [Bool.and_eq_true, Bool.and_eq_true] at h
    obtain ⟨rfl, hg, hm⟩ := blt_ok ok h.1.1
    exact si_enumA hg hm (mE_ok a x Γ sc ok h.1.2).1 h.2
  | .zip a b, tg, e, Γ, sc, ok, h => by
    unfold mSrc at h
    split at h <;> first | contradiction | skip
    rename_i a' b' el kk tp nm p x y pos he
    cases he
    rw [Bool.and_eq_true, Bool.and_eq_true, Bool.and_eq_true, Bool.and_eq_true] at h
    obtain ⟨rfl, hg, hm⟩ := blt_ok ok h.1.1.1.1
    exact si_zip hg hm (mE_ok a x Γ sc ok h.1.1.1.2).1 (mE_ok b y Γ sc ok h.1.1.2).1 h.1.2 h.2
  | .keys a, tg, e, Γ, sc, ok, h => by
    unfold mSrc at h
    split at h <;> first | contradiction | skip
    rename_i i x p he
    cases he
    rw [Bool.and_eq_true, decide_eq_true_eq] at h
    have v := var_ok ok h.1
    exact si_keysV v.ix v.vis v.nd v.nc (by rw [ok.ks]; exact h.2)
  | .vals a, tg, e, Γ, sc, ok, h => by
    unfold mSrc at h
    split at h <;> first | contradiction | skip
    rename_i a' x nm ap cp he
    cases he
    simp only [Bool.and_eq_true, Bool.or_eq_true] at h
    obtain ⟨⟨h1, h2⟩, h3⟩ := h
    have en : nm = ("values" : PySem.Str) := by simpa using h1
    subst en
    rcases h3 with h3 | h3
    · obtain ⟨i, y, p, rfl, rfl, q1, q2⟩ := fzVar_of h3
      have v := var_ok ok q1
      exact si_valsV v.ix v.vis v.nd v.nc (by rw [ok.ks]; exact q2) h2
    · exact si_valsF (mE_ok a x Γ sc ok h3.1.1).1 h3.1.2 (by rw [ok.FR]; exact h3.2) h2
  | .itms a, tg, e, Γ, sc, ok, h => by
    unfold mSrc at h
    split at h <;> first | contradiction | skip
    rename_i a' el kk tp x nm ap cp he
    cases he
    simp only [Bool.and_eq_true] at h
    obtain ⟨⟨h1, h2⟩, h3⟩ := h
    have en : nm = ("items" : PySem.Str) := by simpa using h1
    subst en
    obtain ⟨i, y, p, rfl, rfl, q1, q2⟩ := fzVar_of h3
    have v := var_ok ok q1
    exact si_itmsV v.ix v.vis v.nd v.nc (by rw [ok.ks]; exact q2) h2
end
end VE

/-! Statements held against the text; whole defs. -/
namespace VE
open PySem PySem.Spec PyProof.Rows L2
/-- what a swapped pair of names asks -/
def parC (sc : Scope) (x y : PySem.Str) (px py : Pos) (ex ey : Expr) : Bool :=
  decide (sc.kind = .function) && decide (sc.names.lookup x = some .local) && decide (sc.names.lookup y = some .local) && (px.line == px.line) && (py.line == px.line) && !(x == y) && noStar ex && noStar ey
    && !([ex, ey].all (foldedForSure 8)) && !([ex, ey].all (constantsAlone 8))
/-- one of two names is no plain local: nothing is swapped -/
def parN (sc : Scope) (x y : PySem.Str) : Bool := !(decide (sc.names.lookup x = some .local) && decide (sc.names.lookup y = some .local))
/-- a list's expression -/
def lstE : E → Bool
  | .lst _ => true
  | .lc _ _ _ _ => true
  | _ => false
theorem lstE_ok {b : E} {cf : Nat → List D → Res D} {FR : Nat → Bool} (h : lstE b = true) : fr FR b = true ∧ ∀ ρ, (∃ l, ev cf b ρ = .ok (.lst l)) ∨ (∃ c, ev cf b ρ = .err c) ∨ ev cf b ρ = .bad := by
  have key : ∀ {α : Type} (r : Res α) (f : α → List D), (∃ l, (r.bind fun x => Res.ok (D.lst (f x))) = .ok (.lst l)) ∨ (∃ c, (r.bind fun x => Res.ok (D.lst (f x))) = .err c) ∨ (r.bind fun x => Res.ok (D.lst (f x))) = .bad := fun r f => by
    cases r with
    | ok a => exact .inl ⟨_, rfl⟩
    | err c => exact .inr (.inl ⟨c, rfl⟩)
    | bad => exact .inr (.inr rfl)
  cases b <;> simp only [lstE] at h <;> try contradiction
  case lst es => exact ⟨rfl, fun ρ => by simp only [ev]; exact key _ fun x => x⟩
  case lc tg src cnd elt =>
    refine ⟨rfl, fun ρ => ?_⟩
    simp only [ev]
    cases its cf src ρ with
    | ok xs => exact key _ fun x => x
    | err c => exact .inr (.inl ⟨c, rfl⟩)
    | bad => exact .inr (.inr rfl)
def excC (c : Cfg) (sc : Scope) (i : Nat) : Expr → Bool
  | .Call (.Name x _) [.Constant (.str _) _ _] [] _ => glob sc x && (c.exs.any fun p => (p.1 == x) && (p.2 == i)) && !(x == ("__debug__" : PySem.Str))
  | _ => false
mutual
def mS (c : Cfg) (sc : Scope) (rf : Bool) : S → Stmt → Bool
  | .asg i (.lc tg src cnd elt), .Assign [.Name x _] (.ListComp eltE [⟨tgE, iter, ifs, 0⟩] scope p) _ => nmC c sc (fun _ => true) i x && mE c sc (.lc tg src cnd elt) (.ListComp eltE [⟨tgE, iter, ifs, 0⟩] scope p) && decide (kdAt c.ks i = .ord)
  | .asgo i (.lc tg src cnd elt), .Assign [.Name x _] (.ListComp eltE [⟨tgE, iter, ifs, 0⟩] scope p) _ => nmC c sc (fun _ => true) i x && mE c sc (.lc tg src cnd elt) (.ListComp eltE [⟨tgE, iter, ifs, 0⟩] scope p) && decide (kdAt c.ks i = .own)
  | .asg i e, .Assign [.Name x _] ex _ => nmC c sc (fun _ => true) i x && mE c sc e ex && (decide (kdAt c.ks i = .ord) || (decide (kdAt c.ks i = .fz) && fr c.FR e)) && lk c.ks e && noLC ex
  | .asgo i e, .Assign [.Name x _] ex _ => nmC c sc (fun _ => true) i x && mE c sc e ex && decide (kdAt c.ks i = .own) && fr c.FR e && noLC ex
  | .mv i j, .Assign [.Name x _] (.Name y _) _ => nmC c sc (fun _ => true) i x && varC c sc j y && (decide (kdAt c.ks i = .ord) || decide (kdAt c.ks i = .fz)) && decide (kdAt c.ks j = .own)
  | .unp is e, .Assign [.Tuple es _ _] ex _ => namesC c sc (fun _ => true) is es && mE c sc e ex && ordAll c.ks is && lk c.ks e && unpC ex
  | .par [i, j] (.cons a (.cons b .nil)), .Assign [.Tuple [.Name x px, .Name y py] _ _] (.Tuple [ex, ey] _ _) _ => mE c sc a ex && mE c sc b ey && ((decide (kdAt c.ks i = .ord) && decide (kdAt c.ks j = .own) && lk c.ks a && lstE b && decide (c.N[i]? = some x) && decide (c.N[j]? = some y) && decide (i ≠ j) && parC sc x y px py ex ey) || (decide (kdAt c.ks i = .ord) && decide (kdAt c.ks j = .own) && lk c.ks a && lstE b && parN sc x y && namesC c sc (fun _ => true) [i, j] [.Name x px, .Name y py] && noStar ex && noStar ey) || (ordAll c.ks [i, j] && lk c.ks a && lk c.ks b && ((decide (c.N[i]? = some x) && decide (c.N[j]? = some y) && decide (i ≠ j) && parC sc x y px py ex ey) || (parN sc x y && namesC c sc (fun _ => true) [i, j] [.Name x px, .Name y py] && noStar ex && noStar ey))))
  | .put i k e, .Assign [.Subscript (.Name x _) kx _] ex _ => varC c sc i x && mE c sc k kx && mE c sc e ex && decide (kdAt c.ks i = .own) && lk c.ks e && noLC ex
  | .grp i t src k, .For (.Name y tp) iter [.Expr (.Call (.Attribute (.Call (.Attribute (.Name x _) nm1 ap1) [kx, .List [] _] [] cp1) nm2 ap2) [.Name z _] [] cp2) _] [] _ => (nm1 == ("setdefault" : PySem.Str)) && (nm2 == ("append" : PySem.Str)) && (z == y) && mSrc c sc src (.Name y tp) iter && nmC c sc (fun _ => true) t y && varC c sc i x && varC c sc t y && mE c sc k kx && noStar kx && decide (kdAt c.ks i = .own) && decide (kdAt c.ks t = .ord) && soleOwn c.ks i && decide (i ≠ t) && srcFar c.ks src && noSetD iter && (ap1.endLine == cp1.line) && (ap2.endLine == cp2.line)
  | .whl t b, .While x body [] _ => mE c sc t x && tstC t x && mSs c sc rf b body
  | .app i e, .Expr (.Call (.Attribute (.Name x _) nm ap) [ex] [] cp) _ => (nm == ("append" : PySem.Str)) && varC c sc i x && mE c sc e ex && decide (kdAt c.ks i = .own) && lk c.ks e && noStar ex && (ap.endLine == cp.line)
  | .appo i j, .Expr (.Call (.Attribute (.Name x _) nm ap) [.Name y _] [] cp) _ => (nm == ("append" : PySem.Str)) && varC c sc i x && varC c sc j y && decide (i ≠ j) && decide (kdAt c.ks i = .own) && decide (kdAt c.ks j = .own) && (ap.endLine == cp.line)
  | .ext i e, .Expr (.Call (.Attribute (.Name x _) nm ap) [ex] [] cp) _ => (nm == ("extend" : PySem.Str)) && varC c sc i x && mE c sc e ex && decide (kdAt c.ks i = .own) && noStar ex && (ap.endLine == cp.line)
  | .dpop i k, .Expr (.Call (.Attribute (.Name x _) nm ap) [kx] [] cp) _ => (nm == ("pop" : PySem.Str)) && varC c sc i x && mE c sc k kx && decide (kdAt c.ks i = .own) && noStar kx && (ap.endLine == cp.line)
  | .ex e, .Expr ex _ => mE c sc e ex && noLC ex
  | .ret (.v i), .Return (some (.Name x _)) _ => varC c sc i x && (decide (kdAt c.ks i = .own) || (decide (kdAt c.ks i = .ord) && !rf))
  | .ret e, .Return (some ex) _ => mE c sc e ex && lk c.ks e && (!rf || fr c.FR e)
  | .retN, .Return none _ => true
  | .ite t a b, .If x p q _ => mE c sc t x && tstC t x && mSs c sc rf a p && mSs c sc rf b q
  | .for_ tg src b, .For tgE iter body [] _ => mSrc c sc src tgE iter && tgC c sc (fun _ => true) tg tgE && mSs c sc rf b body && ordAll c.ks tg.slots && srcFar c.ks src && noSetD iter
  | .rse i, .Raise (some e) none _ => excC c sc i e
  | .pass, .Pass _ => true
  | _, _ => false
def mSs (c : Cfg) (sc : Scope) (rf : Bool) : Ss → List Stmt → Bool
  | .nil, [] => true
  | .cons s ss, t :: ts => mS c sc rf s t && mSs c sc rf ss ts
  | _, _ => false
end

structure OkS (Γ : Ctx) (c : Cfg) (sc : Scope) : Prop where
  ok : Ok Γ c sc
  FR : Γ.FR = c.FR
  fn : ∀ x, Γ.X.fn x = true
  po : PassesOwn (model Γ.X.prog Γ.X.w) Γ.X.A Γ.X.env Γ.X.xe
  exs : ∀ t ∈ c.exs, Gl Γ.X t.1 → (t.1 == ("__debug__" : PySem.Str)) = false → ∀ m j p p2 pos, RaiseAt Γ t.2 (.Call (.Name t.1 p) [.Constant (.str m) j p2] [] pos)
variable {Γ : Ctx} {c : Cfg} {sc : Scope} {rf : Bool}
theorem noStar_any {ex ey : Expr} (h1 : noStar ex = true) (h2 : noStar ey = true) : ([ex, ey].any fun | .Starred .. => true | _ => false) = false := by
  cases ex <;> simp only [noStar] at h1 <;> (try contradiction) <;> cases ey <;> simp only [noStar] at h2 <;> (try contradiction) <;> rfl
theorem swapped_of {env : PySem.Env} {x y : PySem.Str} {px py pt pt2 : Pos} {ex ey : Expr} {kt k2 : Nat} (hs : env.scope = sc) (h : parC sc x y px py ex ey = true) : swappedStores [.Tuple [.Name x px, .Name y py] kt pt] (.Tuple [ex, ey] k2 pt2) env = pure (some [x, y]) := by
  unfold parC at h
  simp only [Bool.and_eq_true, decide_eq_true_eq, Bool.not_eq_true'] at h
  obtain ⟨⟨⟨⟨⟨⟨⟨⟨⟨h1, h2⟩, h3⟩, h4⟩, h5⟩, h6⟩, h7⟩, h8⟩, h9⟩, h10⟩ := h
  have hb : env.blockKind = .function := by unfold Env.blockKind; rw [hs, h1]; rfl
  have kx : env.kindOf x = some .local := by unfold Env.kindOf; rw [hs]; exact h2
  have ky : env.kindOf y = some .local := by unfold Env.kindOf; rw [hs]; exact h3
  have hxy : ¬ x = y := by simpa using h6
  have hyx : ¬ y = x := fun z => hxy z.symm
  have hany := noStar_any h7 h8
  have hlen : (List.filterMap (fun | .Name id pos => if (env.kindOf id == some .local && pos.line == px.line) = true then some id else none | _ => none) [Expr.Name x px, Expr.Name y py]) = [x, y] := by
    simp only [List.filterMap_cons, List.filterMap_nil, kx, ky, h5]
    simp
  have hdup : ([x, y] : List PySem.Str).eraseDups = [x, y] := by
    have hb : (y == x) = false := by simpa using hyx
    simp [List.eraseDups_cons, hb]
  unfold swappedStores
  simp only [List.length_cons, List.length_nil, hb]
  rw [if_neg (by decide)]
  refine Eq.trans (if_neg (ne_true_of_eq_false hany)) ?_
  have hg : (Option.map (fun z : Expr => z.pos.line) [Expr.Name x px, Expr.Name y py].head?).getD 0 = px.line := rfl
  rw [hg]
  generalize hL : List.filterMap _ [Expr.Name x px, Expr.Name y py] = L
  have eL : L = [x, y] := hL.symm.trans hlen
  subst eL
  rw [hdup, if_neg (by simp), if_neg (by rw [h9]; decide), if_neg (by rw [h10]; decide)]
theorem swapped_no {env : PySem.Env} {x y : PySem.Str} {px py pt pt2 : Pos} {ex ey : Expr} {kt k2 : Nat} (hs : env.scope = sc) (h : parN sc x y = true) : swappedStores [.Tuple [.Name x px, .Name y py] kt pt] (.Tuple [ex, ey] k2 pt2) env = pure none := by
  unfold parN at h
  rw [Bool.not_eq_true', Bool.and_eq_false_iff, decide_eq_false_iff_not, decide_eq_false_iff_not] at h
  have hlen : ((List.filterMap (fun | .Name id pos => if (env.kindOf id == some .local && pos.line == px.line) = true then some id else none | _ => none) [Expr.Name x px, Expr.Name y py]).length != 2) = true := by
    have kx : env.kindOf x = sc.names.lookup x := by unfold Env.kindOf; rw [hs]
    have ky : env.kindOf y = sc.names.lookup y := by unfold Env.kindOf; rw [hs]
    simp only [List.filterMap_cons, List.filterMap_nil, kx, ky]
    rcases h with h | h
    · have e : (List.lookup x sc.names == some NameKind.local) = false := beq_eq_false_iff_ne.mpr h
      rw [e]
      simp only [Bool.false_and, Bool.false_eq_true, if_false]
      split <;> rfl
    · have e : (List.lookup y sc.names == some NameKind.local) = false := beq_eq_false_iff_ne.mpr h
      rw [e]
      simp only [Bool.false_and, Bool.false_eq_true, if_false]
      split <;> rfl
  unfold swappedStores
  simp only [List.length_cons, List.length_nil]
  split
  · rfl
  · split
    · rfl
    · have hg : (Option.map (fun z : Expr => z.pos.line) [Expr.Name x px, Expr.Name y py].head?).getD 0 = px.line := rfl
      rw [hg]
      generalize hL : List.filterMap _ [Expr.Name x px, Expr.Name y py] = L
      rw [if_pos]
      rw [Bool.or_eq_true]
      left
      rw [← hL]
      exact hlen
theorem sw_lc {eltE : Expr} {gs : List Comprehension} {scope : Scope} {pos py : Pos} {y : PySem.Str} {l : Nat} {env : PySem.Env} : ∃ b : Bool, swapsWith (.ListComp eltE gs scope pos) (some (.Name y py)) l env = pure b ∧ (b = true → env.scope.names.lookup y = some .local) := by
  refine ⟨_, rfl, fun h => ?_⟩
  simp only [Bool.and_eq_true] at h
  have := h.1.1.2
  simpa [Env.kindOf] using this
theorem lc_ps (ok : Ok Γ c sc) {i : Nat} {x : PySem.Str} {tg : Tg} {src : Src} {cnd : Eo} {elt : E} {eltE tgE iter : Expr} {ifs : List Expr} {scope : Scope} {p q r : Pos} (hn : NmAt Γ.X i x) (h : mE c sc (.lc tg src cnd elt) (.ListComp eltE [⟨tgE, iter, ifs, 0⟩] scope p) = true) :
    PS Γ.X (.Assign [.Name x q] (.ListComp eltE [⟨tgE, iter, ifs, 0⟩] scope p) r) (tAsg (TEm Γ (.lc tg src cnd elt)) (gName i)) := by
  simp only [mE] at h
  have l := lc_of ok (fun q => mSrc_ok src tgE iter Γ sc ok q) (fun Γ' sc' ok' q => mIf_ok cnd ifs Γ' sc' ok' q) (fun Γ' sc' ok' q => (mE_ok elt eltE Γ' sc' ok' q).1) h
  obtain ⟨b, hb, hl⟩ := sw_lc (eltE := eltE) (gs := [⟨tgE, iter, ifs, 0⟩]) (scope := scope) (pos := p) (py := q) (y := x) (l := r.line) (env := Γ.X.env)
  refine ps_lc ok.x l hn ?_
  cases b with
  | true => exact .inl ⟨hb, hl rfl⟩
  | false => exact .inr hb
theorem exc_ok (ok : OkS Γ c sc) {i : Nat} {e : Expr} (h : excC c sc i e = true) : RaiseAt Γ i e := by
  unfold excC at h
  split at h
  · rename_i x p m j p2 pos
    rw [Bool.and_eq_true, Bool.and_eq_true] at h
    obtain ⟨⟨h1, h2⟩, h3⟩ := h
    obtain ⟨t, ht, q⟩ := List.any_eq_true.mp h2
    rw [Bool.and_eq_true] at q
    have e1 : t.1 = x := by simpa using q.1
    have e2 : t.2 = i := by simpa using q.2
    subst e1 e2
    exact ok.exs t ht (glob_ok ok.ok h1) (by simpa using h3) m j p p2 pos
  · cases h
mutual
theorem mS_ok (ok : OkS Γ c sc) : ∀ (s : S) (t : Stmt), mS c sc rf s t = true → SS Γ rf s t
  | s, t, h => by
    unfold mS at h
    split at h <;> first | contradiction | skip
    · -- a comprehension's value
      rename_i i tg src cnd elt x p1 eltE tgE iter ifs scope p2 p3
      rw [Bool.and_eq_true, Bool.and_eq_true, decide_eq_true_eq] at h
      exact PS.wk (lc_ps ok.ok (nm_ok ok.ok (fun x _ => ok.fn x) h.1.1) h.1.2) fun E σ H q => asg_ord (by rw [ok.ok.ks]; exact h.2) rfl q
    · rename_i i tg src cnd elt x p1 eltE tgE iter ifs scope p2 p3
      rw [Bool.and_eq_true, Bool.and_eq_true, decide_eq_true_eq] at h
      exact PS.wk (lc_ps ok.ok (nm_ok ok.ok (fun x _ => ok.fn x) h.1.1) h.1.2) fun E σ H q => asg_own (by rw [ok.ok.ks]; exact h.2) rfl q
    · rename_i i e x p1 ex p2 _
      simp only [Bool.and_eq_true, Bool.or_eq_true, decide_eq_true_eq] at h
      obtain ⟨⟨⟨⟨h1, h2⟩, h3⟩, h4⟩, h5⟩ := h
      rcases h3 with h3 | h3
      · exact ss_asg ok.ok.x (nm_ok ok.ok (fun x _ => ok.fn x) h1) (mE_ok e ex Γ sc ok.ok h2).1 (by rw [ok.ok.ks]; exact h3) (by rw [ok.ok.ks]; exact h4) h5
      · exact ss_asgF ok.ok.x (nm_ok ok.ok (fun x _ => ok.fn x) h1) (mE_ok e ex Γ sc ok.ok h2).1 (by rw [ok.ok.ks]; exact h3.1) (by rw [ok.ok.ks]; exact h4) (by rw [ok.FR]; exact h3.2) h5
    · rename_i i e x p1 ex p2 _
      rw [Bool.and_eq_true, Bool.and_eq_true, Bool.and_eq_true, Bool.and_eq_true, decide_eq_true_eq] at h
      exact ss_asgo ok.ok.x (nm_ok ok.ok (fun x _ => ok.fn x) h.1.1.1.1) (mE_ok e ex Γ sc ok.ok h.1.1.1.2).1 (by rw [ok.ok.ks]; exact h.1.1.2) (by rw [ok.FR]; exact h.1.2) h.2
    · rename_i i j x p1 y p2 p3
      simp only [Bool.and_eq_true, Bool.or_eq_true, decide_eq_true_eq] at h
      obtain ⟨⟨⟨h1, h2⟩, h3⟩, h4⟩ := h
      rcases h3 with h3 | h3
      · exact ss_mv ok.ok.x (nm_ok ok.ok (fun x _ => ok.fn x) h1) (var_ok ok.ok h2) (by rw [ok.ok.ks]; exact h3) (by rw [ok.ok.ks]; exact h4)
      · exact ss_mvF ok.ok.x (nm_ok ok.ok (fun x _ => ok.fn x) h1) (var_ok ok.ok h2) (by rw [ok.ok.ks]; exact h3) (by rw [ok.ok.ks]; exact h4)
    · rename_i is e es kt pt ex pos
      simp only [Bool.and_eq_true] at h
      obtain ⟨⟨⟨⟨h1, h2⟩, h3⟩, h4⟩, h5⟩ := h
      exact ss_unp ok.ok.x (names_ok ok.ok (fun x _ => ok.fn x) h1) (mE_ok e ex Γ sc ok.ok h2).1 (by rw [ok.ok.ks]; exact h3) (by rw [ok.ok.ks]; exact h4) h5
    · rename_i i j a b x px y py kt pt ex ey k2 pt2 pos
      simp only [Bool.and_eq_true, Bool.or_eq_true, decide_eq_true_eq] at h
      obtain ⟨⟨h5, h6⟩, h⟩ := h
      rcases h with (⟨⟨⟨⟨⟨⟨⟨a1, a2⟩, a3⟩, a4⟩, h1⟩, h2⟩, h3⟩, h4⟩ | ⟨⟨⟨⟨⟨⟨⟨a1, a2⟩, a3⟩, a4⟩, h1⟩, h2⟩, h3⟩, h4⟩) | ⟨⟨⟨h7, h8⟩, h9⟩, ⟨⟨⟨h1, h2⟩, h3⟩, h4⟩ | ⟨⟨⟨h1, h2⟩, h3⟩, h4⟩⟩
      · have hp := h4
        unfold parC at hp
        simp only [Bool.and_eq_true, decide_eq_true_eq] at hp
        obtain ⟨q1, q2⟩ := lstE_ok (cf := Γ.cf) (FR := Γ.FR) a4
        exact ss_par2o ok.ok.x (by rw [ok.ok.N]; exact h1) (by rw [ok.ok.N]; exact h2) h3 (by rw [ok.ok.sc]; exact hp.1.1.1.1.1.1.1.1.2) (by rw [ok.ok.sc]; exact hp.1.1.1.1.1.1.1.2) (mE_ok a ex Γ sc ok.ok h5).1 (mE_ok b ey Γ sc ok.ok h6).1 hp.1.1.1.2 hp.1.1.2 (by rw [ok.ok.ks]; exact a1) (by rw [ok.ok.ks]; exact a2) (by rw [ok.ok.ks]; exact a3) q1 q2 (swapped_of ok.ok.sc h4)
      · obtain ⟨q1, q2⟩ := lstE_ok (cf := Γ.cf) (FR := Γ.FR) a4
        exact ss_parTo ok.ok.x (names_ok ok.ok (fun x _ => ok.fn x) h2) (mE_ok a ex Γ sc ok.ok h5).1 (mE_ok b ey Γ sc ok.ok h6).1 h3 h4 (by rw [ok.ok.ks]; exact a1) (by rw [ok.ok.ks]; exact a2) (by rw [ok.ok.ks]; exact a3) q1 q2 (swapped_no ok.ok.sc h1)
      · have hp := h4
        unfold parC at hp
        simp only [Bool.and_eq_true, decide_eq_true_eq] at hp
        exact ss_par2 ok.ok.x (by rw [ok.ok.N]; exact h1) (by rw [ok.ok.N]; exact h2) h3 (by rw [ok.ok.sc]; exact hp.1.1.1.1.1.1.1.1.2) (by rw [ok.ok.sc]; exact hp.1.1.1.1.1.1.1.2) (mE_ok a ex Γ sc ok.ok h5).1 (mE_ok b ey Γ sc ok.ok h6).1 hp.1.1.1.2 hp.1.1.2 (by rw [ok.ok.ks]; exact h7) (by rw [ok.ok.ks]; exact h8) (by rw [ok.ok.ks]; exact h9) (swapped_of ok.ok.sc h4)
      · refine ss_parT ok.ok.x (names_ok ok.ok (fun x _ => ok.fn x) h2) (sa_cons (mE_ok a ex Γ sc ok.ok h5).1 (sa_cons (mE_ok b ey Γ sc ok.ok h6).1 sa_nil h4) h3) (by rw [ok.ok.ks]; exact h7) ?_ (by simp [Es.len]) (swapped_no ok.ok.sc h1)
        rw [ok.ok.ks]
        simp only [lks, Bool.and_eq_true]
        exact ⟨h8, h9, trivial⟩
    · rename_i i k e x p1 kx p2 ex p3
      simp only [Bool.and_eq_true, decide_eq_true_eq] at h
      obtain ⟨⟨⟨⟨⟨h1, h2⟩, h3⟩, h4⟩, h5⟩, h6⟩ := h
      exact ss_put ok.ok.x (var_ok ok.ok h1) (mE_ok k kx Γ sc ok.ok h2).1 (mE_ok e ex Γ sc ok.ok h3).1 (by rw [ok.ok.ks]; exact h4) (by rw [ok.ok.ks]; exact h5) h6
    · rename_i i t src k y tp iter x p0 nm1 ap1 kx lp cp1 nm2 ap2 z p1 cp2 ep pos
      simp only [Bool.and_eq_true, decide_eq_true_eq] at h
      obtain ⟨⟨⟨⟨⟨⟨⟨⟨⟨⟨⟨⟨⟨⟨⟨⟨h1, h2⟩, h3⟩, h4⟩, h5⟩, h6⟩, h7⟩, h8⟩, h9⟩, h10⟩, h11⟩, h12⟩, h13⟩, h14⟩, h15⟩, h16⟩, h17⟩ := h
      have e1 : nm1 = ("setdefault" : PySem.Str) := by simpa using h1
      have e2 : nm2 = ("append" : PySem.Str) := by simpa using h2
      have e3 : z = y := by simpa using h3
      subst e1 e2 e3
      exact ss_grp (z := z) ok.ok.x ok.po (mSrc_ok src _ iter Γ sc ok.ok h4) (nm_ok ok.ok (fun x _ => ok.fn x) h5) (var_ok ok.ok h6) (var_ok ok.ok h7) (mE_ok k kx Γ sc ok.ok h8).1 h9 (by rw [ok.ok.ks]; exact h10) (by rw [ok.ok.ks]; exact h11) (by rw [ok.ok.ks]; exact h12) h13 (by rw [ok.ok.ks]; exact h14) h15 h16 h17
    · rename_i t b x body pos
      simp only [Bool.and_eq_true] at h
      exact ss_whl ok.po ((mE_ok t x Γ sc ok.ok h.1.1).2 h.1.2) (mSs_ok ok b body h.2)
    · rename_i i e x p1 nm ap ex cp p2
      simp only [Bool.and_eq_true, decide_eq_true_eq] at h
      obtain ⟨⟨⟨⟨⟨⟨h1, h2⟩, h3⟩, h4⟩, h5⟩, h6⟩, h7⟩ := h
      have en : nm = ("append" : PySem.Str) := by simpa using h1
      subst en
      exact ss_app (var_ok ok.ok h2) (mE_ok e ex Γ sc ok.ok h3).1 (by rw [ok.ok.ks]; exact h4) (by rw [ok.ok.ks]; exact h5) h6 h7
    · rename_i i j x p1 nm ap y p2 cp p3
      simp only [Bool.and_eq_true, decide_eq_true_eq] at h
      obtain ⟨⟨⟨⟨⟨⟨h1, h2⟩, h3⟩, h4⟩, h5⟩, h6⟩, h7⟩ := h
      have en : nm = ("append" : PySem.Str) := by simpa using h1
      subst en
      exact ss_appo (var_ok ok.ok h2) (var_ok ok.ok h3) h4 (by rw [ok.ok.ks]; exact h5) (by rw [ok.ok.ks]; exact h6) h7
    · rename_i i e x p1 nm ap ex cp p2
      simp only [Bool.and_eq_true, decide_eq_true_eq] at h
      obtain ⟨⟨⟨⟨⟨h1, h2⟩, h3⟩, h4⟩, h5⟩, h6⟩ := h
      have en : nm = ("extend" : PySem.Str) := by simpa using h1
      subst en
      exact ss_ext (var_ok ok.ok h2) (mE_ok e ex Γ sc ok.ok h3).1 (by rw [ok.ok.ks]; exact h4) h5 h6
    · rename_i i k x p1 nm ap kx cp p2
      simp only [Bool.and_eq_true, decide_eq_true_eq] at h
      obtain ⟨⟨⟨⟨⟨h1, h2⟩, h3⟩, h4⟩, h5⟩, h6⟩ := h
      have en : nm = ("pop" : PySem.Str) := by simpa using h1
      subst en
      exact ss_dpop (var_ok ok.ok h2) (mE_ok k kx Γ sc ok.ok h3).1 (by rw [ok.ok.ks]; exact h4) h5 h6
    · rename_i e ex p
      rw [Bool.and_eq_true] at h
      exact ss_ex (mE_ok e ex Γ sc ok.ok h.1).1 h.2
    · rename_i i x p1 p2
      simp only [Bool.and_eq_true, Bool.or_eq_true, decide_eq_true_eq] at h
      have v := var_ok ok.ok h.1
      rcases h.2 with q | q
      · exact ss_retO v.ix v.vis v.nd v.nc (by rw [ok.ok.ks]; exact q)
      · refine ss_ret (se_var v.ix v.vis v.nd v.nc) (by simp only [lk]; rw [ok.ok.ks, q.1]; rfl) fun z => ?_
        rw [z] at q
        exact absurd q.2 (by decide)
    · rename_i e ex p _
      simp only [Bool.and_eq_true, Bool.or_eq_true] at h
      refine ss_ret (mE_ok e ex Γ sc ok.ok h.1.1).1 (by rw [ok.ok.ks]; exact h.1.2) fun z => ?_
      rw [ok.FR]
      rcases h.2 with q | q
      · rw [z] at q; exact absurd q (by decide)
      · exact q
    · exact ss_retN
    · rename_i t a b x p q pos
      simp only [Bool.and_eq_true] at h
      exact ss_ite ((mE_ok t x Γ sc ok.ok h.1.1.1).2 h.1.1.2) (mSs_ok ok a p h.1.2) (mSs_ok ok b q h.2)
    · rename_i tg src b tgE iter body pos
      simp only [Bool.and_eq_true] at h
      obtain ⟨⟨⟨⟨⟨h1, h2⟩, h3⟩, h4⟩, h5⟩, h6⟩ := h
      exact ss_for ok.ok.x ok.po (mSrc_ok src tgE iter Γ sc ok.ok h1) (tg_okC ok.ok (fun x _ => ok.fn x) h2) (mSs_ok ok b body h3) (by rw [ok.ok.ks]; exact h4) (by rw [ok.ok.ks]; exact h5) h6
    · rename_i i e p
      exact ss_rse ok.ok.x (exc_ok ok h)
    · exact ss_pass
theorem mSs_ok (ok : OkS Γ c sc) : ∀ (s : Ss) (t : List Stmt), mSs c sc rf s t = true → SSs Γ rf s t
  | .nil, [], _ => ss_nil
  | .cons s ss, t :: ts, h => by
    simp only [mSs] at h
    rw [Bool.and_eq_true] at h
    exact ss_cons (mS_ok ok s t h.1) (mSs_ok ok ss ts h.2)
  | .nil, _ :: _, h => by simp [mSs] at h
  | .cons _ _, [], h => by simp [mSs] at h
end
end VE

/-! Whole defs, the whole program. -/
namespace VE
open PySem PySem.Spec PyProof.Rows L2
structure Ent where
  id : Nat
  nm : PySem.Str
  F : FDef
  N : List PySem.Str
  st : Stmt
def Ent.ps (e : Ent) : List PySem.Str := e.N.take e.F.np
def Ent.kps (e : Ent) : List Kd := e.F.kds.take e.F.np
structure Env1 where
  tab : List Ent
  FR : Nat → Bool
  exs : List (PySem.Str × Nat)
  cst : List (PySem.Str × (Int ⊕ List Nat))
  tcs : List (PySem.Str × List (List Nat))
def Env1.cfg (V1 : Env1) (e : Ent) : Cfg := { N := e.N, ks := e.F.kds, FR := V1.FR, fns := V1.tab.map fun t => (t.nm, t.id, t.kps), exs := V1.exs, cst := V1.cst, tcs := V1.tcs }
def scC (N ps : List PySem.Str) (sc : Scope) : Bool :=
  decide (sc.kind = .function) && !sc.isCoroutine && !sc.isGenerator && decide N.Nodup && decide (N.take ps.length = ps) && (ps.all fun x => decide (sc.names.lookup x = some .local) || decide (sc.names.lookup x = some .cell)) && sc.names.all fun y => decide (y.2 ≠ .free)
theorem scC_ok {N ps : List PySem.Str} {sc : Scope} (h : scC N ps sc = true) : FnScope N ps sc := by
  unfold scC at h
  simp only [Bool.and_eq_true, decide_eq_true_eq, List.all_eq_true, Bool.or_eq_true, Bool.not_eq_true'] at h
  obtain ⟨⟨⟨⟨⟨⟨h1, h2⟩, h3⟩, h4⟩, h5⟩, h6⟩, h7⟩ := h
  exact ⟨h1, h2, h3, h4, h5, h6, h7⟩
def Ent.chk (V1 : Env1) (e : Ent) : Bool :=
  mSs (V1.cfg e) (defScope e.st) e.F.fresh e.F.body (defBody e.st) && scC e.N e.ps (defScope e.st) && decide (e.F.kds.length = e.N.length) && decide (e.F.np ≤ e.N.length) && (V1.FR e.id == e.F.fresh) && (e.kps.all fun k => decide (k ≠ .own) && decide (k ≠ .fz)) && !(e.nm == ("__debug__" : PySem.Str))
theorem args_len {K : Frag} {H : Hp} {P : Addr → Prop} : ∀ {ks : List Kd} {ds : List D} {vs : List V}, ArgsAt K H P ks ds vs → ds.length = ks.length ∧ vs.length = ks.length
  | [], [], [], _ => ⟨rfl, rfl⟩
  | k :: ks, d :: ds, v :: vs, h => by
    simp only [ArgsAt] at h
    have := args_len h.2
    simp [this]
  | [], [], _ :: _, h => by simp [ArgsAt] at h
  | [], _ :: _, _, h => by simp [ArgsAt] at h
  | _ :: _, [], _, h => by simp [ArgsAt] at h
  | _ :: _, _ :: _, [], h => by simp [ArgsAt] at h
theorem args_get {K : Frag} {H : Hp} {P : Addr → Prop} : ∀ {ks : List Kd} {ds : List D} {vs : List V} {i : Nat} {d : D}, ArgsAt K H P ks ds vs → ds[i]? = some d → ∃ k v, ks[i]? = some k ∧ vs[i]? = some v ∧ (if k = .bor then Rep1 K H P d v else Rep K H P d v)
  | k :: ks, d :: ds, v :: vs, 0, x, h, e => by
    simp only [ArgsAt] at h
    simp at e; subst e
    exact ⟨k, v, rfl, rfl, h.1⟩
  | k :: ks, d :: ds, v :: vs, i + 1, x, h, e => by
    simp only [ArgsAt] at h
    obtain ⟨k', v', h1, h2, h3⟩ := args_get (i := i) h.2 (by simpa using e)
    exact ⟨k', v', by simpa using h1, by simpa using h2, h3⟩
  | _, [], _, _, _, _, e => by simp at e
  | [], _ :: _, _, _, _, h, _ => by simp [ArgsAt] at h
  | _ :: _, _ :: _, [], _, _, h, _ => by simp [ArgsAt] at h
section
variable {Pg : Program} {w : World} {K : Frag} {mg : PySem.Str → Option Value} {base : Heap} {G : Nat → Option FDef} {V1 : Env1}
/-- what the top has made -/
structure Top1 (Pg : Program) (w : World) (K : Frag) (mg : PySem.Str → Option Value) (G : Nat → Option FDef) (V1 : Env1) (cad : Nat → Addr) : Prop where
  tab : ∀ e ∈ V1.tab, G e.id = some e.F
  chk : ∀ e ∈ V1.tab, e.chk V1 = true
  fun_ : ∀ e ∈ V1.tab, ∃ fd, FunD K e.nm e.nm (defArgs e.st) (defBody e.st) (defScope e.st) [] [] (He.ga K e.nm) fd
  bnd : ∀ e ∈ V1.tab, ∀ (kV doc pm : Value) (an : Option Addr) (cdv ct : Value) (us : List Value), us.length = e.ps.length → bindArgs (PySem.W.fnOf e.nm e.nm (defArgs e.st) (defBody e.st) (defScope e.st) .none kV doc pm an cdv ct) ⟨us, []⟩ = pure (e.ps.zip us)
  glo : ∀ e ∈ V1.tab, mg e.nm = some (.ref (He.ga K e.nm))
  blt : ∀ nm, bnames.contains nm = true → mg nm = none
  cst : ∀ t ∈ V1.cst, match t.2 with
    | .inl i => ∃ u, mg t.1 = some u ∧ RelV (.int i) u
    | .inr s => ∃ u, mg t.1 = some u ∧ RelV (.str (mkS s)) u
  tcs : ∀ t ∈ V1.tcs, ∃ (a : Addr) (o : Obj) (its : Array Value) (n : Nat), mg t.1 = some (.ref a) ∧ K.lookup a = some o ∧ PObj o ∧ o.data = .seq its n ∧ its.size ≤ sizeLine ∧ Vals (t.2.map fun s => V.str (mkS s)) its.toList
  exs : ∀ t ∈ V1.exs, cad t.2 = He.ga K t.1 ∧ mg t.1 = some (.ref (He.ga K t.1)) ∧ PySem.W.excIn K (He.ga K t.1) He.veBase "ValueError.__new__" = true ∧ PySem.W.keepIn K (.ref (He.ga K t.1)) = true ∧ PySem.W.subIn K (.ref (He.ga K t.1)) (.type "BaseException") = some true ∧ PySem.W.typeIn K (.ref (He.ga K t.1)) = some (.type "type")
theorem start_rs {Γ : Ctx} {e : Ent} {ds : List D} {vs : List V} {P : Addr → Prop} (hks : Γ.ks = e.F.kds) (hP : Γ.P = P) (hl : e.F.kds.length = e.N.length) (hn : e.F.np ≤ e.N.length) (ho : (e.kps.all fun k => decide (k ≠ .own) && decide (k ≠ .fz)) = true) (ha : ArgsAt Γ.K Γ.H0 P e.kps ds vs) : RS Γ [] (L2.start e.N vs) Γ.H0 (e.F.start ds) := by
  have al := args_len ha
  have hk : e.kps.length = e.F.np := by unfold Ent.kps; rw [List.length_take]; omega
  have key : ∀ (i : Nat) (d : D), (e.F.start ds)[i]? = some (some d) → ds[i]? = some d := fun i d h => by
    unfold FDef.start at h
    by_cases hi : i < (ds.map some).length
    · rw [List.getElem?_append_left hi, List.getElem?_map] at h
      cases q : ds[i]? with
      | none => rw [q] at h; cases h
      | some x => rw [q] at h; cases h; rfl
    · rw [List.getElem?_append_right (by omega)] at h
      have := List.getElem?_replicate (a := (none : Option D)) (n := e.F.kds.length - ds.length) (i := i - (ds.map some).length)
      rw [this] at h
      split at h <;> cases h
  have kd : ∀ i k, e.kps[i]? = some k → kdAt Γ.ks i = k := fun i k h => by
    unfold Ent.kps at h
    rw [List.getElem?_take] at h
    split at h
    · unfold kdAt
      rw [hks, List.getD_eq_getElem?_getD, h]
      rfl
    · cases h
  refine ⟨?_, Ex.refl _, (fun a h => by cases h), fun i d h => ?_, fun i j d f v hij hi hj ki kj _ => ?_⟩
  · unfold FDef.start L2.start
    simp only [List.length_append, List.length_map, List.length_replicate]
    omega
  · obtain ⟨k, v, h1, h2, h3⟩ := args_get ha (key i d h)
    have hkd := kd i k h1
    refine ⟨v, ?_, ?_⟩
    · unfold L2.start
      have hi : i < (vs.map some).length := by rw [List.length_map]; exact (List.getElem?_eq_some_iff.mp h2).1
      rw [List.getElem?_append_left hi, List.getElem?_map, h2]
      rfl
    · rw [hkd]
      have pp : ∀ b, P b → Pc Γ [] b := fun b hb => ⟨by simp, .inl (by rw [hP]; exact hb)⟩
      cases k with
      | ord =>
        rw [if_neg (by decide)] at h3
        exact Rep.wk pp h3
      | bor =>
        rw [if_pos rfl] at h3
        refine ⟨Rep1.move (Ex.refl _).mv (fun _ _ z => z) pp (fun _ _ z => z) h3, ?_⟩
        cases d <;> simp [Away]
      | own =>
        exfalso
        have := List.all_eq_true.mp ho _ (List.mem_of_getElem? h1)
        simp at this
      | fz =>
        exfalso
        have := List.all_eq_true.mp ho _ (List.mem_of_getElem? h1)
        simp at this
  · exfalso
    obtain ⟨k, v', h1, _, _⟩ := args_get ha (key i d hi)
    have := kd i k h1
    rw [ki] at this
    have h2 := List.all_eq_true.mp ho _ (List.mem_of_getElem? h1)
    rw [← this] at h2
    simp at h2
end
end VE

/-! By fuel: each def keeps what the small language says of it; the law's end. -/
namespace VE
open PySem PySem.Spec PyProof.Rows L2
variable {Pg : Program} {w : World} {K : Frag} {mg : PySem.Str → Option Value} {base : Heap} {G : Nat → Option FDef} {V1 : Env1} {cad : Nat → Addr}
theorem Ent.chk_ok {e : Ent} (h : e.chk V1 = true) : mSs (V1.cfg e) (defScope e.st) e.F.fresh e.F.body (defBody e.st) = true ∧ FnScope e.N e.ps (defScope e.st) ∧ e.F.kds.length = e.N.length ∧ e.F.np ≤ e.N.length ∧ V1.FR e.id = e.F.fresh ∧ (e.kps.all fun k => decide (k ≠ .own) && decide (k ≠ .fz)) = true ∧ (e.nm == ("__debug__" : PySem.Str)) = false := by
  unfold Ent.chk at h
  simp only [Bool.and_eq_true, decide_eq_true_eq, beq_iff_eq, Bool.not_eq_true'] at h
  obtain ⟨⟨⟨⟨⟨⟨h1, h2⟩, h3⟩, h4⟩, h5⟩, h6⟩, h7⟩ := h
  exact ⟨h1, scC_ok h2, h3, h4, h5, h6, h7⟩
theorem fn_all (T : Top1 Pg w K mg G V1 cad) : ∀ (n : Nat) (e : Ent), e ∈ V1.tab → ∀ fd, FunD K e.nm e.nm (defArgs e.st) (defBody e.st) (defScope e.st) [] [] (He.ga K e.nm) fd →
    FnOk Pg w K mg base (L2.CX Pg w) n (He.ga K e.nm) fd e.ps (spF K cad e.kps (V1.FR e.id) (run G n e.id))
  | 0, e, he, fd, F => by
    have no : ∀ vs H Q E, ¬ spF K cad e.kps (V1.FR e.id) (run G 0 e.id) vs H Q E := fun vs H Q E ⟨ds, P, _, z⟩ => z
    exact ⟨fun vs H Q E h => (no _ _ _ _ h).elim, fun A outer s H args us vs Q E _ _ _ _ h => (no _ _ _ _ h).elim⟩
  | n + 1, e, he, fd, F => by
    have ih := fn_all T n
    obtain ⟨c1, c2, c3, c4, c5, c6, c7⟩ := Ent.chk_ok (T.chk e he)
    have hk : e.kps.length = e.F.np := by unfold Ent.kps; rw [List.length_take]; omega
    have hps : e.ps.length = e.F.np := by unfold Ent.ps; rw [List.length_take]; omega
    refine F.ok c2 (fun vs H Q E h => ?_) (fun cdv A outer s H vs Q E hr h => ?_)
    · obtain ⟨ds, P, ha, _⟩ := h
      rw [(args_len ha).2, hk, hps]
    · obtain ⟨ds, P, ha, hres⟩ := h
      let X : Cx := cxOf (L2.CX Pg w) Pg w K mg base e.N e.nm (defScope e.st) (He.ga K e.nm) cdv A outer s H E
      let Γ : Ctx := { X := X, ks := e.F.kds, H0 := H, P := P, cf := run G n, FR := V1.FR, W := fun cls d _ H' => E cls d H', cad := cad }
      have xok : XOk Γ := ⟨rfl, c2.nd, by have := hr.un; show (A.deeper _).units + 200 < cLine; omega, c3, takes_of rfl rfl rfl rfl⟩
      have ok : Ok Γ (V1.cfg e) (defScope e.st) := by
        refine ⟨xok, rfl, rfl, rfl, T.blt, fun t ht => ?_, fun t ht => ?_, fun t ht => T.tcs t ht, rfl⟩
        · obtain ⟨e', he', rfl⟩ := List.mem_map.mp ht
          obtain ⟨fd', F'⟩ := T.fun_ e' he'
          exact ⟨n, He.ga K e'.nm, fd', e'.ps, ih e' he' fd' F', hr, T.glo e' he', F'.kp, F'.bindsN (T.bnd e' he'), (Ent.chk_ok (T.chk e' he')).2.2.2.2.2.2⟩
        · have := T.cst t ht
          obtain ⟨x, v⟩ := t
          cases v with
          | inl i => exact this
          | inr s => exact this
      have okS : OkS Γ (V1.cfg e) (defScope e.st) := by
        refine ⟨ok, rfl, fun _ => rfl, passes_of rfl, fun t ht hg hd m j p p2 pos => ?_⟩
        obtain ⟨x1, x2, x3, x4, x5, x6⟩ := T.exs t ht
        refine ⟨?_⟩
        show PMk Γ.X _ (fun _ H Q => Q (.ref (cad t.2)) none H)
        rw [x1]
        exact pmk_own PySem.F.excBase_ValueError x3 x2 x4 (raises_own x5 x6) hg hd
      refine ⟨TSs Γ e.F.fresh e.F.body, mSs_ok okS e.F.body (defBody e.st) c1, e.F.start ds, [], start_rs (Γ := Γ) rfl rfl c3 c4 c6 ha, ?_⟩
      have hrun : run G (n + 1) e.id ds = (exSs (run G n) e.F.body (e.F.start ds)).res := by
        show (match G e.id with | some F => if ds.length = F.np then (exSs (run G n) F.body (F.start ds)).res else .bad | none => .bad) = _
        rw [T.tab e he]
        show (if ds.length = e.F.np then _ else _) = _
        rw [if_pos (by rw [(args_len ha).1, hk])]
      rw [hrun] at hres
      show FinS Γ e.F.fresh [] H (exSs (run G n) e.F.body (e.F.start ds)) _
      cases hx : exSs (run G n) e.F.body (e.F.start ds) with
      | next ρ' =>
        rw [hx] at hres
        intro σ' H' O' rs' _
        exact hres .non H' rs'.ex (by simp [Rep]) fun _ => trivial
      | ret d =>
        rw [hx] at hres
        intro v H' ro
        exact hres v H' ro.ex ro.rep (by rw [c5]; exact ro.new)
      | err c ρ' =>
        rw [hx] at hres
        exact fun σ' H' ex => hres H' ex
      | bad => rw [hx] at hres; exact hres
theorem scr_of {H : Hp} {a : Addr} {xs : List V} (ho : Only H) (h : SqL K H a xs) : SqF K H a xs := by
  rcases h with h | h
  · rcases h with h | ⟨o, h⟩
    · rcases ho a with z | ⟨o, ys, z⟩ <;> (rw [h] at z; cases z)
    · exact .inl ⟨o, h⟩
  · exact .inr (.inr h)
theorem law_sp {fresh : Bool} {r : List D → Res D} {H : Hp} {a : Addr} {ns : List Int} (ho : Only H) (h : SqL K H a (ns.map V.int)) (hr : r [.scr ns] = .ok (.bl true)) : spF K cad [.ord] fresh r [.ref a] H (fun v _ => v = .bl true) fun _ _ _ => False := by
  refine ⟨[.scr ns], fun _ => False, ?_, ?_⟩
  · simp only [ArgsAt]
    refine ⟨?_, trivial⟩
    rw [if_neg (by decide)]
    simp only [Rep]
    exact ⟨a, rfl, scr_of ho h⟩
  · rw [hr]
    intro v H' _ hv _
    simpa only [Rep] using hv
end VE

/-! From the head's facts. -/
namespace VE
open PySem PySem.Spec PyProof.Rows L2
def cstFa (t : PySem.Str × (Int ⊕ List Nat)) : He.Fa := match t.2 with
  | .inl i => .int t.1 i
  | .inr s => .str t.1 (mkS s)
def Env1.fa (V1 : Env1) : List He.Fa := bnames.map .free ++ (V1.tab.map (fun e => .glo e.nm) ++ (V1.exs.map (fun t => .glo t.1) ++ (V1.exs.map (fun t => .exc t.1) ++ (V1.cst.map cstFa ++ V1.tcs.map fun t => .glo t.1))))
def Ent.dd (e : Ent) : He.DefD := ⟨(e.nm, none), e.nm, e.nm, defArgs e.st, defBody e.st, defScope e.st, [], []⟩
def Env1.fn (V1 : Env1) : List He.DefD := V1.tab.map Ent.dd
def Env1.cad (V1 : Env1) (K : Frag) (i : Nat) : Addr := He.ga K ((V1.exs.map (·.1)).getD i ("" : PySem.Str))
def relStrs : List (List Nat) → List Value → Bool
  | [], [] => true
  | s :: r, .str x _ :: t => (x.cps.toList == s) && relStrs r t
  | _, _ => false
def tupC (K : Frag) (x : PySem.Str) (ss : List (List Nat)) : Bool := match K.lookup (He.ga K x) with
  | some ⟨.type c, none, .seq its _, _⟩ => decide (c = "tuple") && decide (its.size ≤ 100000) && relStrs ss its.toList
  | _ => false
theorem relStrs_ok : ∀ {ss : List (List Nat)} {us : List Value}, relStrs ss us = true → Vals (ss.map fun s => V.str (mkS s)) us
  | [], [], _ => .nil
  | s :: r, u :: t, h => by
    cases u <;> simp only [relStrs] at h <;> try contradiction
    rename_i x tk
    rw [Bool.and_eq_true] at h
    refine .cons ⟨tk, ?_⟩ (relStrs_ok h.2)
    have : x = mkS s := PySem.W.str_of_cps (by simpa using h.1)
    rw [this]
  | [], _ :: _, h => by simp [relStrs] at h
  | _ :: _, [], h => by simp [relStrs] at h
theorem tupC_ok {K : Frag} {x : PySem.Str} {ss : List (List Nat)} (h : tupC K x ss = true) : ∃ (o : Obj) (its : Array Value) (n : Nat), K.lookup (He.ga K x) = some o ∧ PObj o ∧ o.data = .seq its n ∧ its.size ≤ sizeLine ∧ Vals (ss.map fun s => V.str (mkS s)) its.toList := by
  unfold tupC at h
  split at h
  · rename_i c its n sl e
    rw [Bool.and_eq_true, Bool.and_eq_true, decide_eq_true_eq, decide_eq_true_eq] at h
    obtain ⟨⟨rfl, h2⟩, h3⟩ := h
    exact ⟨_, its, n, e, ⟨rfl, rfl⟩, rfl, by rw [sizeLine_eq]; omega, relStrs_ok h3⟩
  · cases h
def Env1.ex (V1 : Env1) (K : Frag) : Bool := V1.tcs.all fun t => tupC K t.1 t.2
/-- the head's facts, and a test of one's own -/
def hookC (n : Nat) (fa : List He.Fa) (fn : List He.DefD) (ex : Frag → Bool) : PySem.W.Hook where
  α := He.AlD × Bool
  obs := fun s => (He.obsD fa fn (He.frG s.heap.get? (He.asD s.heap.get? n)), ex (He.frG s.heap.get? (He.asD s.heap.get? n)))
  val := fun _ => (He.valD fn, true)
  says := fun _ h => ∃ K : Frag, K.In h ∧ He.SaysD fa fn K ∧ ex K = true
  of := fun _ _ e => ⟨_, He.frG_in, congrArg (fun z : He.AlD × Bool => z.1) e, congrArg (fun z : He.AlD × Bool => z.2) e⟩
  keeps := fun _ _ _ ⟨K, hK, c⟩ k => ⟨K, PySem.W.Frag.In.keeps hK k, c⟩
def obsCG (n : Nat) (fa : List He.Fa) (fn : List He.DefD) (ex : Frag → Bool) (g : Addr → Option Obj) : He.AlD × Bool := (He.obsD fa fn (He.frG g (He.asD g n)), ex (He.frG g (He.asD g n)))
theorem obsCG_eq {n : Nat} {fa : List He.Fa} {fn : List He.DefD} {ex : Frag → Bool} {g : Addr → Option Obj} {s : Shared} (h : ∀ a, g a = s.heap.get? a) : obsCG n fa fn ex g = (hookC n fa fn ex).obs s := by
  have e : g = s.heap.get? := funext h
  rw [e] <;> rfl
variable {Pg : Program} {w : World} {K : Frag} {mg : PySem.Str → Option Value} {G : Nat → Option FDef} {V1 : Env1} {h : Heap}
theorem top_of (X : K.In h) (N : h.Ns mainGlobals mg) (c : He.SaysD V1.fa V1.fn K) (cx : V1.ex K = true) (hG : ∀ e ∈ V1.tab, G e.id = some e.F) (hchk : (V1.tab.all fun e => e.chk V1) = true) (hex : (V1.exs.all fun t => (V1.exs.map (·.1)).getD t.2 ("" : PySem.Str) == t.1) = true)
    (hbnd : ∀ e ∈ V1.tab, ∀ (kV doc pm : Value) (an : Option Addr) (cdv ct : Value) (us : List Value), us.length = e.ps.length → bindArgs (PySem.W.fnOf e.nm e.nm (defArgs e.st) (defBody e.st) (defScope e.st) .none kV doc pm an cdv ct) ⟨us, []⟩ = pure (e.ps.zip us)) : Top1 Pg w K mg G V1 (V1.cad K) where
  tab := hG
  chk := fun e he => List.all_eq_true.mp hchk e he
  fun_ := fun e he => c.defs (d := e.dd) (List.mem_map.mpr ⟨e, he, rfl⟩)
  bnd := hbnd
  glo := fun e he => He.glo_ok X N (c.facts (List.mem_append_right _ (List.mem_append_left _ (List.mem_map.mpr ⟨e, he, rfl⟩))))
  blt := fun nm hn => He.free_ok X N (c.facts (List.mem_append_left _ (List.mem_map.mpr ⟨nm, by simpa using hn, rfl⟩)))
  cst := fun t ht => by
    have f := c.facts (f := cstFa t) (List.mem_append_right _ (List.mem_append_right _ (List.mem_append_right _ (List.mem_append_right _ (List.mem_append_left _ (List.mem_map.mpr ⟨t, ht, rfl⟩))))))
    obtain ⟨x, v⟩ := t
    cases v with
    | inl i =>
      obtain ⟨u, hu⟩ := He.int_ok X N (x := x) (i := i) f
      exact ⟨_, hu, u, rfl⟩
    | inr s =>
      obtain ⟨u, hu⟩ := He.str_ok X N (x := x) (z := mkS s) f
      exact ⟨_, hu, u, rfl⟩
  tcs := fun t ht => by
    have f := He.glo_ok X N (x := t.1) (c.facts (List.mem_append_right _ (List.mem_append_right _ (List.mem_append_right _ (List.mem_append_right _ (List.mem_append_right _ (List.mem_map.mpr ⟨t, ht, rfl⟩)))))))
    obtain ⟨o, its, n, h1, h2, h3, h4, h5⟩ := tupC_ok (List.all_eq_true.mp cx t ht)
    exact ⟨_, o, its, n, f, h1, h2, h3, h4, h5⟩
  exs := fun t ht => by
    have e1 : (V1.exs.map (·.1)).getD t.2 ("" : PySem.Str) = t.1 := by simpa using List.all_eq_true.mp hex t ht
    have f1 := He.glo_ok X N (x := t.1) (c.facts (List.mem_append_right _ (List.mem_append_right _ (List.mem_append_left _ (List.mem_map.mpr ⟨t, ht, rfl⟩)))))
    have f2 := He.exc_ok (x := t.1) (c.facts (List.mem_append_right _ (List.mem_append_right _ (List.mem_append_right _ (List.mem_append_left _ (List.mem_map.mpr ⟨t, ht, rfl⟩))))))
    exact ⟨by unfold Env1.cad; rw [e1], f1, f2.1, f2.2.1, f2.2.2.1, f2.2.2.2⟩
theorem len1 {us : List Value} (h : us.length = 1) : ∃ a, us = [a] := by
  match us, h with
  | [a], _ => exact ⟨a, rfl⟩
theorem len2 {us : List Value} (h : us.length = 2) : ∃ a b, us = [a, b] := by
  match us, h with
  | [a, b], _ => exact ⟨a, b, rfl⟩
theorem len3 {us : List Value} (h : us.length = 3) : ∃ a b c, us = [a, b, c] := by
  match us, h with
  | [a, b, c], _ => exact ⟨a, b, c, rfl⟩
theorem len4 {us : List Value} (h : us.length = 4) : ∃ a b c d, us = [a, b, c, d] := by
  match us, h with
  | [a, b, c, d], _ => exact ⟨a, b, c, d, rfl⟩
theorem len5 {us : List Value} (h : us.length = 5) : ∃ a b c d e, us = [a, b, c, d, e] := by
  match us, h with
  | [a, b, c, d, e], _ => exact ⟨a, b, c, d, e, rfl⟩
/-- nothing is let out -/
theorem calm0 {base : Heap} {k : Nat} {f : Addr} {fd : FuncData} {ps : List PySem.Str} {sp : Sp} (F : FnOk Pg w K mg base (L2.CX Pg w) k f fd ps sp) : FnOk Pg w K mg base CX0 k f fd ps (fun vs H Q _ => sp vs H Q fun _ _ _ => False) := by
  refine ⟨fun vs H Q E h => F.len vs H Q _ h, fun A outer s H args us vs Q E hr e0 b r h => codeAny_mono (F.run A outer s H args us vs Q (fun _ _ _ => False) hr e0 b r h) fun res s' hq => ?_⟩
  cases res with
  | error e =>
    obtain ⟨_, _, _, _, _, _, _, _, _, _, _, _, z⟩ := hq
    exact z.elim
  | ok fl => cases fl <;> exact hq
/-- the law's own promise -/
theorem law_all (T : Top1 Pg w K mg G V1 (V1.cad K)) {e : Ent} (he : e ∈ V1.tab) (hk : e.kps = [.ord]) (n : Nat) (hr : ∀ ns : List Int, ns.length ≤ 63 → run G n e.id [.scr ns] = .ok (.bl true)) (x : PySem.Str) (hps : e.ps = [x]) :
    ∃ fd : FuncData, (∀ (s : Shared) (v : Value), BindsTo s fd ⟨[v], []⟩ [(x, v)]) ∧ (∀ (H : Hp) (a : Addr) (ns : List Int), ns.length ≤ 63 → Only H → SqL K H a (ns.map V.int) → (fun vs H Q (_ : XK) => spF K (V1.cad K) e.kps (V1.FR e.id) (run G n e.id) vs H Q fun _ _ _ => False) [.ref a] H (fun v _ => v = .bl true) fun _ _ _ => False) ∧
      ∀ base : Heap, FnOk Pg w K mg base CX0 n (He.ga K e.nm) fd [x] (fun vs H Q _ => spF K (V1.cad K) e.kps (V1.FR e.id) (run G n e.id) vs H Q fun _ _ _ => False) := by
  obtain ⟨fd, F⟩ := T.fun_ e he
  refine ⟨fd, fun s v => ?_, fun H a ns hl ho hs => ?_, fun base => ?_⟩
  · have b := F.bindsA (ps := e.ps) (T.bnd e he) s [v] (by rw [hps]; rfl)
    rw [hps] at b
    exact b
  · show spF K (V1.cad K) e.kps (V1.FR e.id) (run G n e.id) [.ref a] H (fun v _ => v = .bl true) fun _ _ _ => False
    rw [hk]
    exact law_sp ho hs (hr ns hl)
  · have f := fn_all (base := base) T n e he fd F
    rw [hps] at f
    exact calm0 f
end VE

/-! Plain lemmas on what the small language means. -/
namespace VE
open Res
abbrev St := List Nat
def encR (r : St × St) : D := .tup [.str r.1, .str r.2]
def encT (t : List (St × St)) : D := .tup (t.map encR)
def encW (w : St × Int) : D := .tup [.str w.1, .int w.2]
def encB (b : List (St × Int)) : D := .tup (b.map encW)
def chD (c : Nat) : D := .str [c]
theorem lc_map {α : Type} {enc g : α → D} {f : D → Res (Option D)} : ∀ {l : List α}, (∀ x ∈ l, f (enc x) = ok (some (g x))) → lcGo f (l.map enc) = ok (l.map g)
  | [], _ => rfl
  | x :: r, h => by
    rw [List.map_cons, lcGo, h x List.mem_cons_self, bind_ok, lc_map fun y hy => h y (List.mem_cons_of_mem _ hy)]
    rfl
theorem lc_filter {α : Type} {enc g : α → D} {p : α → Bool} {f : D → Res (Option D)} : ∀ {l : List α}, (∀ x ∈ l, f (enc x) = ok (if p x = true then some (g x) else none)) → lcGo f (l.map enc) = ok ((l.filter p).map g)
  | [], _ => rfl
  | x :: r, h => by
    rw [List.map_cons, lcGo, h x List.mem_cons_self, bind_ok, lc_filter (p := p) (g := g) fun y hy => h y (List.mem_cons_of_mem _ hy), bind_ok, List.filter_cons]
    by_cases e : p x = true
    · rw [if_pos e, if_pos e]; rfl
    · rw [if_neg e, if_neg e]
theorem bools_map {α : Type} {p : α → Bool} : ∀ l : List α, bools (l.map fun x => .bl (p x)) = some (l.map p)
  | [] => rfl
  | x :: r => by rw [List.map_cons, bools, bools_map r]; rfl
theorem strsD_map {α : Type} {p : α → St} : ∀ l : List α, strsD (l.map fun x => .str (p x)) = some (l.map p)
  | [] => rfl
  | x :: r => by rw [List.map_cons, strsD, strsD_map r]; rfl
theorem intsD_map {α : Type} {p : α → Int} : ∀ l : List α, intsD (l.map fun x => .int (p x)) = some (l.map p)
  | [] => rfl
  | x :: r => by rw [List.map_cons, intsD, intsD_map r]; rfl
theorem for_rel {α σ : Type} {enc : α → D} {f : D → Env → Fl} {R : σ → Env → Prop} {stp : σ → α → σ} : ∀ {l : List α} {s : σ} {ρ : Env}, (∀ s ρ, ∀ x ∈ l, R s ρ → ∃ ρ', f (enc x) ρ = .next ρ' ∧ R (stp s x) ρ') → R s ρ → ∃ ρ', forGo f (l.map enc) ρ = .next ρ' ∧ R (l.foldl stp s) ρ'
  | [], s, ρ, _, h => ⟨ρ, rfl, h⟩
  | x :: r, s, ρ, hs, h => by
    obtain ⟨ρ', e, h'⟩ := hs s ρ x List.mem_cons_self h
    obtain ⟨ρ2, e2, h2⟩ := for_rel (fun s ρ y hy => hs s ρ y (List.mem_cons_of_mem _ hy)) h'
    refine ⟨ρ2, ?_, h2⟩
    rw [List.map_cons, forGo, e]
    exact e2
/-- a loop, by what is behind it -/
theorem for_pre {α : Type} {enc : α → D} {f : D → Env → Fl} {R : List α → Env → Prop} {l : List α} (hs : ∀ l1 x l2 ρ, l = l1 ++ x :: l2 → R l1 ρ → ∃ ρ', f (enc x) ρ = .next ρ' ∧ R (l1 ++ [x]) ρ') : ∀ {l2 l1 : List α} {ρ : Env}, l = l1 ++ l2 → R l1 ρ → ∃ ρ', forGo f (l2.map enc) ρ = .next ρ' ∧ R (l1 ++ l2) ρ'
  | [], l1, ρ, _, h => ⟨ρ, rfl, by rw [List.append_nil]; exact h⟩
  | x :: r, l1, ρ, he, h => by
    obtain ⟨ρ', e, h'⟩ := hs l1 x r ρ he h
    obtain ⟨ρ2, e2, h2⟩ := for_pre hs (l2 := r) (l1 := l1 ++ [x]) (by rw [List.append_assoc]; exact he) h'
    refine ⟨ρ2, ?_, by rw [List.append_assoc] at h2; exact h2⟩
    rw [List.map_cons, forGo, e]
    exact e2
theorem for_ofl {α : Type} {enc : α → D} {f : D → Env → Fl} {R : List α → Env → Prop} {l : List α} {ρ : Env} (hs : ∀ l1 x l2 ρ, l = l1 ++ x :: l2 → R l1 ρ → ∃ ρ', f (enc x) ρ = .next ρ' ∧ R (l1 ++ [x]) ρ') (h : R [] ρ) : ∃ ρ', forGo f (l.map enc) ρ = .next ρ' ∧ R l ρ' := for_pre hs (l1 := []) rfl h
/-- a loop that ends at the first thing that is not so -/
theorem for_chk {α : Type} {enc : α → D} {f : D → Env → Fl} {R : Env → Prop} {p : α → Bool} {d : D} : ∀ {l : List α} {ρ : Env}, (∀ ρ, ∀ x ∈ l, R ρ → (p x = true → ∃ ρ', f (enc x) ρ = .next ρ' ∧ R ρ') ∧ (p x = false → f (enc x) ρ = .ret d)) → R ρ → (l.all p = true → ∃ ρ', forGo f (l.map enc) ρ = .next ρ' ∧ R ρ') ∧ (l.all p = false → forGo f (l.map enc) ρ = .ret d)
  | [], ρ, _, h => ⟨fun _ => ⟨ρ, rfl, h⟩, fun z => by simp at z⟩
  | x :: r, ρ, hs, h => by
    obtain ⟨h1, h2⟩ := hs ρ x List.mem_cons_self h
    cases hp : p x with
    | true =>
      obtain ⟨ρ', e, h'⟩ := h1 hp
      obtain ⟨q1, q2⟩ := for_chk (fun ρ y hy => hs ρ y (List.mem_cons_of_mem _ hy)) h'
      rw [List.all_cons, hp, Bool.true_and, List.map_cons, forGo, e]
      exact ⟨q1, q2⟩
    | false =>
      rw [List.all_cons, hp, Bool.false_and, List.map_cons, forGo, h2 hp]
      exact ⟨fun z => absurd z (by decide), fun _ => rfl⟩
/-- a loop that keeps something true -/
theorem for_inv {α : Type} {enc : α → D} {f : D → Env → Fl} {R : Env → Prop} {l : List α} {ρ : Env} (hs : ∀ ρ, ∀ x ∈ l, R ρ → ∃ ρ', f (enc x) ρ = .next ρ' ∧ R ρ') (h : R ρ) : ∃ ρ', forGo f (l.map enc) ρ = .next ρ' ∧ R ρ' :=
  for_rel (σ := Unit) (R := fun _ => R) (stp := fun _ _ => ()) (s := ()) (fun _ => hs) h

/-! ### evaluation: no functions within, so that nothing is looked at too early -/
theorem res_next (ρ : Env) : (Fl.next ρ).res = ok .non := rfl
theorem res_ret (d : D) : (Fl.ret d).res = ok d := rfl
theorem res_err (c : Nat) (ρ : Env) : (Fl.err c ρ).res = .err c := rfl
theorem res_ite {c : Prop} [Decidable c] (a b : Fl) : (if c then a else b).res = if c then a.res else b.res := by split <;> rfl
theorem bind_ite {α β : Type} {c : Prop} [Decidable c] (a b : Res α) (k : α → Res β) : (if c then a else b).bind k = if c then a.bind k else b.bind k := by split <;> rfl
theorem ofO_some {α : Type} (a : α) : ofO (some a) = ok a := rfl
theorem ite_and (k x : Bool) : (if k = true then ok (D.bl x) else ok (D.bl false)) = ok (D.bl (k && x)) := by cases k <;> rfl
theorem ite_or (k x : Bool) : (if k = true then ok (D.bl true) else ok (D.bl x)) = ok (D.bl (k || x)) := by cases k <;> rfl
theorem mapB_ok (f : Bool → Bool) (b : Bool) : mapB f (ok b) = ok (.bl (f b)) := rfl
/-- two values -/
def k2 (f : D → D → Res D) (x y : Res D) : Res D := x.bind fun x => y.bind fun y => f x y
theorem k2_ok (f : D → D → Res D) (x y : D) : k2 f (ok x) (ok y) = f x y := rfl
def k1 (f : D → Res D) (x : Res D) : Res D := x.bind f
theorem k1_ok (f : D → Res D) (x : D) : k1 f (ok x) = f x := rfl
def kT (x : Res (List D)) : Res D := x.bind fun ds => ok (.tup ds)
theorem kT_ok (x : List D) : kT (ok x) = ok (.tup x) := rfl
def kL (x : Res (List D)) : Res D := x.bind fun ds => ok (.lst ds)
theorem kL_ok (x : List D) : kL (ok x) = ok (.lst x) := rfl
def kCons (x : Res D) (y : Res (List D)) : Res (List D) := x.bind fun d => y.bind fun ds => ok (d :: ds)
theorem kCons_ok (x : D) (y : List D) : kCons (ok x) (ok y) = ok (x :: y) := rfl
def kNeg (x : Res D) : Res D := x.bind fun x => (asInt x).bind fun i => ok (.int (-i))
theorem kNeg_ok (i : Int) : kNeg (ok (.int i)) = ok (.int (-i)) := rfl
def kNot (x : Res D) : Res D := x.bind fun x => (asBool x).bind fun b => ok (.bl (!b))
theorem kNot_ok (i : Bool) : kNot (ok (.bl i)) = ok (.bl (!i)) := rfl
def kCmp2 (o p : COp) (a b c : Res D) : Res D := a.bind fun x => b.bind fun y => (cmpD o x y).bind fun t => (asBool t).bind fun k => if k then c.bind fun z => cmpD p y z else ok (.bl false)
def kTst (t : Res D) (a b : Res D) : Res D := t.bind fun x => (asBool x).bind fun k => if k then a else b
theorem kTst_ok (k : Bool) (a b : Res D) : kTst (ok (.bl k)) a b = if k = true then a else b := rfl
theorem kCmp2_ok (o p : COp) (x y z : D) : kCmp2 o p (ok x) (ok y) (ok z) = kTst (cmpD o x y) (cmpD p y z) (ok (.bl false)) := rfl
def kLast (t : Res D) : Res D := t.bind fun x => (asBool x).bind fun k => ok (.bl k)
theorem kLast_ok (k : Bool) : kLast (ok (.bl k)) = ok (.bl k) := rfl
def kCall (cf : Nat → List D → Res D) (f : Nat) (ds : Res (List D)) : Res D := ds.bind fun ds => cf f ds
theorem kCall_ok (cf : Nat → List D → Res D) (f : Nat) (ds : List D) : kCall cf f (ok ds) = cf f ds := rfl
def kM1 (m : M1) (x y : Res D) : Res D := x.bind fun x => if rcv1 m x then y.bind fun y => m1D m x y else bad
theorem kM1_ok (m : M1) (x y : D) (h : rcv1 m x = true) : kM1 m (ok x) (ok y) = m1D m x y := by simp [kM1, h]
def kM2 (m : M2) (x y z : Res D) : Res D := x.bind fun x => if rcv2 m x then y.bind fun y => z.bind fun z => m2D m x y z else bad
theorem kM2_ok (m : M2) (x y z : D) (h : rcv2 m x = true) : kM2 m (ok x) (ok y) (ok z) = m2D m x y z := by simp [kM2, h]
def kSl (x : Res D) (l h : Res (Option Int)) : Res D := x.bind fun x => l.bind fun l => h.bind fun h => slD l h x
theorem kSl_ok (x : D) (l h : Option Int) : kSl (ok x) (ok l) (ok h) = slD l h x := rfl
def kSome (x : Res D) : Res (Option Int) := x.bind fun x => (asInt x).bind fun i => ok (some i)
theorem kSome_ok (i : Int) : kSome (ok (.int i)) = ok (some i) := rfl
def kBool (x : Res D) : Res Bool := x.bind fun x => asBool x
theorem kBool_ok (b : Bool) : kBool (ok (.bl b)) = ok b := rfl
def kIt (x : Res D) : Res (List D) := x.bind fun x => ofO (itemsOf x)
theorem kIt_ok (x : D) : kIt (ok x) = ofO (itemsOf x) := rfl
def kR1 (x : Res D) : Res (List D) := x.bind fun x => (asInt x).bind fun j => if j ≤ 4000000 ∧ -4000000 ≤ j then ok (rangeL 0 j.toNat) else bad
theorem kR1_ok (j : Int) (h1 : j ≤ 4000000) (h2 : -4000000 ≤ j) : kR1 (ok (.int j)) = ok (rangeL 0 j.toNat) := if_pos ⟨h1, h2⟩
def kR2 (x y : Res D) : Res (List D) := x.bind fun x => y.bind fun y => (asInt x).bind fun i => (asInt y).bind fun j =>
      if j ≤ 4000000 ∧ -4000000 ≤ j ∧ i ≤ 4000000 ∧ -4000000 ≤ i then ok (rangeL i (j - i).toNat) else bad
theorem kR2_ok (i j : Int) (h1 : j ≤ 4000000) (h2 : -4000000 ≤ j) (h3 : i ≤ 4000000) (h4 : -4000000 ≤ i) : kR2 (ok (.int i)) (ok (.int j)) = ok (rangeL i (j - i).toNat) := if_pos ⟨h1, h2, h3, h4⟩
def kEn (x : Res D) : Res (List D) := x.bind fun x => (ofO (itemsE x)).bind fun xs => ok (enumL 0 xs)
theorem kEn_str (s : St) : kEn (ok (.str s)) = ok (enumL 0 (s.map chD)) := rfl
theorem kEn_tup (s : List D) : kEn (ok (.tup s)) = ok (enumL 0 s) := rfl
theorem kEn_lst (s : List D) : kEn (ok (.lst s)) = ok (enumL 0 s) := rfl
def kZip (x y : Res D) : Res (List D) := x.bind fun x => y.bind fun y => ofO (zipD x y)
theorem kZip_str (x y : St) : kZip (ok (.str x)) (ok (.str y)) = ok (zipL (x.map chD) (y.map chD)) := rfl
theorem kZip_ok (x y : List D) : kZip (ok (.lst x)) (ok (.lst y)) = ok (zipL x y) := rfl
section
variable (cf : Nat → List D → Res D)
/-- one item of a comprehension -/
def lcK (c : Res Bool) (e : Res D) : Res (Option D) := (c.bind fun b => if b then e.bind fun y => ok (some y) else ok none).nox
theorem lcK_t (y : D) : lcK (ok true) (ok y) = ok (some y) := rfl
theorem lcK_f (e : Res D) : lcK (ok false) e = ok none := rfl
theorem lcK_ok (b : Bool) (y : D) : lcK (ok b) (ok y) = ok (if b = true then some y else none) := by cases b <;> rfl
def lcF (tg : Tg) (cnd : Eo) (elt : E) (ρ : Env) (x : D) : Res (Option D) := match tg.bind x (wipes tg.slots ρ) with
  | some ρ' => lcK (evc cf cnd ρ') (ev cf elt ρ')
  | none => bad
theorem lcF_nm (i : Nat) (cnd : Eo) (elt : E) (ρ : Env) (x : D) : lcF cf (.nm i) cnd elt ρ x = lcK (evc cf cnd (ρ.set i (some x))) (ev cf elt (ρ.set i (some x))) := by
  have : (wipes [i] ρ).set i (some x) = ρ.set i (some x) := by simp [wipes]
  show lcK (evc cf cnd ((wipes [i] ρ).set i (some x))) (ev cf elt ((wipes [i] ρ).set i (some x))) = _
  rw [this]
theorem lcF_tp2 (i j : Nat) (cnd : Eo) (elt : E) (ρ : Env) (x y : D) : lcF cf (.tp [i, j]) cnd elt ρ (.tup [x, y]) = lcK (evc cf cnd ((((ρ.set j none).set i none).set i (some x)).set j (some y))) (ev cf elt ((((ρ.set j none).set i none).set i (some x)).set j (some y))) := rfl
def kLc (xs : Res (List D)) (tg : Tg) (cnd : Eo) (elt : E) (ρ : Env) : Res D := xs.bind fun xs => (lcGo (lcF cf tg cnd elt ρ) xs).bind fun ys => ok (.lst ys)
theorem kLc_ok (xs : List D) (tg : Tg) (cnd : Eo) (elt : E) (ρ : Env) : kLc cf (ok xs) tg cnd elt ρ = kL (lcGo (lcF cf tg cnd elt ρ) xs) := rfl
theorem v_c (d : D) (ρ : Env) : ev cf (.c d) ρ = ok d := by simp only [ev]
theorem v_v (i : Nat) (ρ : Env) : ev cf (.v i) ρ = ρ.get i := by simp only [ev]
theorem v_tup (es : Es) (ρ : Env) : ev cf (.tup es) ρ = kT (evs cf es ρ) := by simp only [ev]; rfl
theorem v_lst (es : Es) (ρ : Env) : ev cf (.lst es) ρ = kL (evs cf es ρ) := by simp only [ev]; rfl
theorem v_dnew (t : Bool) (ρ : Env) : ev cf (.dnew t) ρ = ok (.dic [] []) := by simp only [ev]
theorem v_bin (op : Op) (a b : E) (ρ : Env) : ev cf (.bin op a b) ρ = k2 (opD op) (ev cf a ρ) (ev cf b ρ) := by simp only [ev]; rfl
theorem v_neg (a : E) (ρ : Env) : ev cf (.neg a) ρ = kNeg (ev cf a ρ) := by simp only [ev]; rfl
theorem v_cmp (op : COp) (a b : E) (ρ : Env) : ev cf (.cmp op a b) ρ = k2 (cmpD op) (ev cf a ρ) (ev cf b ρ) := by simp only [ev]; rfl
theorem v_cmp2 (o p : COp) (a b c : E) (ρ : Env) : ev cf (.cmp2 o p a b c) ρ = kCmp2 o p (ev cf a ρ) (ev cf b ρ) (ev cf c ρ) := by simp only [ev]; rfl
theorem v_and (es : Es) (ρ : Env) : ev cf (.and es) ρ = evAnd cf es ρ := by simp only [ev]
theorem v_or (es : Es) (ρ : Env) : ev cf (.or es) ρ = evOr cf es ρ := by simp only [ev]
theorem v_and1 (e : E) (ρ : Env) : evAnd cf (.cons e .nil) ρ = kLast (ev cf e ρ) := by simp only [evAnd]; rfl
theorem v_and2 (e f : E) (es : Es) (ρ : Env) : evAnd cf (.cons e (.cons f es)) ρ = kTst (ev cf e ρ) (evAnd cf (.cons f es) ρ) (ok (.bl false)) := by simp only [evAnd]; rfl
theorem v_or1 (e : E) (ρ : Env) : evOr cf (.cons e .nil) ρ = kLast (ev cf e ρ) := by simp only [evOr]; rfl
theorem v_or2 (e f : E) (es : Es) (ρ : Env) : evOr cf (.cons e (.cons f es)) ρ = kTst (ev cf e ρ) (ok (.bl true)) (evOr cf (.cons f es) ρ) := by simp only [evOr]; rfl
theorem v_not (a : E) (ρ : Env) : ev cf (.not a) ρ = kNot (ev cf a ρ) := by simp only [ev]; rfl
theorem v_ite (t a b : E) (ρ : Env) : ev cf (.ite t a b) ρ = kTst (ev cf t ρ) (ev cf a ρ) (ev cf b ρ) := by simp only [ev]; rfl
theorem v_call (f : Nat) (es : Es) (ρ : Env) : ev cf (.call f es) ρ = kCall cf f (evs cf es ρ) := by simp only [ev]; rfl
theorem v_b1 (f : B1) (a : E) (ρ : Env) : ev cf (.b1 f a) ρ = k1 (b1D f) (ev cf a ρ) := by simp only [ev]; rfl
theorem v_b2 (f : B2) (a b : E) (ρ : Env) : ev cf (.b2 f a b) ρ = k2 (b2D f) (ev cf a ρ) (ev cf b ρ) := by simp only [ev]; rfl
theorem v_isi (a : E) (ts : List Ty) (ρ : Env) : ev cf (.isi a ts) ρ = k1 (isiD ts) (ev cf a ρ) := by simp only [ev]; rfl
theorem v_m1 (m : M1) (o a : E) (ρ : Env) : ev cf (.m1 m o a) ρ = kM1 m (ev cf o ρ) (ev cf a ρ) := by simp only [ev]; rfl
theorem v_m2 (m : M2) (o a b : E) (ρ : Env) : ev cf (.m2 m o a b) ρ = kM2 m (ev cf o ρ) (ev cf a ρ) (ev cf b ρ) := by simp only [ev]; rfl
theorem v_ix (a b : E) (ρ : Env) : ev cf (.ix a b) ρ = k2 ixD (ev cf a ρ) (ev cf b ρ) := by simp only [ev]; rfl
theorem v_kix (ss : List St) (a : E) (ρ : Env) : ev cf (.kix ss a) ρ = k1 (kixD ss) (ev cf a ρ) := by simp only [ev]; rfl
theorem v_sl (a : E) (lo hi : Eo) (ρ : Env) : ev cf (.sl a lo hi) ρ = kSl (ev cf a ρ) (evo cf lo ρ) (evo cf hi ρ) := by simp only [ev]; rfl
theorem v_rev (a : E) (ρ : Env) : ev cf (.rev a) ρ = k1 revD (ev cf a ρ) := by simp only [ev]; rfl
theorem v_lc (tg : Tg) (src : Src) (cnd : Eo) (elt : E) (ρ : Env) : ev cf (.lc tg src cnd elt) ρ = kLc cf (its cf src ρ) tg cnd elt ρ := by
  simp only [ev, kLc]
  rfl
theorem v_nil (ρ : Env) : evs cf .nil ρ = ok [] := by simp only [evs]
theorem v_cons (e : E) (es : Es) (ρ : Env) : evs cf (.cons e es) ρ = kCons (ev cf e ρ) (evs cf es ρ) := by simp only [evs]; rfl
theorem v_no (ρ : Env) : evo cf .no ρ = ok none := by simp only [evo]
theorem v_yes (e : E) (ρ : Env) : evo cf (.yes e) ρ = kSome (ev cf e ρ) := by simp only [evo]; rfl
theorem v_cno (ρ : Env) : evc cf .no ρ = ok true := by simp only [evc]
theorem v_cyes (e : E) (ρ : Env) : evc cf (.yes e) ρ = kBool (ev cf e ρ) := by simp only [evc]; rfl
theorem v_e (a : E) (ρ : Env) : its cf (.e a) ρ = kIt (ev cf a ρ) := by simp only [its]; rfl
theorem v_r1 (a : E) (ρ : Env) : its cf (.r1 a) ρ = kR1 (ev cf a ρ) := by simp only [its]; rfl
theorem v_r2 (a b : E) (ρ : Env) : its cf (.r2 a b) ρ = kR2 (ev cf a ρ) (ev cf b ρ) := by simp only [its]; rfl
theorem v_enum (a : E) (ρ : Env) : its cf (.enum a) ρ = kEn (ev cf a ρ) := by simp only [its]; rfl
theorem v_zip (a b : E) (ρ : Env) : its cf (.zip a b) ρ = kZip (ev cf a ρ) (ev cf b ρ) := by simp only [its]; rfl
theorem v_dsp (k a : E) (ρ : Env) : ev cf (.dsp k a) ρ = k2 dspD (ev cf k ρ) (ev cf a ρ) := by simp only [ev]; rfl
theorem v_zl (a b : E) (ρ : Env) : ev cf (.zl a b) ρ = k2 zlD (ev cf a ρ) (ev cf b ρ) := by simp only [ev]; rfl
theorem v_vb (f : B1) (a : E) (ρ : Env) : ev cf (.vb f a) ρ = k1 (vbD f) (ev cf a ρ) := by simp only [ev]; rfl
def kDk (f : D → Option (List D)) (x : Res D) : Res (List D) := x.bind fun x => ofO (f x)
theorem kDk_keys (ks vs : List D) : kDk keysOf (ok (.dic ks vs)) = ok ks := rfl
theorem kDk_vals (ks vs : List D) : kDk valsOf (ok (.dic ks vs)) = ok vs := rfl
theorem kDk_itms (ks vs : List D) : kDk itmsOf (ok (.dic ks vs)) = ok (zipL ks vs) := rfl
theorem v_keys (a : E) (ρ : Env) : its cf (.keys a) ρ = kDk keysOf (ev cf a ρ) := by simp only [its]; rfl
theorem v_vals (a : E) (ρ : Env) : its cf (.vals a) ρ = kDk valsOf (ev cf a ρ) := by simp only [its]; rfl
theorem v_itms (a : E) (ρ : Env) : its cf (.itms a) ρ = kDk itmsOf (ev cf a ρ) := by simp only [its]; rfl
/-! statements -/
def sq (a : Fl) (ss : Ss) : Fl := match a with
  | .next ρ => exSs cf ss ρ
  | .ret d => .ret d
  | .err c ρ => .err c ρ
  | .bad => .bad
theorem sq_next (ρ : Env) (ss : Ss) : sq cf (.next ρ) ss = exSs cf ss ρ := rfl
theorem sq_ret (d : D) (ss : Ss) : sq cf (.ret d) ss = .ret d := rfl
theorem sq_err (c : Nat) (ρ : Env) (ss : Ss) : sq cf (.err c ρ) ss = .err c ρ := rfl
theorem sq_ite {c : Prop} [Decidable c] (a b : Fl) (ss : Ss) : sq cf (if c then a else b) ss = if c then sq cf a ss else sq cf b ss := by split <;> rfl
theorem sq_nil (a : Fl) : sq cf a .nil = a := by cases a <;> simp [sq, exSs]
theorem xs_nil (ρ : Env) : exSs cf .nil ρ = .next ρ := by simp only [exSs]
theorem xs_cons (s : S) (ss : Ss) (ρ : Env) : exSs cf (.cons s ss) ρ = sq cf (exS cf s ρ) ss := by
  simp only [exSs, sq]
  cases exS cf s ρ <;> rfl
def kAsg (r : Res D) (ρ : Env) (i : Nat) : Fl := thn r ρ fun d => .next (ρ.set i (some d))
theorem kAsg_ok (d : D) (ρ : Env) (i : Nat) : kAsg (ok d) ρ i = .next (ρ.set i (some d)) := rfl
theorem kAsg_err (c : Nat) (ρ : Env) (i : Nat) : kAsg (.err c) ρ i = .err c ρ := rfl
theorem x_asg (i : Nat) (e : E) (ρ : Env) : exS cf (.asg i e) ρ = kAsg (ev cf e ρ) ρ i := by simp only [exS]; rfl
def kAsgo (r : Res D) (ρ : Env) (i : Nat) : Fl := thn r ρ fun d => if isCtn d then .next (ρ.set i (some d)) else .bad
theorem kAsgo_lst (d : List D) (ρ : Env) (i : Nat) : kAsgo (ok (.lst d)) ρ i = .next (ρ.set i (some (.lst d))) := rfl
theorem kAsgo_dic (d e : List D) (ρ : Env) (i : Nat) : kAsgo (ok (.dic d e)) ρ i = .next (ρ.set i (some (.dic d e))) := rfl
theorem x_asgo (i : Nat) (e : E) (ρ : Env) : exS cf (.asgo i e) ρ = kAsgo (ev cf e ρ) ρ i := by simp only [exS]; rfl
def kMv (r : Res D) (ρ : Env) (i j : Nat) : Fl := thn r ρ fun d => .next ((ρ.set j none).set i (some d))
theorem kMv_ok (d : D) (ρ : Env) (i j : Nat) : kMv (ok d) ρ i j = .next ((ρ.set j none).set i (some d)) := rfl
theorem x_mv (i j : Nat) (ρ : Env) : exS cf (.mv i j) ρ = kMv (ρ.get j) ρ i j := by simp only [exS]; rfl
def kTup (r : Res D) (ρ : Env) (is : List Nat) : Fl := thn r ρ fun d => match d with
  | .tup ds => (match setAll ρ is ds with
    | some ρ' => .next ρ'
    | none => .bad)
  | _ => .bad
theorem kTup2 (ρ : Env) (i j : Nat) (x y : D) : kTup (ok (.tup [x, y])) ρ [i, j] = .next ((ρ.set i (some x)).set j (some y)) := rfl
theorem kTup3 (ρ : Env) (i j k : Nat) (x y z : D) : kTup (ok (.tup [x, y, z])) ρ [i, j, k] = .next (((ρ.set i (some x)).set j (some y)).set k (some z)) := rfl
theorem x_unp (is : List Nat) (e : E) (ρ : Env) : exS cf (.unp is e) ρ = kTup (ev cf e ρ) ρ is := by simp only [exS]; rfl
theorem x_par (is : List Nat) (es : Es) (ρ : Env) : exS cf (.par is es) ρ = kTup (kT (evs cf es ρ)) ρ is := by simp only [exS]; rfl
def kApp (l r : Res D) (ρ : Env) (i : Nat) : Fl := thn l ρ fun l => match l with
  | .lst xs => thn r ρ fun d => if xs.length < big then .next (ρ.set i (some (.lst (xs ++ [d])))) else .bad
  | _ => .bad
theorem kApp_ok (xs : List D) (d : D) (ρ : Env) (i : Nat) (h : xs.length < big) : kApp (ok (.lst xs)) (ok d) ρ i = .next (ρ.set i (some (.lst (xs ++ [d])))) := if_pos h
theorem x_app (i : Nat) (e : E) (ρ : Env) : exS cf (.app i e) ρ = kApp (ρ.get i) (ev cf e ρ) ρ i := by simp only [exS]; rfl
def kAppo (l r : Res D) (ρ : Env) (i j : Nat) : Fl := thn l ρ fun l => match l with
  | .lst xs => thn r ρ fun d => if xs.length < big then .next ((ρ.set j none).set i (some (.lst (xs ++ [d])))) else .bad
  | _ => .bad
theorem kAppo_ok (xs : List D) (d : D) (ρ : Env) (i j : Nat) (h : xs.length < big) : kAppo (ok (.lst xs)) (ok d) ρ i j = .next ((ρ.set j none).set i (some (.lst (xs ++ [d])))) := if_pos h
theorem x_appo (i j : Nat) (ρ : Env) : exS cf (.appo i j) ρ = kAppo (ρ.get i) (ρ.get j) ρ i j := by simp only [exS]; rfl
def kExt (l r : Res D) (ρ : Env) (i : Nat) : Fl := thn l ρ fun l => match l with
  | .lst xs => thn r ρ fun d => match d with
    | .lst ys => if xs.length + ys.length ≤ big then .next (ρ.set i (some (.lst (xs ++ ys)))) else .bad
    | _ => .bad
  | _ => .bad
theorem kExt_ok (xs ys : List D) (ρ : Env) (i : Nat) (h : xs.length + ys.length ≤ big) : kExt (ok (.lst xs)) (ok (.lst ys)) ρ i = .next (ρ.set i (some (.lst (xs ++ ys)))) := if_pos h
theorem x_ext (i : Nat) (e : E) (ρ : Env) : exS cf (.ext i e) ρ = kExt (ρ.get i) (ev cf e ρ) ρ i := by simp only [exS]; rfl
def kPut (d l k : Res D) (ρ : Env) (i : Nat) : Fl := thn d ρ fun d => thn l ρ fun l => match l with
  | .dic ks vs => thn k ρ fun x => if isKey x && decide (ks.length < big) then .next (ρ.set i (some (.dic (dput x d ks vs).1 (dput x d ks vs).2))) else .bad
  | _ => .bad
theorem kPut_ok (d x : D) (ks vs : List D) (ρ : Env) (i : Nat) (hk : isKey x = true) (h : ks.length < big) : kPut (ok d) (ok (.dic ks vs)) (ok x) ρ i = .next (ρ.set i (some (.dic (dput x d ks vs).1 (dput x d ks vs).2))) := if_pos (by rw [hk, decide_eq_true h]; rfl)
theorem x_put (i : Nat) (k e : E) (ρ : Env) : exS cf (.put i k e) ρ = kPut (ev cf e ρ) (ρ.get i) (ev cf k ρ) ρ i := by simp only [exS]; rfl
def kDpop (l k : Res D) (ρ : Env) (i : Nat) : Fl := thn l ρ fun l => match l with
  | .dic ks vs => thn k ρ fun x => if isKey x && (dget x ks vs).isSome then .next (ρ.set i (some (.dic (dropKs x ks vs) (dropVs x ks vs)))) else .bad
  | _ => .bad
theorem kDpop_ok (x : D) (ks vs : List D) (ρ : Env) (i : Nat) (hk : isKey x = true) (h : (dget x ks vs).isSome = true) : kDpop (ok (.dic ks vs)) (ok x) ρ i = .next (ρ.set i (some (.dic (dropKs x ks vs) (dropVs x ks vs)))) := if_pos (by rw [hk, h]; rfl)
theorem x_dpop (i : Nat) (k : E) (ρ : Env) : exS cf (.dpop i k) ρ = kDpop (ρ.get i) (ev cf k ρ) ρ i := by simp only [exS]; rfl
def kEx (r : Res D) (ρ : Env) : Fl := thn r ρ fun _ => .next ρ
theorem kEx_ok (d : D) (ρ : Env) : kEx (ok d) ρ = .next ρ := rfl
theorem kEx_err (c : Nat) (ρ : Env) : kEx (.err c) ρ = .err c ρ := rfl
theorem x_ex (e : E) (ρ : Env) : exS cf (.ex e) ρ = kEx (ev cf e ρ) ρ := by simp only [exS]; rfl
def kRet (r : Res D) (ρ : Env) : Fl := thn r ρ fun d => .ret d
theorem kRet_ok (d : D) (ρ : Env) : kRet (ok d) ρ = .ret d := rfl
theorem kRet_err (c : Nat) (ρ : Env) : kRet (.err c) ρ = .err c ρ := rfl
theorem x_ret (e : E) (ρ : Env) : exS cf (.ret e) ρ = kRet (ev cf e ρ) ρ := by simp only [exS]; rfl
theorem x_retN (ρ : Env) : exS cf .retN ρ = .ret .non := by simp only [exS]
theorem x_rse (c : Nat) (ρ : Env) : exS cf (.rse c) ρ = .err c ρ := by simp only [exS]
theorem x_pass (ρ : Env) : exS cf .pass ρ = .next ρ := by simp only [exS]
def kIte (r : Res D) (ρ : Env) (a b : Ss) : Fl := thn r ρ fun d => match d with
  | .bl true => exSs cf a ρ
  | .bl false => exSs cf b ρ
  | _ => .bad
theorem kIte_t (ρ : Env) (a b : Ss) : kIte cf (ok (.bl true)) ρ a b = exSs cf a ρ := rfl
theorem kIte_f (ρ : Env) (a b : Ss) : kIte cf (ok (.bl false)) ρ a b = exSs cf b ρ := rfl
theorem kIte_bl (k : Bool) (ρ : Env) (a b : Ss) : kIte cf (ok (.bl k)) ρ a b = if k = true then exSs cf a ρ else exSs cf b ρ := by cases k <;> rfl
theorem x_ite (c : E) (a b : Ss) (ρ : Env) : exS cf (.ite c a b) ρ = kIte cf (ev cf c ρ) ρ a b := by simp only [exS]; rfl
def bdy (tg : Tg) (b : Ss) (x : D) (ρ : Env) : Fl := match tg.bind x ρ with
  | some ρ' => exSs cf b ρ'
  | none => .bad
theorem bdy_nm (i : Nat) (b : Ss) (x : D) (ρ : Env) : bdy cf (.nm i) b x ρ = exSs cf b (ρ.set i (some x)) := rfl
theorem bdy_tp2 (i j : Nat) (b : Ss) (x y : D) (ρ : Env) : bdy cf (.tp [i, j]) b (.tup [x, y]) ρ = exSs cf b ((ρ.set i (some x)).set j (some y)) := rfl
def kFor (r : Res (List D)) (tg : Tg) (b : Ss) (ρ : Env) : Fl := match r with
  | .ok xs => forGo (bdy cf tg b) xs ρ
  | .err c => .err c ρ
  | .bad => .bad
theorem kFor_ok (xs : List D) (tg : Tg) (b : Ss) (ρ : Env) : kFor cf (ok xs) tg b ρ = forGo (bdy cf tg b) xs ρ := rfl
theorem x_for (tg : Tg) (src : Src) (b : Ss) (ρ : Env) : exS cf (.for_ tg src b) ρ = kFor cf (its cf src ρ) tg b ρ := by simp only [exS]; rfl
def kWh (c : E) (b : Ss) (k : Nat) (ρ : Env) : Fl := whGo (fun ρ => ev cf c ρ) (fun ρ => exSs cf b ρ) k ρ
def kGrp (r : Res D) (i t : Nat) (src : Src) (k : E) (ρ : Env) : Fl := match r with
    | .ok (.dic [] []) => (match its cf src (ρ.set i none) with
      | .ok xs => (match grpGo t (fun ρ => ev cf k ρ) xs (ρ.set i none) [] [] with
        | .ok (ρ', ks, vs) => .next (ρ'.set i (some (.dic ks vs)))
        | _ => .bad)
      | _ => .bad)
    | _ => .bad
theorem x_grp (i t : Nat) (src : Src) (k : E) (ρ : Env) : exS cf (.grp i t src k) ρ = kGrp cf (ρ.get i) i t src k ρ := by
  simp only [exS]
  rfl
theorem kGrp_ok {i t : Nat} {src : Src} {k : E} {ρ ρ' : Env} {xs ks vs : List D} (h1 : its cf src (ρ.set i none) = ok xs) (h2 : grpGo t (fun ρ => ev cf k ρ) xs (ρ.set i none) [] [] = ok (ρ', ks, vs)) : kGrp cf (ok (.dic [] [])) i t src k ρ = .next (ρ'.set i (some (.dic ks vs))) := by
  simp only [kGrp, h1, h2]
theorem x_whl (c : E) (b : Ss) (ρ : Env) : exS cf (.whl c b) ρ = kWh cf c b whileMax ρ := by simp only [exS]; rfl
theorem wh_end {c : E} {b : Ss} {k : Nat} {ρ : Env} (h : ev cf c ρ = ok (.bl false)) : kWh cf c b (k + 1) ρ = .next ρ := by
  unfold kWh
  simp only [whGo, h, bind_ok, asBool]
theorem wh_next {c : E} {b : Ss} {k : Nat} {ρ ρ' : Env} (h : ev cf c ρ = ok (.bl true)) (hb : exSs cf b ρ = .next ρ') : kWh cf c b (k + 1) ρ = kWh cf c b k ρ' := by
  unfold kWh
  simp only [whGo, h, bind_ok, asBool, hb]
theorem wh_ret {c : E} {b : Ss} {k : Nat} {ρ : Env} {d : D} (h : ev cf c ρ = ok (.bl true)) (hb : exSs cf b ρ = .ret d) : kWh cf c b (k + 1) ρ = .ret d := by
  unfold kWh
  simp only [whGo, h, bind_ok, asBool, hb]
end
/-! operations at known values -/
theorem g_hit (d : D) (ρ : Env) : Env.get (some d :: ρ) 0 = ok d := rfl
theorem g_next (o : Option D) (ρ : Env) (i : Nat) : Env.get (o :: ρ) (i + 1) = Env.get ρ i := rfl
theorem len_str (s : St) : b1D .len (.str s) = ok (.int s.length) := rfl
theorem len_lst (s : List D) : b1D .len (.lst s) = ok (.int s.length) := rfl
theorem len_tup (s : List D) : b1D .len (.tup s) = ok (.int s.length) := rfl
theorem len_dic (s t : List D) : b1D .len (.dic s t) = ok (.int s.length) := rfl
theorem all_lst {α : Type} (l : List α) (p : α → Bool) : b1D .all (.lst (l.map fun x => .bl (p x))) = ok (.bl (l.all p)) := by
  simp only [b1D, bools_map, Option.map_some, ofO]
  congr 2
  induction l with
  | nil => rfl
  | cons x r ih => simp [ih]
theorem any_lst {α : Type} (l : List α) (p : α → Bool) : b1D .any (.lst (l.map fun x => .bl (p x))) = ok (.bl (l.any p)) := by
  simp only [b1D, bools_map, Option.map_some, ofO]
  congr 2
  induction l with
  | nil => rfl
  | cons x r ih => simp [ih]
theorem sum_lst {α : Type} (l : List α) (p : α → Int) : b1D .sum (.lst (l.map fun x => .int (p x))) = ok (.int (l.map p).sum) := by
  simp only [b1D, intsD_map, Option.map_some, ofO]
theorem list_lst (l : List D) : b1D .list (.lst l) = ok (.lst l) := rfl
theorem list_tup (l : List D) : b1D .list (.tup l) = ok (.lst l) := rfl
theorem tuple_lst (l : List D) : b1D .tuple (.lst l) = ok (.tup l) := rfl
theorem tuple_tup (l : List D) : b1D .tuple (.tup l) = ok (.tup l) := rfl
theorem eq_str (a b : St) : eqD (.str a) (.str b) = ok (a == b) := rfl
theorem eq_int (a b : Int) : eqD (.int a) (.int b) = ok (a == b) := rfl
theorem eq_bl (a b : Bool) : eqD (.bl a) (.bl b) = ok (a == b) := rfl
theorem in_str (c : Nat) (s : St) : inD (.str [c]) (.str s) = ok (decide (c ∈ s)) := rfl
theorem in_dic (x : St) (ks vs : List D) : inD (.str x) (.dic ks vs) = ok (dget (.str x) ks vs).isSome := rfl
theorem c_eq (x y : D) : cmpD .eq x y = mapB id (eqD x y) := rfl
theorem c_ne (x y : D) : cmpD .ne x y = mapB (!·) (eqD x y) := rfl
theorem c_in (x y : D) : cmpD .inn x y = mapB id (inD x y) := rfl
theorem c_nin (x y : D) : cmpD .notin x y = mapB (!·) (inD x y) := rfl
theorem c_is (x y : D) : cmpD .is x y = mapB id (isD x y) := rfl
theorem c_isn (x y : D) : cmpD .isnot x y = mapB (!·) (isD x y) := rfl
theorem c_lt (i j : Int) : cmpD .lt (.int i) (.int j) = ok (.bl (decide (i < j))) := rfl
theorem c_le (i j : Int) : cmpD .le (.int i) (.int j) = ok (.bl (decide (i ≤ j))) := rfl
theorem c_gt (i j : Int) : cmpD .gt (.int i) (.int j) = ok (.bl (decide (j < i))) := rfl
theorem c_ge (i j : Int) : cmpD .ge (.int i) (.int j) = ok (.bl (decide (j ≤ i))) := rfl
theorem c_les (i j : St) : cmpD .le (.str i) (.str j) = ok (.bl (!decide (j < i))) := rfl
theorem c_lts (i j : St) : cmpD .lt (.str i) (.str j) = ok (.bl (decide (i < j))) := rfl
theorem isn_n : isD .non .non = ok true := rfl
theorem isn_str (s : St) : isD (.str s) .non = ok false := rfl
theorem isn_int (s : Int) : isD (.int s) .non = ok false := rfl
theorem isn_lst (s : List D) : isD (.lst s) .non = ok false := rfl
theorem isn_tup (s : List D) : isD (.tup s) .non = ok false := rfl
theorem isn_bl (s : Bool) : isD (.bl s) .non = ok false := rfl
theorem isb_bl (s t : Bool) : isD (.bl s) (.bl t) = ok (s == t) := rfl
theorem isi_str (s : St) : isiD [.str] (.str s) = ok (.bl true) := rfl
theorem isi_tup (s : List D) : isiD [.tuple] (.tup s) = ok (.bl true) := rfl
theorem isi_lst (s : List D) : isiD [.list] (.lst s) = ok (.bl true) := rfl
theorem isi_int (s : Int) : isiD [.int] (.int s) = ok (.bl true) := rfl
theorem isi_intb (s : Int) : isiD [.bool] (.int s) = ok (.bl false) := rfl
theorem isi_bb (s : Bool) : isiD [.bool] (.bl s) = ok (.bl true) := rfl
theorem ix_t0 (a : D) (r : List D) : ixD (.tup (a :: r)) (.int 0) = ok a := by
  simp only [ixD, atI, ixN]
  rw [if_pos (by omega), if_pos (by simp <;> omega)]
  rfl
theorem ix_t1 (a b : D) (r : List D) : ixD (.tup (a :: b :: r)) (.int 1) = ok b := by
  simp only [ixD, atI, ixN]
  rw [if_pos (by omega), if_pos (by simp <;> omega)]
  rfl
theorem ix_l0 (a : D) (r : List D) : ixD (.lst (a :: r)) (.int 0) = ok a := by
  simp only [ixD, atI, ixN]
  rw [if_pos (by omega), if_pos (by simp <;> omega)]
  rfl
theorem op_addi (i j : Int) : opD .add (.int i) (.int j) = ok (.int (i + j)) := rfl
theorem op_subi (i j : Int) : opD .sub (.int i) (.int j) = ok (.int (i - j)) := rfl
theorem its_str (s : St) : itemsOf (.str s) = some (s.map chD) := rfl
theorem its_lst (s : List D) : itemsOf (.lst s) = some s := rfl
theorem its_tup (s : List D) : itemsOf (.tup s) = some s := rfl
theorem itE_str (s : St) : itemsE (.str s) = some (s.map chD) := rfl
theorem itE_lst (s : List D) : itemsE (.lst s) = some s := rfl
theorem m_join (sep : St) {α : Type} (l : List α) (p : α → St) (h : (l.map fun x => (p x).length).sum + sep.length * l.length ≤ big) : m1D .join (.str sep) (.lst (l.map fun x => .str (p x))) = ok (.str (joinL sep (l.map p))) := by
  simp only [m1D, strsD_map, List.map_map, List.length_map]
  exact if_pos h
theorem rcv_str (m : M1) (s : St) : rcv1 m (.str s) = true := by cases m <;> rfl
theorem join_nil : ∀ l : List St, joinL [] l = l.flatten
  | [] => rfl
  | [x] => by simp [joinL]
  | x :: y :: r => by
    have := join_nil (y :: r)
    simp only [joinL] at this ⊢
    simp [this]
theorem len_tup2 (a b : D) : b1D .len (.tup [a, b]) = ok (.int 2) := rfl
theorem dsp_int (i : Int) (v : D) : dspD (.int i) v = ok (.dic [.int i] [v]) := rfl
theorem zl_sl (s : St) (ys : List D) : zlD (.str s) (.lst ys) = ok (.lst (zipL (s.map chD) ys)) := rfl
theorem sl_str (l h : Option Int) (s : St) : slD l h (.str s) = ok (.str (cut s l h)) := rfl
theorem sl_lst (l h : Option Int) (s : List D) : slD l h (.lst s) = ok (.lst (cut s l h)) := rfl
theorem sl_tup (l h : Option Int) (s : List D) : slD l h (.tup s) = ok (.tup (cut s l h)) := rfl
theorem exL : (type_of% @xs_nil) ∧ (type_of% @xs_cons) ∧ (type_of% @x_asg) ∧ (type_of% @x_asgo) ∧ (type_of% @x_mv) ∧ (type_of% @x_unp) ∧ (type_of% @x_par) ∧ (type_of% @x_app) ∧ (type_of% @x_ext) ∧ (type_of% @x_put) ∧ (type_of% @x_dpop) ∧ (type_of% @x_ex) ∧ (type_of% @x_ret) ∧ (type_of% @x_retN) ∧ (type_of% @x_rse) ∧ (type_of% @x_pass) ∧ (type_of% @x_ite) ∧ (type_of% @x_for) ∧ (type_of% @x_whl) ∧ (type_of% @v_c) ∧ (type_of% @v_v) ∧ (type_of% @v_tup) ∧ (type_of% @v_lst) ∧ (type_of% @v_dnew) ∧ (type_of% @v_bin) ∧ (type_of% @v_neg) ∧ (type_of% @v_cmp) ∧ (type_of% @v_cmp2) ∧ (type_of% @v_and) ∧ (type_of% @v_or) ∧ (type_of% @v_and1) ∧ (type_of% @v_and2) ∧ (type_of% @v_or1) ∧ (type_of% @v_or2) ∧ (type_of% @v_not) ∧ (type_of% @v_ite) ∧ (type_of% @v_call) ∧ (type_of% @v_b1) ∧ (type_of% @v_b2) ∧ (type_of% @v_isi) ∧ (type_of% @v_m1) ∧ (type_of% @v_m2) ∧ (type_of% @v_ix) ∧ (type_of% @v_sl) ∧ (type_of% @v_kix) ∧ (type_of% @v_rev) ∧ (type_of% @v_lc) ∧ (type_of% @v_nil) ∧ (type_of% @v_cons) ∧ (type_of% @v_no) ∧ (type_of% @v_yes) ∧ (type_of% @v_cno) ∧ (type_of% @v_cyes) ∧ (type_of% @v_e) ∧ (type_of% @v_r1) ∧ (type_of% @v_r2) ∧ (type_of% @v_enum) ∧ (type_of% @v_zip) ∧ (type_of% @k1_ok) ∧ (type_of% @k2_ok) ∧ (type_of% @kT_ok) ∧ (type_of% @kL_ok) ∧ (type_of% @kCons_ok) ∧ (type_of% @kNeg_ok) ∧ (type_of% @kNot_ok) ∧ (type_of% @kTst_ok) ∧ (type_of% @kCmp2_ok) ∧ (type_of% @kLast_ok) ∧ (type_of% @kCall_ok) ∧ (type_of% @kM1_ok) ∧ (type_of% @kM2_ok) ∧ (type_of% @kSl_ok) ∧ (type_of% @kSome_ok) ∧ (type_of% @kBool_ok) ∧ (type_of% @kIt_ok) ∧ (type_of% @kR1_ok) ∧ (type_of% @kR2_ok) ∧ (type_of% @kEn_str) ∧ (type_of% @kEn_lst) ∧ (type_of% @kZip_ok) ∧ (type_of% @kZip_str) ∧ (type_of% @lcK_t) ∧ (type_of% @lcK_f) ∧ (type_of% @lcK_ok) ∧ (type_of% @lcF_nm) ∧ (type_of% @lcF_tp2) ∧ (type_of% @kLc_ok) ∧ (type_of% @sq_next) ∧ (type_of% @sq_ret) ∧ (type_of% @sq_err) ∧ (type_of% @sq_nil) ∧ (type_of% @kAsg_ok) ∧ (type_of% @kAsg_err) ∧ (type_of% @kAsgo_lst) ∧ (type_of% @kAsgo_dic) ∧ (type_of% @kMv_ok) ∧ (type_of% @kTup2) ∧ (type_of% @kTup3) ∧ (type_of% @kApp_ok) ∧ (type_of% @kExt_ok) ∧ (type_of% @kPut_ok) ∧ (type_of% @kDpop_ok) ∧ (type_of% @kEx_ok) ∧ (type_of% @kEx_err) ∧ (type_of% @kRet_ok) ∧ (type_of% @kRet_err) ∧ (type_of% @kIte_t) ∧ (type_of% @kIte_f) ∧ (type_of% @kIte_bl) ∧ (type_of% @bdy_nm) ∧ (type_of% @bdy_tp2) ∧ (type_of% @kFor_ok) ∧ (type_of% @res_next) ∧ (type_of% @res_ret) ∧ (type_of% @res_err) ∧ (type_of% @ofO_some) ∧ (type_of% @ite_and) ∧ (type_of% @ite_or) ∧ (type_of% @mapB_ok) ∧ (type_of% @g_hit) ∧ (type_of% @g_next) ∧ (type_of% @len_str) ∧ (type_of% @len_lst) ∧ (type_of% @len_tup) ∧ (type_of% @len_dic) ∧ (type_of% @all_lst) ∧ (type_of% @any_lst) ∧ (type_of% @list_lst) ∧ (type_of% @list_tup) ∧ (type_of% @tuple_lst) ∧ (type_of% @tuple_tup) ∧ (type_of% @eq_str) ∧ (type_of% @eq_int) ∧ (type_of% @eq_bl) ∧ (type_of% @in_str) ∧ (type_of% @in_dic) ∧ (type_of% @c_eq) ∧ (type_of% @c_ne) ∧ (type_of% @c_in) ∧ (type_of% @c_nin) ∧ (type_of% @c_is) ∧ (type_of% @c_isn) ∧ (type_of% @c_lt) ∧ (type_of% @c_le) ∧ (type_of% @c_gt) ∧ (type_of% @c_ge) ∧ (type_of% @c_les) ∧ (type_of% @c_lts) ∧ (type_of% @isn_n) ∧ (type_of% @isn_str) ∧ (type_of% @isn_int) ∧ (type_of% @isn_lst) ∧ (type_of% @isn_tup) ∧ (type_of% @isn_bl) ∧ (type_of% @isb_bl) ∧ (type_of% @isi_str) ∧ (type_of% @isi_tup) ∧ (type_of% @isi_lst) ∧ (type_of% @isi_int) ∧ (type_of% @isi_intb) ∧ (type_of% @isi_bb) ∧ (type_of% @ix_t0) ∧ (type_of% @ix_t1) ∧ (type_of% @ix_l0) ∧ (type_of% @op_addi) ∧ (type_of% @op_subi) ∧ (type_of% @its_str) ∧ (type_of% @its_lst) ∧ (type_of% @its_tup) ∧ (type_of% @rcv_str) ∧ (type_of% @sl_str) ∧ (type_of% @sl_lst) ∧ (type_of% @kAppo_ok) ∧ (type_of% @x_appo) ∧ (type_of% @sl_tup) ∧ (type_of% @v_dsp) ∧ (type_of% @v_zl) ∧ (type_of% @v_vb) ∧ (type_of% @kDk_keys) ∧ (type_of% @kDk_vals) ∧ (type_of% @kDk_itms) ∧ (type_of% @v_keys) ∧ (type_of% @v_vals) ∧ (type_of% @v_itms) ∧ (type_of% @x_grp) ∧ (type_of% @kEn_tup) ∧ (type_of% @dsp_int) ∧ (type_of% @zl_sl) :=
  ⟨@xs_nil, @xs_cons, @x_asg, @x_asgo, @x_mv, @x_unp, @x_par, @x_app, @x_ext, @x_put, @x_dpop, @x_ex, @x_ret, @x_retN, @x_rse, @x_pass, @x_ite, @x_for, @x_whl, @v_c, @v_v, @v_tup, @v_lst, @v_dnew, @v_bin, @v_neg, @v_cmp, @v_cmp2, @v_and, @v_or, @v_and1, @v_and2, @v_or1, @v_or2, @v_not, @v_ite, @v_call, @v_b1, @v_b2, @v_isi, @v_m1, @v_m2, @v_ix, @v_sl, @v_kix, @v_rev, @v_lc, @v_nil, @v_cons, @v_no, @v_yes, @v_cno, @v_cyes, @v_e, @v_r1, @v_r2, @v_enum, @v_zip, @k1_ok, @k2_ok, @kT_ok, @kL_ok, @kCons_ok, @kNeg_ok, @kNot_ok, @kTst_ok, @kCmp2_ok, @kLast_ok, @kCall_ok, @kM1_ok, @kM2_ok, @kSl_ok, @kSome_ok, @kBool_ok, @kIt_ok, @kR1_ok, @kR2_ok, @kEn_str, @kEn_lst, @kZip_ok, @kZip_str, @lcK_t, @lcK_f, @lcK_ok, @lcF_nm, @lcF_tp2, @kLc_ok, @sq_next, @sq_ret, @sq_err, @sq_nil, @kAsg_ok, @kAsg_err, @kAsgo_lst, @kAsgo_dic, @kMv_ok, @kTup2, @kTup3, @kApp_ok, @kExt_ok, @kPut_ok, @kDpop_ok, @kEx_ok, @kEx_err, @kRet_ok, @kRet_err, @kIte_t, @kIte_f, @kIte_bl, @bdy_nm, @bdy_tp2, @kFor_ok, @res_next, @res_ret, @res_err, @ofO_some, @ite_and, @ite_or, @mapB_ok, @g_hit, @g_next, @len_str, @len_lst, @len_tup, @len_dic, @all_lst, @any_lst, @list_lst, @list_tup, @tuple_lst, @tuple_tup, @eq_str, @eq_int, @eq_bl, @in_str, @in_dic, @c_eq, @c_ne, @c_in, @c_nin, @c_is, @c_isn, @c_lt, @c_le, @c_gt, @c_ge, @c_les, @c_lts, @isn_n, @isn_str, @isn_int, @isn_lst, @isn_tup, @isn_bl, @isb_bl, @isi_str, @isi_tup, @isi_lst, @isi_int, @isi_intb, @isi_bb, @ix_t0, @ix_t1, @ix_l0, @op_addi, @op_subi, @its_str, @its_lst, @its_tup, @rcv_str, @sl_str, @sl_lst, @kAppo_ok, @x_appo, @sl_tup, @v_dsp, @v_zl, @v_vb, @kDk_keys, @kDk_vals, @kDk_itms, @v_keys, @v_vals, @v_itms, @x_grp, @kEn_tup, @dsp_int, @zl_sl⟩
end VE

/-! Tables, parts, sounds: no program here. -/
namespace VE
open Res
def smallS : St := [97, 98, 99, 100, 101, 102, 103, 104, 105, 106, 107, 108, 109, 110, 111, 112, 113, 114, 115, 116, 117, 118, 119, 120, 121, 122]
def vowS : St := [65, 69, 73, 79, 85]
def othS : St := [66, 68, 70, 71, 75, 76, 77, 78, 80, 82, 83, 84, 86, 90]
def isV (c : Nat) : Bool := decide (c ∈ vowS)
abbrev Tab := List (St × St)
structure Good (t : Tab) : Prop where
  ne : 1 ≤ t.length
  le : t.length ≤ 20
  srt : (t.map (·.1)).Pairwise (· < ·)
  key : ∀ r ∈ t, 1 ≤ r.1.length ∧ r.1.length ≤ 3 ∧ ∀ c ∈ r.1, c ∈ smallS
  val : ∀ r ∈ t, r.2.length ≤ 2 ∧ ∀ c ∈ r.2, c ∈ vowS ++ othS
  fit : ∀ r ∈ t, r.2.length ≤ r.1.length
def lookT {β : Type} : List (St × β) → St → Option β
  | [], _ => none
  | r :: t, k => if r.1 = k then some r.2 else lookT t k
/-! ### lists of texts: order -/
theorem st_irrefl (a : St) : ¬ a < a := List.lt_irrefl a
theorem st_asymm {a b : St} (h : a < b) : ¬ b < a := fun q => List.lt_irrefl a (List.lt_trans h q)
theorem ins_head {x : St} : ∀ {l : List St}, (∀ y ∈ l, x < y) → ins leD (.str x) (l.map .str) = (x :: l).map D.str
  | [], _ => rfl
  | y :: r, h => by
    have := h y List.mem_cons_self
    simp only [List.map_cons, ins, leD, ltD, decide_eq_false (st_asymm this), Bool.not_false, if_true]
theorem isort_strict : ∀ {l : List St}, l.Pairwise (· < ·) → isort leD (l.map .str) = l.map D.str
  | [], _ => rfl
  | x :: r, h => by
    rw [List.pairwise_cons] at h
    rw [List.map_cons, isort, isort_strict h.2, ins_head h.1]
    rfl
theorem dedup_strict : ∀ {l : List St}, l.Nodup → dedup (l.map .str) = l.map D.str
  | [], _ => rfl
  | x :: r, h => by
    rw [List.nodup_cons] at h
    rw [List.map_cons, dedup, dedup_strict h.2, if_neg]
    intro q
    obtain ⟨y, hy, e⟩ := List.any_eq_true.mp q
    obtain ⟨z, hz, rfl⟩ := List.mem_map.mp hy
    have : x = z := by simpa [eqv] using e
    exact h.1 (this ▸ hz)
theorem strict_nodup {l : List St} (h : l.Pairwise (· < ·)) : l.Nodup := by
  unfold List.Nodup
  refine h.imp ?_
  intro a b q e
  subst e
  exact st_irrefl a q
theorem all_isStr (l : List St) : (l.map D.str).all isStr = true := by
  rw [List.all_eq_true]
  intro x hx
  obtain ⟨y, _, rfl⟩ := List.mem_map.mp hx
  rfl
theorem plains_str : ∀ l : List St, plains (l.map D.str) = true
  | [] => by simp [plains]
  | x :: r => by simp [plains, plain, plains_str r]
theorem deeps_str : ∀ l : List St, deeps (l.map D.str) = 0
  | [] => by simp [deeps]
  | x :: r => by simp [deeps, deep, deeps_str r]
theorem eqvs_refl_str : ∀ l : List St, eqvs (l.map D.str) (l.map D.str) = true
  | [] => by simp [eqvs]
  | x :: r => by simp [eqvs, eqv, eqvs_refl_str r]
theorem eqvs_str : ∀ l m : List St, eqvs (l.map D.str) (m.map D.str) = (l == m)
  | [], [] => by simp [eqvs]
  | [], _ :: _ => by simp [eqvs]
  | _ :: _, [] => by simp [eqvs]
  | x :: r, y :: q => by simp only [List.map_cons, eqvs, eqv, eqvs_str r q]; rfl
theorem eq_strs (l m : List St) : eqD (.lst (l.map D.str)) (.lst (m.map D.str)) = ok (l == m) := by
  simp only [eqD, eqScr, plain, plains_str, deep, deeps_str, Bool.and_self, Bool.true_and]
  rw [if_pos (by simp), eqv, eqvs_str]
theorem plains_int : ∀ l : List Int, plains (l.map D.int) = true
  | [] => by simp [plains]
  | x :: r => by simp [plains, plain, plains_int r]
theorem deeps_int : ∀ l : List Int, deeps (l.map D.int) = 0
  | [] => by simp [deeps]
  | x :: r => by simp [deeps, deep, deeps_int r]
theorem any_int (j : Int) : ∀ l : List Int, ((l.map D.int).any fun y => eqv y (.int j)) = decide (j ∈ l)
  | [] => by simp
  | x :: r => by
    rw [List.map_cons, List.any_cons, any_int j r, eqv]
    by_cases e : x = j
    · subst e; simp
    · have e' : ¬ j = x := fun q => e q.symm
      simp [e, e']
theorem in_ints (j : Int) (l : List Int) : inD (.int j) (.lst (l.map D.int)) = ok (decide (j ∈ l)) := by
  simp only [inD, plain, plains_int, deeps_int, deep, Bool.and_self, Bool.true_and]
  rw [if_pos (by simp), any_int]
theorem any_str (j : St) : ∀ l : List St, ((l.map D.str).any fun y => eqv y (.str j)) = decide (j ∈ l)
  | [] => by simp
  | x :: r => by
    rw [List.map_cons, List.any_cons, any_str j r, eqv]
    by_cases e : x = j
    · subst e; simp
    · have e' : ¬ j = x := fun q => e q.symm
      simp [e, e']
theorem in_strs (j : St) (l : List St) : inD (.str j) (.lst (l.map D.str)) = ok (decide (j ∈ l)) := by
  simp only [inD, plain, plains_str, deeps_str, deep, Bool.and_self, Bool.true_and]
  rw [if_pos (by simp), any_str]
theorem eq_ints_nil (l : List Int) : eqD (.lst (l.map D.int)) (.lst []) = ok l.isEmpty := by
  simp only [eqD, eqScr, plain, plains_int, plains, deep, deeps_int, deeps, Bool.and_self, Bool.true_and]
  rw [if_pos (by simp)]
  cases l <;> simp [eqv, eqvs]
theorem eq_strs_nil (l : List St) : eqD (.lst (l.map D.str)) (.lst []) = ok l.isEmpty := by
  have := eq_strs l []
  rw [List.map_nil] at this
  rw [this]
  cases l <;> rfl
theorem idxD_str (k : St) : ∀ (l : List St) (j : Nat), k ∈ l → idxD (.str k) (l.map D.str) j = some (j + l.idxOf k)
  | x :: r, j, h => by
    rw [List.map_cons, idxD]
    by_cases e : x = k
    · subst e
      have : eqv (.str x) (.str x) = true := by simp [eqv]
      rw [if_pos this]; simp
    · have : ¬ eqv (.str x) (.str k) = true := by simp [eqv, e]
      rw [if_neg this, idxD_str k r (j + 1) ((List.mem_cons.mp h).resolve_left fun q => e q.symm), List.idxOf_cons, beq_eq_false_iff_ne.mpr e]
      congr 1
      simp only [cond_false]
      omega
theorem index_strs (k : St) (l : List St) (h : k ∈ l) : m1D .index (.lst (l.map D.str)) (.str k) = ok (.int (l.idxOf k : Nat)) := by
  simp only [m1D, dataIn, plain, plains_str, deeps_str, deep, Bool.and_self, Bool.true_and]
  rw [if_pos (by simp), idxD_str k l 0 h]
  simp [ofO]
theorem any_strT (j : St) (l : List St) : inD (.str j) (.tup (l.map D.str)) = ok (decide (j ∈ l)) := by
  simp only [inD, plain, plains_str, deeps_str, deep, Bool.and_self, Bool.true_and]
  rw [if_pos (by simp), any_str]
theorem plains_W : ∀ l : List (St × Int), plains (l.map encW) = true
  | [] => by simp [plains]
  | x :: r => by simp [plains, plain, encW, plains_W r]
theorem deeps_W : ∀ l : List (St × Int), deeps (l.map encW) ≤ 1
  | [] => by simp [deeps]
  | x :: r => by have := deeps_W r; simp [deeps, deep, encW]; omega
theorem eq_W_nil (l : List (St × Int)) : eqD (.tup (l.map encW)) (.tup []) = ok l.isEmpty := by
  simp only [eqD, eqScr, plain, plains_W, plains, deep, deeps, Bool.and_self, Bool.true_and]
  rw [if_pos (by simp)]
  cases l <;> simp [eqv, eqvs]
theorem eqv_W (a b : St × Int) : eqv (encW a) (encW b) = decide (a = b) := by
  simp only [encW, eqv, eqvs, Bool.and_true]
  obtain ⟨a1, a2⟩ := a
  obtain ⟨b1, b2⟩ := b
  simp only [Prod.mk.injEq]
  rw [Bool.eq_iff_iff]
  simp
theorem eqvs_W : ∀ l m : List (St × Int), eqvs (l.map encW) (m.map encW) = decide (l = m)
  | [], [] => by simp [eqvs]
  | [], _ :: _ => by simp [eqvs]
  | _ :: _, [] => by simp [eqvs]
  | x :: r, y :: q => by
    simp only [List.map_cons, eqvs, eqv_W, eqvs_W r q, List.cons.injEq]
    rw [Bool.eq_iff_iff]
    simp
theorem eq_W (a b : St × Int) : eqD (encW a) (encW b) = ok (decide (a = b)) := by
  have h : eqD (encW a) (encW b) = if plain (encW a) && plain (encW b) && decide (min (deep (encW a)) (deep (encW b)) ≤ 60) then ok (eqv (encW a) (encW b)) else bad := rfl
  rw [h, eqv_W, if_pos]
  simp [encW, plain, plains, deep, deeps]
theorem eq_Ws (l m : List (St × Int)) : eqD (.lst (l.map encW)) (.lst (m.map encW)) = ok (decide (l = m)) := by
  have h : eqD (.lst (l.map encW)) (.lst (m.map encW)) = if plain (.lst (l.map encW)) && plain (.lst (m.map encW)) && decide (min (deep (.lst (l.map encW))) (deep (.lst (m.map encW))) ≤ 60) then ok (eqv (.lst (l.map encW)) (.lst (m.map encW))) else bad := rfl
  have d1 : deep (.lst (l.map encW)) ≤ 2 := by have := deeps_W l; simp only [deep]; omega
  rw [h, if_pos, eqv, eqvs_W]
  rw [decide_eq_true (by omega)]
  simp [plain, plains_W]
theorem sortable_int (l : List Int) : sortable (l.map D.int) = true := by
  unfold sortable
  simp only [Bool.and_eq_true, Bool.or_eq_true, List.all_eq_true, decide_eq_true_eq]
  refine ⟨⟨fun x hx y hy => ?_, by rw [deeps_int]; omega⟩, .inr fun x hx => ?_⟩
  · obtain ⟨a, _, rfl⟩ := List.mem_map.mp hx
    obtain ⟨b, _, rfl⟩ := List.mem_map.mp hy
    rfl
  · obtain ⟨a, _, rfl⟩ := List.mem_map.mp hx
    rfl
theorem best_int : ∀ (l : List Int) (x : Int), best (fun a b => ltD b a) (.int x) (l.map D.int) = .int (l.foldl min x)
  | [], x => rfl
  | y :: r, x => by
    rw [List.map_cons, best, List.foldl_cons]
    have e : (if ltD (.int y) (.int x) = true then D.int y else .int x) = .int (min x y) := by
      simp only [ltD, decide_eq_true_eq]
      split
      · congr 1; omega
      · congr 1; omega
    rw [e, best_int r]
theorem min_ints (x : Int) (l : List Int) : b1D .min (.lst ((x :: l).map D.int)) = ok (.int (l.foldl min x)) := by
  have h := sortable_int (x :: l)
  rw [List.map_cons] at h ⊢
  simp only [b1D, h, if_true, best_int]
/-! ### dicts by texts -/
section
variable {β : Type} (f : β → D)
def keysD (t : List (St × β)) : List D := t.map fun r => .str r.1
def valsG (t : List (St × β)) : List D := t.map fun r => f r.2
def dicG (t : List (St × β)) : D := .dic (keysD t) (valsG f t)
theorem dget_G (k : St) : ∀ t : List (St × β), dget (.str k) (keysD t) (valsG f t) = (lookT t k).map f
  | [] => rfl
  | r :: t => by
    have ih := dget_G k t
    unfold keysD valsG at ih ⊢
    simp only [List.map_cons, dget, lookT, keyEq, ih, beq_iff_eq]
    split <;> rfl
theorem lookT_none {t : List (St × β)} {k : St} : lookT t k = none ↔ k ∉ t.map (·.1) := by
  induction t with
  | nil => simp [lookT]
  | cons r t ih =>
    simp only [lookT, List.map_cons, List.mem_cons, not_or]
    split
    · rename_i e; subst e; simp
    · rename_i e; rw [ih]; exact ⟨fun q => ⟨fun z => e z.symm, q⟩, fun q => q.2⟩
theorem lookT_mem {t : List (St × β)} {k : St} {v : β} (h : lookT t k = some v) : (k, v) ∈ t := by
  induction t with
  | nil => cases h
  | cons r t ih =>
    simp only [lookT] at h
    split at h
    · rename_i e; cases h; subst e; exact List.mem_cons_self
    · exact List.mem_cons_of_mem _ (ih h)
theorem lookT_of_mem {t : List (St × β)} (h : (t.map (·.1)).Nodup) {k : St} {v : β} (hm : (k, v) ∈ t) : lookT t k = some v := by
  induction t with
  | nil => cases hm
  | cons r t ih =>
    rw [List.map_cons, List.nodup_cons] at h
    simp only [lookT]
    rcases List.mem_cons.mp hm with e | e
    · subst e; rw [if_pos rfl]
    · rw [if_neg, ih h.2 e]
      intro q
      exact h.1 (q ▸ List.mem_map.mpr ⟨_, e, rfl⟩)
theorem lookT_isSome {t : List (St × β)} {k : St} : (lookT t k).isSome = true ↔ k ∈ t.map (·.1) := by
  cases e : lookT t k with
  | none =>
    have := lookT_none.mp e
    simp only [Option.isSome_none, Bool.false_eq_true, false_iff]; exact this
  | some v => simp only [Option.isSome_some, true_iff]; exact List.mem_map.mpr ⟨_, lookT_mem e, rfl⟩
theorem keys_any (k : St) (t : List (St × β)) : (keysD t).any (fun x => keyEq x (.str k)) = (lookT t k).isSome := by
  induction t with
  | nil => rfl
  | cons r t ih =>
    unfold keysD at ih ⊢
    rw [List.map_cons, List.any_cons, ih, lookT]
    show (r.1 == k || _) = _
    by_cases e : r.1 = k
    · simp [e]
    · rw [if_neg e, beq_eq_false_iff_ne.mpr e, Bool.false_or]
/-- one row more, in its place or at the end -/
def putT (k : St) (v : β) (t : List (St × β)) : List (St × β) := if (lookT t k).isSome then t.map (fun r => if r.1 = k then (r.1, v) else r) else t ++ [(k, v)]
theorem zipV_G (k : St) (v : β) : ∀ t : List (St × β), zipV (.str k) (f v) (keysD t) (valsG f t) = valsG f (t.map fun r => if r.1 = k then (r.1, v) else r)
  | [] => rfl
  | r :: t => by
    have ih := zipV_G k v t
    unfold keysD valsG at ih ⊢
    simp only [List.map_cons, zipV, keyEq, ih, beq_iff_eq]
    congr 1
    split <;> rfl
theorem keys_set (k : St) (v : β) (t : List (St × β)) : keysD (t.map fun r => if r.1 = k then (r.1, v) else r) = keysD t := by
  unfold keysD
  rw [List.map_map]
  apply List.map_congr_left
  intro r _
  show D.str (if r.1 = k then (r.1, v) else r).1 = _
  split <;> rfl
theorem dput_G (k : St) (v : β) (t : List (St × β)) : dput (.str k) (f v) (keysD t) (valsG f t) = (keysD (putT k v t), valsG f (putT k v t)) := by
  unfold dput putT
  rw [keys_any]
  split
  · rw [zipV_G, keys_set]
  · simp [keysD, valsG]
theorem putT_keys (k : St) (v : β) (t : List (St × β)) : (putT k v t).map (·.1) = if k ∈ t.map (·.1) then t.map (·.1) else t.map (·.1) ++ [k] := by
  unfold putT
  by_cases e : k ∈ t.map (·.1)
  · rw [if_pos (lookT_isSome.mpr e), if_pos e, List.map_map]
    apply List.map_congr_left
    intro r _
    show (if r.1 = k then (r.1, v) else r).1 = _
    split <;> rfl
  · rw [if_neg (fun q => e (lookT_isSome.mp q)), if_neg e]
    simp
theorem putT_mem {k : St} {v : β} {t : List (St × β)} {r : St × β} (h : r ∈ putT k v t) : r = (k, v) ∨ r ∈ t := by
  unfold putT at h
  split at h
  · obtain ⟨q, hq, e⟩ := List.mem_map.mp h
    split at e
    · rename_i e2; subst e2; exact .inl e.symm
    · exact .inr (e ▸ hq)
  · rcases List.mem_append.mp h with q | q
    · exact .inr q
    · exact .inl (List.mem_singleton.mp q)
theorem putT_nodup {k : St} {v : β} {t : List (St × β)} (h : (t.map (·.1)).Nodup) : ((putT k v t).map (·.1)).Nodup := by
  rw [putT_keys]
  split
  · exact h
  · rename_i q
    rw [List.nodup_append]
    exact ⟨h, by simp, fun a ha b hb => by rw [List.mem_singleton.mp hb]; intro e; exact q (e ▸ ha)⟩
theorem putT_len (k : St) (v : β) (t : List (St × β)) : (putT k v t).length ≤ t.length + 1 := by
  unfold putT
  split
  · rw [List.length_map]; omega
  · rw [List.length_append]; simp
theorem putT_key {k k' : St} {v : β} {t : List (St × β)} (h : k' = k ∨ k' ∈ t.map (·.1)) : k' ∈ (putT k v t).map (·.1) := by
  rw [putT_keys]
  split
  · rename_i q; exact h.elim (fun e => e ▸ q) id
  · exact List.mem_append.mpr (h.elim (fun e => .inr (by simp [e])) .inl)
theorem drop_G (k : St) : ∀ t : List (St × β), dropKs (.str k) (keysD t) (valsG f t) = keysD (t.filter fun r => decide (r.1 ≠ k)) ∧ dropVs (.str k) (keysD t) (valsG f t) = valsG f (t.filter fun r => decide (r.1 ≠ k))
  | [] => ⟨rfl, rfl⟩
  | r :: t => by
    obtain ⟨h1, h2⟩ := drop_G k t
    unfold keysD valsG at h1 h2 ⊢
    by_cases e : r.1 = k
    · have : decide (r.1 ≠ k) = false := by simp [e]
      rw [List.filter_cons, this]
      simp only [List.map_cons, dropKs, dropVs, keyEq, e, beq_self_eq_true, if_true, Bool.false_eq_true, if_false]
      exact ⟨h1, h2⟩
    · have : decide (r.1 ≠ k) = true := by simp [e]
      rw [List.filter_cons, this]
      simp only [List.map_cons, dropKs, dropVs, keyEq, beq_eq_false_iff_ne.mpr e, if_true, Bool.false_eq_true, if_false]
      exact ⟨by rw [h1], by rw [h2]⟩
end
theorem in_G {β : Type} {f : β → D} {t : List (St × β)} {x : St} : inD (.str x) (dicG f t) = ok (lookT t x).isSome := by
  unfold dicG
  rw [in_dic, dget_G, Option.isSome_map]
theorem ix_G {β : Type} {f : β → D} {t : List (St × β)} {x : St} {v : β} (h : lookT t x = some v) : ixD (dicG f t) (.str x) = ok (f v) := by
  unfold dicG
  simp only [ixD, isKey, if_true, dget_G, h, Option.map_some, ofO_some]
theorem put_G {β : Type} {f : β → D} {t : List (St × β)} {x : St} {v : β} {ρ : Env} {i : Nat} (h : t.length < big) : kPut (ok (f v)) (ok (dicG f t)) (ok (.str x)) ρ i = .next (ρ.set i (some (dicG f (putT x v t)))) := by
  unfold dicG
  rw [kPut_ok _ _ _ _ _ _ rfl (by unfold keysD; rw [List.length_map]; exact h), dput_G]
theorem dpop_G {β : Type} {f : β → D} {t : List (St × β)} {x : St} {ρ : Env} {i : Nat} (h : x ∈ t.map (·.1)) : kDpop (ok (dicG f t)) (ok (.str x)) ρ i = .next (ρ.set i (some (dicG f (t.filter fun r => decide (r.1 ≠ x))))) := by
  unfold dicG
  rw [kDpop_ok _ _ _ _ _ rfl (by rw [dget_G, Option.isSome_map]; exact lookT_isSome.mpr h), (drop_G f x t).1, (drop_G f x t).2]
theorem asgo_G {ρ : Env} {i : Nat} {β : Type} {f : β → D} {t : List (St × β)} : kAsgo (ok (dicG f t)) ρ i = .next (ρ.set i (some (dicG f t))) := rfl
abbrev valsD (t : Tab) : List D := valsG D.str t
abbrev dicT (t : Tab) : D := dicG D.str t
theorem dget_T (k : St) (t : Tab) : dget (.str k) (keysD t) (valsD t) = (lookT t k).map D.str := dget_G D.str k t
theorem dput_T (k v : St) (t : Tab) : dput (.str k) (.str v) (keysD t) (valsD t) = (keysD (putT k v t), valsD (putT k v t)) := dput_G D.str k v t
theorem merge_T : ∀ (u t : Tab), (t ++ u).map (·.1) |>.Nodup → merge (u.map encR) (keysD t, valsD t) = some (keysD (t ++ u), valsD (t ++ u))
  | [], t, _ => by simp [merge]
  | r :: u, t, h => by
    have hn : r.1 ∉ t.map (·.1) := by
      rw [List.map_append, List.map_cons, List.nodup_append] at h
      exact fun q => h.2.2 _ q _ List.mem_cons_self rfl
    have e : putT r.1 r.2 t = t ++ [r] := by
      unfold putT
      rw [if_neg fun q => hn (lookT_isSome.mp q)]
    rw [List.map_cons, encR, merge, if_pos (by rfl)]
    simp only
    rw [dput_T, e, merge_T u (t ++ [r]) (by simpa using h)]
    simp
theorem dict_T {t : Tab} (h : (t.map (·.1)).Nodup) : b1D .dict (encT t) = ok (dicT t) := by
  have := merge_T t [] (by simpa using h)
  simp only [encT, b1D, keysD, valsD, valsG, List.map_nil] at this ⊢
  rw [this]
  rfl
/-! ### greedy parts -/
def stepL (t : Tab) (w : St) : Option Nat := [3, 2, 1].find? fun k => (lookT t (w.take k)).isSome && decide (k ≤ w.length)
def partsF (t : Tab) : Nat → St → Option (List St)
  | _, [] => some []
  | 0, _ :: _ => none
  | n + 1, c :: w => match stepL t (c :: w) with
    | none => none
    | some k => (partsF t n ((c :: w).drop k)).map ((c :: w).take k :: ·)
def parts (t : Tab) (w : St) : Option (List St) := partsF t w.length w
def sndP (t : Tab) (ps : List St) : St := (ps.map fun p => (lookT t p).getD []).flatten
def snd (t : Tab) (w : St) : Option St := (parts t w).map (sndP t)
theorem stepL_some {t : Tab} {w : St} {k : Nat} (h : stepL t w = some k) : 1 ≤ k ∧ k ≤ 3 ∧ k ≤ w.length ∧ (lookT t (w.take k)).isSome = true ∧ ∀ j, k < j → j ≤ 3 → ¬ ((lookT t (w.take j)).isSome = true ∧ j ≤ w.length) := by
  unfold stepL at h
  simp only [List.find?] at h
  split at h
  · rename_i q; cases h
    simp only [Bool.and_eq_true, decide_eq_true_eq] at q
    exact ⟨by omega, by omega, q.2, q.1, fun j h1 h2 => by omega⟩
  · rename_i q3
    split at h
    · rename_i q; cases h
      simp only [Bool.and_eq_true, decide_eq_true_eq] at q
      refine ⟨by omega, by omega, q.2, q.1, fun j h1 h2 => ?_⟩
      obtain rfl : j = 3 := by omega
      rintro ⟨a, b⟩
      rw [a, decide_eq_true b] at q3
      cases q3
    · rename_i q2
      split at h
      · rename_i q; cases h
        simp only [Bool.and_eq_true, decide_eq_true_eq] at q
        refine ⟨by omega, by omega, q.2, q.1, fun j h1 h2 => ?_⟩
        rcases (show j = 3 ∨ j = 2 by omega) with rfl | rfl <;> rintro ⟨a, b⟩
        · rw [a, decide_eq_true b] at q3; cases q3
        · rw [a, decide_eq_true b] at q2; cases q2
      · cases h
theorem partsF_fuel {t : Tab} : ∀ {n m : Nat} {w : St}, w.length ≤ n → w.length ≤ m → partsF t n w = partsF t m w
  | _, _, [], _, _ => by simp [partsF]
  | 0, _, _ :: _, h, _ => by simp at h
  | _, 0, _ :: _, _, h => by simp at h
  | n + 1, m + 1, c :: w, h1, h2 => by
    simp only [partsF]
    split
    · rfl
    · rename_i k hk
      obtain ⟨a, _, b, _⟩ := stepL_some hk
      rw [partsF_fuel (n := n) (m := m)]
      · rw [List.length_drop]; simp only [List.length_cons] at h1 b ⊢; omega
      · rw [List.length_drop]; simp only [List.length_cons] at h2 b ⊢; omega
theorem parts_nil (t : Tab) : parts t [] = some [] := by simp [parts, partsF]
theorem parts_step {t : Tab} {w : St} (h : w ≠ []) : parts t w = (stepL t w).bind fun k => (parts t (w.drop k)).map (w.take k :: ·) := by
  cases w with
  | nil => exact absurd rfl h
  | cons c w =>
    unfold parts
    rw [List.length_cons, partsF]
    cases e : stepL t (c :: w) with
    | none => rfl
    | some k =>
      obtain ⟨a, _, b, _⟩ := stepL_some e
      simp only [Option.bind_some]
      rw [partsF_fuel (m := ((c :: w).drop k).length)]
      · rw [List.length_drop]; simp only [List.length_cons] at b ⊢; omega
      · exact Nat.le_refl _
theorem parts_cases {t : Tab} {w : St} {ps : List St} (h : parts t w = some ps) : (w = [] ∧ ps = []) ∨ ∃ k qs, w ≠ [] ∧ stepL t w = some k ∧ ps = w.take k :: qs ∧ parts t (w.drop k) = some qs ∧ (w.drop k).length < w.length := by
  by_cases hw : w = []
  · subst hw; rw [parts_nil] at h; cases h; exact .inl ⟨rfl, rfl⟩
  · rw [parts_step hw] at h
    cases e : stepL t w with
    | none => rw [e] at h; cases h
    | some k =>
      rw [e, Option.bind_some] at h
      cases e2 : parts t (w.drop k) with
      | none => rw [e2] at h; cases h
      | some qs =>
        rw [e2] at h
        cases h
        obtain ⟨a, _, b, _⟩ := stepL_some e
        exact .inr ⟨k, qs, hw, rfl, rfl, e2, by rw [List.length_drop]; omega⟩
theorem parts_len {t : Tab} : ∀ (n : Nat) {w : St} {ps : List St}, w.length ≤ n → parts t w = some ps → ps.length ≤ w.length := by
  intro n
  induction n with
  | zero =>
    intro w ps hn h
    rcases parts_cases h with ⟨rfl, rfl⟩ | ⟨k, qs, _, _, _, _, q⟩
    · simp
    · omega
  | succ n ih =>
    intro w ps hn h
    rcases parts_cases h with ⟨rfl, rfl⟩ | ⟨k, qs, _, _, rfl, e, q⟩
    · simp
    · have := ih (by omega) e
      simp only [List.length_cons]
      omega
theorem parts_keys {t : Tab} : ∀ (n : Nat) {w : St} {ps : List St}, w.length ≤ n → parts t w = some ps → ∀ p ∈ ps, (lookT t p).isSome = true := by
  intro n
  induction n with
  | zero =>
    intro w ps hn h
    rcases parts_cases h with ⟨rfl, rfl⟩ | ⟨k, qs, _, _, _, _, q⟩
    · simp
    · omega
  | succ n ih =>
    intro w ps hn h
    rcases parts_cases h with ⟨rfl, rfl⟩ | ⟨k, qs, _, e1, rfl, e, q⟩
    · simp
    · intro p hp
      rcases List.mem_cons.mp hp with rfl | hp
      · exact (stepL_some e1).2.2.2.1
      · exact ih (by omega) e p hp
/-! ### vowels -/
def vowN (k : Nat) : St → List Nat
  | [] => []
  | c :: r => if isV c then k :: vowN (k + 1) r else vowN (k + 1) r
def vows (s : St) : List Int := (vowN 0 s).map fun k : Nat => (k : Int)
theorem vowN_len (s : St) : ∀ k, (vowN k s).length = (s.filter isV).length := by
  induction s with
  | nil => intro k; rfl
  | cons c r ih =>
    intro k
    simp only [vowN, List.filter_cons]
    split <;> simp [ih]
theorem cut_mid {α : Type} (s : List α) (a b : Nat) (h : a ≤ b) (hb : b ≤ s.length) : cut s (some (a : Int)) (some (b : Int)) = (s.drop a).take (b - a) := by
  have e1 : sIx s.length 0 (some (a : Int)) = a := by
    unfold sIx
    simp only
    rw [if_neg (by omega), Int.toNat_natCast]; omega
  have e2 : sIx s.length s.length (some (b : Int)) = b := by
    unfold sIx
    simp only
    rw [if_neg (by omega), Int.toNat_natCast]; omega
  unfold cut
  rw [e1, e2]
theorem cut_lo {α : Type} (s : List α) (a : Nat) (h : a ≤ s.length) : cut s (some (a : Int)) none = s.drop a := by
  have e1 : sIx s.length 0 (some (a : Int)) = a := by
    unfold sIx
    simp only
    rw [if_neg (by omega), Int.toNat_natCast]; omega
  unfold cut
  rw [e1]
  show List.take (s.length - a) (s.drop a) = _
  rw [List.take_of_length_le (by rw [List.length_drop]; omega)]
theorem cut_hi {α : Type} (s : List α) (b : Nat) : cut s none (some (b : Int)) = s.take b := by
  have e2 : sIx s.length s.length (some (b : Int)) = min b s.length := by
    unfold sIx
    simp only
    rw [if_neg (by omega), Int.toNat_natCast]
  unfold cut
  rw [e2]
  show List.take (min b s.length - 0) (s.drop 0) = _
  rw [List.drop_zero, Nat.sub_zero]
  by_cases hb : b ≤ s.length
  · rw [Nat.min_eq_left hb]
  · rw [Nat.min_eq_right (by omega), List.take_length, List.take_of_length_le (by omega)]
theorem cut_far {α : Type} (s : List α) (a k : Nat) (h : a ≤ s.length) : cut s (some (a : Int)) (some ((a : Int) + k)) = (s.drop a).take k := by
  have e0 : (a : Int) + k = ((a + k : Nat) : Int) := by omega
  rw [e0]
  have e1 : sIx s.length 0 (some (a : Int)) = a := by
    unfold sIx
    simp only
    rw [if_neg (by omega), Int.toNat_natCast]; omega
  have e2 : sIx s.length s.length (some ((a + k : Nat) : Int)) = min (a + k) s.length := by
    unfold sIx
    simp only
    rw [if_neg (by omega), Int.toNat_natCast]
  unfold cut
  rw [e1, e2]
  by_cases hb : a + k ≤ s.length
  · rw [Nat.min_eq_left hb]; congr 1; omega
  · rw [Nat.min_eq_right (by omega), List.take_of_length_le (by rw [List.length_drop]; omega), List.take_of_length_le (by rw [List.length_drop]; omega)]
theorem step_list (t : Tab) (w : St) : ([3, 2, 1].filter fun k : Nat => (lookT t (w.take k)).isSome && decide (k ≤ w.length)).head? = stepL t w := by
  unfold stepL
  rw [List.head?_filter]
/-! ### sorting texts -/
def leS (a b : St) : Bool := !decide (b < a)
theorem ins_str (x : St) : ∀ l : List St, ins leD (.str x) (l.map D.str) = (ins leS x l).map D.str
  | [] => rfl
  | y :: r => by
    have e : leD (.str x) (.str y) = leS x y := by simp only [leD, ltD, leS]
    rw [List.map_cons, ins, e, ins_str x r, ins]
    by_cases q : leS x y = true
    · rw [if_pos q, if_pos q]; rfl
    · rw [if_neg q, if_neg q]; rfl
theorem isort_str : ∀ l : List St, isort leD (l.map D.str) = (isort leS l).map D.str
  | [] => rfl
  | x :: r => by rw [List.map_cons, isort, isort_str r, ins_str]; rfl
theorem ins_permS (x : St) : ∀ l : List St, (ins leS x l).Perm (x :: l)
  | [] => List.Perm.refl _
  | y :: r => by
    simp only [ins]
    split
    · exact List.Perm.refl _
    · exact ((ins_permS x r).cons y).trans (List.Perm.swap x y r)
theorem isort_permS : ∀ l : List St, (isort leS l).Perm l
  | [] => List.Perm.refl _
  | x :: r => (ins_permS x _).trans ((isort_permS r).cons x)
theorem st_tri {a b : St} (h : ¬ b < a) (hn : a ≠ b) : a < b := by
  rcases Std.lt_trichotomy a b with q | q | q
  · exact q
  · exact absurd q hn
  · exact absurd q h
theorem ins_strict {x : St} : ∀ {l : List St}, l.Pairwise (· < ·) → x ∉ l → (ins leS x l).Pairwise (· < ·)
  | [], _, _ => by simp [ins]
  | y :: r, h, hx => by
    rw [ins]
    rw [List.pairwise_cons] at h
    by_cases q : y < x
    · have e : ¬ leS x y = true := by unfold leS; rw [decide_eq_true q]; decide
      rw [if_neg e]
      refine List.pairwise_cons.mpr ⟨fun z hz => ?_, ins_strict h.2 fun z => hx (List.mem_cons_of_mem _ z)⟩
      rcases List.mem_cons.mp ((ins_permS x r).mem_iff.mp hz) with e | e
      · rw [e]; exact q
      · exact h.1 z e
    · have e : leS x y = true := by unfold leS; rw [decide_eq_false q]; decide
      rw [if_pos e]
      have hxy : x < y := st_tri q fun e => hx (by rw [e]; exact List.mem_cons_self)
      exact List.pairwise_cons.mpr ⟨fun z hz => (List.mem_cons.mp hz).elim (fun e => e ▸ hxy) fun e => List.lt_trans hxy (h.1 z e), List.pairwise_cons.mpr h⟩
theorem isort_strictS : ∀ {l : List St}, l.Nodup → (isort leS l).Pairwise (· < ·)
  | [], _ => List.Pairwise.nil
  | x :: r, h => by
    rw [List.nodup_cons] at h
    exact ins_strict (isort_strictS h.2) fun q => h.1 ((isort_permS r).mem_iff.mp q)
theorem sorted_dic {β : Type} (f : β → D) (t : List (St × β)) (h : t.length < 64) : b1D .sorted (dicG f t) = ok (.lst ((isort leS (t.map (·.1))).map D.str)) := by
  have e : keysD t = (t.map (·.1)).map D.str := by simp [keysD]
  simp only [dicG, b1D]
  rw [e, if_pos, isort_str]
  rw [all_isStr, List.length_map, List.length_map, decide_eq_true h]
  rfl
theorem stepL_eq {t : Tab} {w : St} {k : Nat} (h1 : 1 ≤ k) (h3 : k ≤ 3) (hw : k ≤ w.length) (hs : (lookT t (w.take k)).isSome = true) (hn : ∀ j, k < j → j ≤ 3 → j ≤ w.length → ¬ (lookT t (w.take j)).isSome = true) : stepL t w = some k := by
  cases e : stepL t w with
  | none =>
    unfold stepL at e
    have := List.find?_eq_none.mp e k (by
      rcases (show k = 3 ∨ k = 2 ∨ k = 1 by omega) with rfl | rfl | rfl <;> simp)
    exact absurd (by rw [hs, decide_eq_true hw]; rfl) this
  | some j =>
    obtain ⟨a1, a2, a3, a4, a5⟩ := stepL_some e
    rcases Nat.lt_trichotomy j k with q | q | q
    · exact absurd ⟨hs, hw⟩ (a5 k q h3)
    · rw [q]
    · exact absurd a4 (hn j q a2 a3)
theorem stepL_none {t : Tab} {w : St} (h : ∀ j, 1 ≤ j → j ≤ 3 → j ≤ w.length → ¬ (lookT t (w.take j)).isSome = true) : stepL t w = none := by
  cases e : stepL t w with
  | none => rfl
  | some j =>
    obtain ⟨a1, a2, a3, a4, a5⟩ := stepL_some e
    exact absurd a4 (h j a1 a2 a3)
structure IsWord (t : Tab) (w : St × Int) : Prop where
  l1 : 1 ≤ w.1.length
  l2 : w.1.length ≤ 10
  small : ∀ c ∈ w.1, c ∈ smallS
  s1 : 1 ≤ w.2
  s3 : w.2 ≤ 3
  snd : ∃ m, snd t w.1 = some m ∧ w.2 ≤ ((vowN 0 m).length : Int)
theorem vowN_mem {s : St} : ∀ {k a : Nat}, a ∈ vowN k s ↔ k ≤ a ∧ ∃ c, s[a - k]? = some c ∧ isV c = true := by
  induction s with
  | nil => intro k a; simp [vowN]
  | cons c r ih =>
    intro k a
    have key : a ∈ vowN k (c :: r) ↔ (a = k ∧ isV c = true) ∨ a ∈ vowN (k + 1) r := by
      simp only [vowN]
      by_cases h : isV c = true
      · rw [if_pos h, List.mem_cons]; simp [h]
      · rw [if_neg h]; simp [h]
    rw [key, ih]
    constructor
    · rintro (⟨rfl, h⟩ | ⟨h1, d, h2, h3⟩)
      · exact ⟨Nat.le_refl _, c, by simp, h⟩
      · refine ⟨by omega, d, ?_, h3⟩
        have e : a - k = (a - (k + 1)) + 1 := by omega
        rw [e, List.getElem?_cons_succ]; exact h2
    · rintro ⟨h1, d, h2, h3⟩
      by_cases e : a = k
      · subst e
        rw [Nat.sub_self, List.getElem?_cons_zero] at h2
        cases h2
        exact .inl ⟨rfl, h3⟩
      · refine .inr ⟨by omega, d, ?_, h3⟩
        have e : a - k = (a - (k + 1)) + 1 := by omega
        rw [e, List.getElem?_cons_succ] at h2; exact h2
/-- behind the place of a vowel as many vowels are left -/
theorem vowN_behind {s : St} : ∀ {k i a : Nat}, (vowN k s)[i]? = some a → ((s.drop (a - k)).filter isV).length = (vowN k s).length - i ∧ k ≤ a := by
  induction s with
  | nil => intro k i a h; simp [vowN] at h
  | cons c r ih =>
    intro k i a h
    by_cases hc : isV c = true
    · have e : vowN k (c :: r) = k :: vowN (k + 1) r := by simp only [vowN]; rw [if_pos hc]
      rw [e] at h ⊢
      cases i with
      | zero =>
        rw [List.getElem?_cons_zero] at h
        cases h
        refine ⟨?_, Nat.le_refl _⟩
        rw [Nat.sub_self, List.drop_zero, List.filter_cons, if_pos hc, List.length_cons, List.length_cons, vowN_len]
        omega
      | succ i =>
        rw [List.getElem?_cons_succ] at h
        obtain ⟨q1, q2⟩ := ih h
        refine ⟨?_, by omega⟩
        have e2 : a - k = (a - (k + 1)) + 1 := by omega
        rw [e2, List.drop_succ_cons, q1, List.length_cons]
        omega
    · have e : vowN k (c :: r) = vowN (k + 1) r := by simp only [vowN]; rw [if_neg hc]
      rw [e] at h ⊢
      obtain ⟨q1, q2⟩ := ih h
      refine ⟨?_, by omega⟩
      have e2 : a - k = (a - (k + 1)) + 1 := by omega
      rw [e2, List.drop_succ_cons, q1]
def posOf (m : St) (s : Int) : Nat := ((vowN 0 m)[(vowN 0 m).length - s.toNat]?).getD 0
def tailM (m : St) (s : Int) : St := m.drop (posOf m s)
/-- from a place back to behind a vowel -/
def back (m : St) : Nat → Nat
  | 0 => 0
  | k + 1 => if k ∈ vowN 0 m then k + 1 else back m k
theorem back_le (m : St) : ∀ k, back m k ≤ k
  | 0 => Nat.le_refl _
  | k + 1 => by
    simp only [back]
    split
    · exact Nat.le_refl _
    · have := back_le m k; omega
def headM (m : St) (s : Int) : St := (m.drop (back m (posOf m s))).take (posOf m s - back m (posOf m s))
def sndW (t : Tab) (w : St) : St := (snd t w).getD []
def tailW (t : Tab) (w : St × Int) : St := tailM (sndW t w.1) w.2
def headW (t : Tab) (w : St × Int) : St := headM (sndW t w.1) w.2
theorem pos_at {m : St} {s : Int} (h1 : 1 ≤ s) (h2 : s ≤ (vowN 0 m).length) : (vowN 0 m)[(vowN 0 m).length - s.toNat]? = some (posOf m s) ∧ posOf m s < m.length ∧ posOf m s ∈ vowN 0 m := by
  have hlt : (vowN 0 m).length - s.toNat < (vowN 0 m).length := by omega
  have e : (vowN 0 m)[(vowN 0 m).length - s.toNat]? = some (posOf m s) := by
    unfold posOf
    rw [List.getElem?_eq_getElem hlt]
    rfl
  have hm : posOf m s ∈ vowN 0 m := List.mem_of_getElem? e
  obtain ⟨_, c, q, _⟩ := vowN_mem.mp hm
  refine ⟨e, ?_, hm⟩
  rw [Nat.sub_zero] at q
  exact (List.getElem?_eq_some_iff.mp q).1
theorem IsWord.sw {t : Tab} {w : St × Int} (h : IsWord t w) : VE.snd t w.1 = some (sndW t w.1) ∧ w.2 ≤ ((vowN 0 (sndW t w.1)).length : Int) := by
  obtain ⟨m, e, q⟩ := h.snd
  unfold sndW
  rw [e]
  exact ⟨rfl, q⟩
/-! ### drawn numbers -/
def cellV (ns : List Int) (k : Int) : Int := if k < ns.length then ns.getD k.toNat 0 else if ns.isEmpty = true then 0 else ns.getD (k % ns.length).toNat 0 * 31 + k
def drawV (ns : List Int) (k : Int) : Int := (cellV ns k + 6151 * (k + 1)) * 40692 % 2147483399
def pk (ns : List Int) (k m : Int) : Int := (drawV ns k * drawV ns k + drawV ns k / 31) % 2147483629 % m
theorem pk_nn {ns : List Int} {k m : Int} (h : 0 < m) : 0 ≤ pk ns k m := Int.emod_nonneg _ (by omega)
theorem pk_lt {ns : List Int} {k m : Int} (h : 0 < m) : pk ns k m < m := Int.emod_lt_of_pos _ h
theorem atI_nn {α : Type} {xs : List α} {i : Int} (h0 : 0 ≤ i) (h1 : i < xs.length) : atI xs i = xs[i.toNat]? := by
  unfold atI ixN
  rw [if_pos h0, if_pos h1]
  rfl
theorem ix_scr {ns : List Int} {i : Int} (h0 : 0 ≤ i) (h1 : i < ns.length) : ixD (.scr ns) (.int i) = ok (.int (ns.getD i.toNat 0)) := by
  have hl : i.toNat < ns.length := by omega
  simp only [ixD, atI_nn h0 h1, List.getElem?_eq_getElem hl, Option.map_some, ofO_some, List.getD_eq_getElem?_getD, Option.getD_some]
theorem ix_sign {s : St} {i : Int} (h0 : 0 ≤ i) (h1 : i < s.length) : ixD (.str s) (.int i) = ok (.str [s.getD i.toNat 0]) := by
  have hl : i.toNat < s.length := by omega
  simp only [ixD, atI_nn h0 h1, List.getElem?_eq_getElem hl, Option.map_some, ofO_some, List.getD_eq_getElem?_getD, Option.getD_some]
theorem ix_map {α : Type} {f : α → D} {l : List α} {i : Int} (z : α) (h0 : 0 ≤ i) (h1 : i < l.length) : ixD (.lst (l.map f)) (.int i) = ok (f (l.getD i.toNat z)) := by
  have hl : i.toNat < l.length := by omega
  have h2 : i < (l.map f).length := by rw [List.length_map]; exact h1
  simp only [ixD, atI_nn h0 h2, List.getElem?_map, List.getElem?_eq_getElem hl, Option.map_some, ofO_some, List.getD_eq_getElem?_getD, Option.getD_some]
theorem ix_mapT {α : Type} {f : α → D} {l : List α} {i : Int} (z : α) (h0 : 0 ≤ i) (h1 : i < l.length) : ixD (.tup (l.map f)) (.int i) = ok (f (l.getD i.toNat z)) := by
  have hl : i.toNat < l.length := by omega
  have h2 : i < (l.map f).length := by rw [List.length_map]; exact h1
  simp only [ixD, atI_nn h0 h2, List.getElem?_map, List.getElem?_eq_getElem hl, Option.map_some, ofO_some, List.getD_eq_getElem?_getD, Option.getD_some]
theorem getD_mem {α : Type} {l : List α} {i : Nat} {z : α} (h : i < l.length) : l.getD i z ∈ l := by
  rw [List.getD_eq_getElem?_getD, List.getElem?_eq_getElem h]
  exact List.getElem_mem h
theorem CMulB_l {i j : Int} (h1 : -(2 ^ 64) < i) (h2 : i < 2 ^ 64) : CMulB i j = true := decide_eq_true (.inl ⟨h1, h2⟩)
theorem CMulB_r {i j : Int} (h1 : -(2 ^ 64) < j) (h2 : j < 2 ^ 64) : CMulB i j = true := decide_eq_true (.inr ⟨h1, h2⟩)
theorem op_mull {i j : Int} (h1 : -18446744073709551616 < i) (h2 : i < 18446744073709551616) : opD .mul (.int i) (.int j) = ok (.int (i * j)) := if_pos (CMulB_l (by omega) (by omega))
theorem op_mulr {i j : Int} (h1 : -18446744073709551616 < j) (h2 : j < 18446744073709551616) : opD .mul (.int i) (.int j) = ok (.int (i * j)) := if_pos (CMulB_r (by omega) (by omega))
theorem op_mod {i j : Int} (h : 0 < j) : opD .mod (.int i) (.int j) = ok (.int (i % j)) := if_pos h
theorem op_fdiv {i j : Int} (h : 0 < j) (h2 : j < 1073741824) : opD .fdiv (.int i) (.int j) = ok (.int (i / j)) := if_pos ⟨h, h2⟩
theorem op_adds {a b : St} (h : a.length + b.length ≤ big) : opD .add (.str a) (.str b) = ok (.str (a ++ b)) := if_pos h
/-! ### a drawn table -/
def keyOk (k : St) : Prop := 1 ≤ k.length ∧ k.length ≤ 3 ∧ ∀ c ∈ k, c ∈ smallS
def valOk (v : St) : Prop := v.length ≤ 2 ∧ ∀ c ∈ v, c ∈ vowS ++ othS
structure TOK (t : Tab) : Prop where
  nd : (t.map (·.1)).Nodup
  ok : ∀ r ∈ t, keyOk r.1 ∧ valOk r.2 ∧ r.2.length ≤ r.1.length
theorem TOK.put {t : Tab} (h : TOK t) {k v : St} (hk : keyOk k) (hv : valOk v) (hf : v.length ≤ k.length) : TOK (putT k v t) :=
  ⟨putT_nodup h.nd, fun r hr => (putT_mem hr).elim (fun e => by rw [e]; exact ⟨hk, hv, hf⟩) (h.ok r)⟩
/-- the rows by rising letters -/
def sortT {β : Type} (z : β) (t : List (St × β)) : List (St × β) := (isort leS (t.map (·.1))).map fun k => (k, (lookT t k).getD z)
theorem sortT_keys {β : Type} (z : β) (t : List (St × β)) : (sortT z t).map (·.1) = isort leS (t.map (·.1)) := by
  unfold sortT
  rw [List.map_map]
  exact List.map_id' _
theorem sortT_mem {β : Type} {z : β} {t : List (St × β)} {r : St × β} (h : r ∈ sortT z t) : r ∈ t := by
  obtain ⟨k, hk, rfl⟩ := List.mem_map.mp h
  have : k ∈ t.map (·.1) := (isort_permS _).mem_iff.mp hk
  obtain ⟨v, hv⟩ := Option.isSome_iff_exists.mp (lookT_isSome.mpr this)
  rw [hv]
  exact lookT_mem hv
theorem sortT_len {β : Type} (z : β) (t : List (St × β)) : (sortT z t).length = t.length := by
  unfold sortT
  rw [List.length_map, (isort_permS _).length_eq, List.length_map]
theorem TOK.good {t : Tab} (h : TOK t) (h1 : 1 ≤ t.length) (h2 : t.length ≤ 20) : Good (sortT [] t) where
  ne := by rw [sortT_len]; exact h1
  le := by rw [sortT_len]; exact h2
  srt := by rw [sortT_keys]; exact isort_strictS h.nd
  key := fun r hr => (h.ok r (sortT_mem hr)).1
  val := fun r hr => (h.ok r (sortT_mem hr)).2.1
  fit := fun r hr => (h.ok r (sortT_mem hr)).2.2
/-! ### the greatest of pairs (length, text) -/
def encL (p : St) : D := .tup [.int p.length, .str p]
theorem sortable_L (l : List St) : sortable (l.map encL) = true := by
  unfold sortable
  have h1 : ((l.map encL).all fun x => (l.map encL).all fun y => alike x y) = true := by
    rw [List.all_eq_true]
    intro x hx
    rw [List.all_eq_true]
    intro y hy
    obtain ⟨a, _, rfl⟩ := List.mem_map.mp hx
    obtain ⟨b, _, rfl⟩ := List.mem_map.mp hy
    simp [encL, alike, alikes]
  have h2 : deeps (l.map encL) ≤ 60 := by
    induction l with
    | nil => simp [deeps]
    | cons x r ih =>
      have : deep (encL x) = 1 := by simp [encL, deep, deeps]
      simp only [List.map_cons, deeps, this]
      have := ih (by
        rw [List.all_eq_true] at h1 ⊢
        intro y hy
        have := h1 y (List.mem_cons_of_mem _ hy)
        rw [List.all_eq_true] at this ⊢
        exact fun z hz => this z (List.mem_cons_of_mem _ hz))
      omega
  simp only [Bool.and_eq_true, Bool.or_eq_true]
  refine ⟨⟨h1, decide_eq_true h2⟩, .inl ?_⟩
  rw [List.all_eq_true]
  intro x hx
  obtain ⟨a, _, rfl⟩ := List.mem_map.mp hx
  rfl
theorem ltD_L (a b : St) : ltD (encL a) (encL b) = if a.length = b.length then (if a = b then false else decide (a < b)) else decide (a.length < b.length) := by
  have e1 : ltD (encL a) (encL b) = if eqv (.int a.length) (.int b.length) = true then (if eqv (.str a) (.str b) = true then ltDs [] [] else ltD (.str a) (.str b)) else ltD (.int a.length) (.int b.length) := by simp only [encL, ltD, ltDs]
  rw [e1]
  by_cases h : a.length = b.length
  · have h' : eqv (.int a.length) (.int b.length) = true := by simp [eqv, h]
    rw [if_pos h', if_pos h]
    by_cases e : a = b
    · have e' : eqv (.str a) (.str b) = true := by simp [eqv, e]
      rw [if_pos e', if_pos e]; simp [ltDs]
    · have e' : ¬ eqv (.str a) (.str b) = true := by simp [eqv, e]
      rw [if_neg e', if_neg e]; simp [ltD]
  · have h' : ¬ eqv (.int a.length) (.int b.length) = true := by simp [eqv]; omega
    rw [if_neg h', if_neg h]
    simp [ltD]
theorem best_L : ∀ (l : List St) (x : St), ∃ s, best ltD (encL x) (l.map encL) = encL s ∧ s ∈ x :: l ∧ ∀ y ∈ x :: l, y.length ≤ s.length
  | [], x => ⟨x, rfl, List.mem_cons_self, fun y hy => by rw [List.mem_singleton.mp hy]; exact Nat.le_refl _⟩
  | z :: l, x => by
    rw [List.map_cons, best]
    by_cases h : ltD (encL x) (encL z) = true
    · rw [if_pos h]
      obtain ⟨s, h1, h2, h3⟩ := best_L l z
      refine ⟨s, h1, List.mem_cons_of_mem _ h2, fun y hy => ?_⟩
      rcases List.mem_cons.mp hy with e | e
      · have hz := h3 z List.mem_cons_self
        rw [ltD_L] at h
        rw [e]
        split at h
        · omega
        · have := of_decide_eq_true h; omega
      · exact h3 y e
    · rw [if_neg h]
      obtain ⟨s, h1, h2, h3⟩ := best_L l x
      refine ⟨s, h1, ?_, fun y hy => ?_⟩
      · rcases List.mem_cons.mp h2 with e | e
        · rw [e]; exact List.mem_cons_self
        · exact List.mem_cons_of_mem _ (List.mem_cons_of_mem _ e)
      · have hx := h3 x List.mem_cons_self
        rcases List.mem_cons.mp hy with e | e
        · rw [e]; exact hx
        · rcases List.mem_cons.mp e with e | e
          · rw [ltD_L] at h
            rw [e]
            split at h
            · omega
            · have : ¬ x.length < z.length := fun q => h (decide_eq_true q)
              omega
          · exact h3 y (List.mem_cons_of_mem _ e)
theorem max_L (l : List St) (h : l ≠ []) : ∃ s, b1D .max (.lst (l.map encL)) = ok (encL s) ∧ s ∈ l ∧ ∀ y ∈ l, y.length ≤ s.length := by
  cases l with
  | nil => exact absurd rfl h
  | cons x r =>
    obtain ⟨s, h1, h2, h3⟩ := best_L r x
    refine ⟨s, ?_, h2, h3⟩
    have := sortable_L (x :: r)
    rw [List.map_cons] at this ⊢
    simp only [b1D, this, if_true, h1]
/-- all rows' letters with which a text begins -/
def begins (t : Tab) (w : St) : List St := (t.filter fun r => w.take r.1.length == r.1).map fun r => r.1
theorem begins_mem {t : Tab} {w p : St} : p ∈ begins t w ↔ (lookT t p).isSome = true ∧ w.take p.length = p := by
  unfold begins
  rw [lookT_isSome]
  constructor
  · intro h
    obtain ⟨r, hr, rfl⟩ := List.mem_map.mp h
    rw [List.mem_filter] at hr
    exact ⟨List.mem_map.mpr ⟨r, hr.1, rfl⟩, by simpa using hr.2⟩
  · rintro ⟨h1, h2⟩
    obtain ⟨r, hr, rfl⟩ := List.mem_map.mp h1
    exact List.mem_map.mpr ⟨r, List.mem_filter.mpr ⟨hr, by simpa using h2⟩, rfl⟩
theorem begins_none {t : Tab} {w : St} (h : begins t w = []) : stepL t w = none := by
  refine stepL_none fun j h1 h2 h3 q => ?_
  have : w.take j ∈ begins t w := begins_mem.mpr ⟨q, by rw [List.length_take, Nat.min_eq_left h3]⟩
  rw [h] at this
  cases this
theorem begins_best {t : Tab} (hg : Good t) {w s : St} (hs : s ∈ begins t w) (hm : ∀ y ∈ begins t w, y.length ≤ s.length) : stepL t w = some s.length ∧ w.take s.length = s := by
  obtain ⟨h1, h2⟩ := begins_mem.mp hs
  obtain ⟨v, hv⟩ := Option.isSome_iff_exists.mp h1
  obtain ⟨k1, k2, _⟩ := hg.key _ (lookT_mem hv)
  have hl : s.length ≤ w.length := by
    have := congrArg List.length h2
    rw [List.length_take] at this
    omega
  refine ⟨stepL_eq k1 k2 hl (by rw [h2]; exact h1) fun j j1 j2 j3 q => ?_, h2⟩
  have := hm _ (begins_mem.mpr ⟨q, by rw [List.length_take, Nat.min_eq_left j3]⟩)
  rw [List.length_take, Nat.min_eq_left j3] at this
  omega
theorem filter_look {t : Tab} (hn : (t.map (·.1)).Nodup) {p v : St} (h : lookT t p = some v) : (t.filter fun r => r.1 == p).map (fun r => r.2) = [v] := by
  induction t with
  | nil => cases h
  | cons r t ih =>
    rw [List.map_cons, List.nodup_cons] at hn
    simp only [lookT] at h
    by_cases e : r.1 = p
    · rw [if_pos e] at h
      cases h
      rw [List.filter_cons, if_pos (by rw [e]; simp), List.map_cons]
      have : t.filter (fun r => r.1 == p) = [] := by
        rw [List.filter_eq_nil_iff]
        intro q hq z
        have z' : q.1 = p := by simpa using z
        exact hn.1 (by rw [e, ← z']; exact List.mem_map.mpr ⟨q, hq, rfl⟩)
      rw [this]
      rfl
    · rw [if_neg e] at h
      rw [List.filter_cons, if_neg (by simpa using e)]
      exact ih hn.2 h
/-! ### rhymes -/
def vowStr (m : St) : St := (vowN 0 m).map fun p => m.getD p 0
def vowW (t : Tab) (w : St × Int) : St := vowStr (tailW t w)
def lastV (m : St) : Nat := (vowN 0 m).getLastD 0
def endW (t : Tab) (w : St × Int) : St := (sndW t w.1).drop (lastV (sndW t w.1) + 1)
def kinds : List St := [[114, 105, 99, 104], [102, 117, 108, 108], [118, 111, 119, 101, 108, 115], [101, 110, 100], [110, 111, 110, 101]]
def kindI (t : Tab) (a b : St × Int) : Nat := if tailW t a = tailW t b then (if headW t a = headW t b then 0 else 1) else if vowW t a = vowW t b then 2 else if endW t a ≠ [] ∧ endW t a = endW t b then 3 else 4
def kindS (t : Tab) (a b : St × Int) : St := kinds.getD (kindI t a b) []
theorem kindI_lt (t : Tab) (a b : St × Int) : kindI t a b < 5 := by
  unfold kindI
  split <;> (try split) <;> (try split) <;> omega
theorem kindI_symm (t : Tab) (a b : St × Int) : kindI t a b = kindI t b a := by
  unfold kindI
  have c : ∀ {x y : St}, (x = y) = (y = x) := fun {x y} => propext ⟨Eq.symm, Eq.symm⟩
  have e3 : (endW t a ≠ [] ∧ endW t a = endW t b) = (endW t b ≠ [] ∧ endW t b = endW t a) := propext ⟨fun q => ⟨q.2 ▸ q.1, q.2.symm⟩, fun q => ⟨q.2 ▸ q.1, q.2.symm⟩⟩
  simp only [c (x := tailW t a) (y := tailW t b), c (x := headW t a) (y := headW t b), c (x := vowW t a) (y := vowW t b), e3]
theorem kind_idx : ∀ i < 5, kinds.idxOf (kinds.getD i []) = i ∧ kinds.getD i [] ∈ kinds := by decide
theorem kind_in : ∀ i < 5, decide (kinds.getD i [] ∈ [kinds.getD 0 [], kinds.getD 1 []]) = decide (i < 2) := by decide
theorem kix_kind (t : Tab) (a b : St × Int) : kixD kinds (.str (kindS t a b)) = ok (.int (kindI t a b : Nat)) := by
  obtain ⟨h1, h2⟩ := kind_idx _ (kindI_lt t a b)
  have h3 : kindS t a b = kinds.getD (kindI t a b) [] := rfl
  rw [h3, kixD, if_pos h2, h1]
theorem kindI_tail (t : Tab) (a b : St × Int) : decide (kindI t a b < 2) = (tailW t a == tailW t b) := by
  unfold kindI
  by_cases h1 : tailW t a = tailW t b
  · rw [if_pos h1, h1]
    simp only [beq_self_eq_true]
    exact decide_eq_true (by split <;> omega)
  · rw [if_neg h1, beq_eq_false_iff_ne.mpr h1]
    exact decide_eq_false (by split <;> (try split) <;> omega)
theorem getLast_mem (l : List Nat) (h : l ≠ []) : l.getLastD 0 ∈ l ∧ l[l.length - 1]? = some (l.getLastD 0) := by
  have e : l[l.length - 1]? = some (l.getLastD 0) := by
    rw [← List.getLast?_eq_getElem?, List.getLastD_eq_getLast?]
    cases q : l.getLast? with
    | none => rw [List.getLast?_eq_none_iff] at q; exact absurd q h
    | some x => rfl
  exact ⟨List.mem_of_getElem? e, e⟩
theorem optL_dummy : True := trivial
def optL : Option (List St) → D
  | some ps => .lst (ps.map D.str)
  | none => .non
def optS : Option St → D
  | some s => .str s
  | none => .non
end VE

/-! Schemes: no program here. -/
namespace VE
open Res
def grt8 : St := [65, 66, 67, 68, 69, 70, 71, 72]
def addS (seen : List St) (k : St) : List St := if k ∈ seen then seen else seen ++ [k]
def nubF (seen : List St) : List St → List St
  | [] => seen
  | k :: r => nubF (addS seen k) r
def signOf (seen : List St) (k : St) : Nat := grt8.getD (seen.idxOf k) 0
def schGo (seen : List St) : List St → St
  | [] => []
  | k :: r => signOf (addS seen k) k :: schGo (addS seen k) r
def schemeOf (ks : List St) : St := schGo [] ks
theorem addS_pre (seen : List St) (k : St) : ∃ t, addS seen k = seen ++ t := by
  unfold addS
  split
  · exact ⟨[], by simp⟩
  · exact ⟨[k], rfl⟩
theorem addS_mem (seen : List St) (k : St) : k ∈ addS seen k := by
  unfold addS
  split
  · assumption
  · simp
theorem addS_sub {seen : List St} {k x : St} (h : x ∈ addS seen k) : x ∈ seen ∨ x = k := by
  unfold addS at h
  split at h
  · exact .inl h
  · simpa using h
theorem nub_pre : ∀ (ks seen : List St), ∃ t, nubF seen ks = seen ++ t
  | [], seen => ⟨[], by simp [nubF]⟩
  | k :: r, seen => by
    obtain ⟨t, ht⟩ := nub_pre r (addS seen k)
    obtain ⟨u, hu⟩ := addS_pre seen k
    exact ⟨u ++ t, by rw [nubF, ht, hu, List.append_assoc]⟩
theorem nub_mem : ∀ (ks seen : List St) (x : St), x ∈ nubF seen ks ↔ x ∈ seen ∨ x ∈ ks
  | [], seen, x => by simp [nubF]
  | k :: r, seen, x => by
    rw [nubF, nub_mem r, List.mem_cons]
    constructor
    · rintro (h | h)
      · exact (addS_sub h).elim .inl fun e => .inr (.inl e)
      · exact .inr (.inr h)
    · rintro (h | h | h)
      · obtain ⟨u, hu⟩ := addS_pre seen k
        exact .inl (by rw [hu]; exact List.mem_append_left _ h)
      · exact .inl (h ▸ addS_mem seen k)
      · exact .inr h
theorem addS_len (seen : List St) (k : St) : (addS seen k).length ≤ seen.length + 1 := by
  unfold addS
  split
  · omega
  · simp
theorem nub_len : ∀ (ks seen : List St), (nubF seen ks).length ≤ seen.length + ks.length
  | [], seen => by simp [nubF]
  | k :: r, seen => by
    have h1 := nub_len r (addS seen k)
    have h2 := addS_len seen k
    rw [nubF, List.length_cons]
    omega
theorem idx_pre {s t : List St} {k : St} (h : k ∈ s) : (s ++ t).idxOf k = s.idxOf k := by rw [List.idxOf_append, if_pos h]
theorem sch_map : ∀ (ks seen : List St), schGo seen ks = ks.map (signOf (nubF seen ks))
  | [], seen => rfl
  | k :: r, seen => by
    rw [schGo, sch_map r, nubF, List.map_cons]
    congr 1
    obtain ⟨t, ht⟩ := nub_pre r (addS seen k)
    unfold signOf
    rw [ht, idx_pre (addS_mem seen k)]
theorem schemeOf_map (ks : List St) : schemeOf ks = ks.map (signOf (nubF [] ks)) := sch_map ks []
theorem schemeOf_len (ks : List St) : (schemeOf ks).length = ks.length := by rw [schemeOf_map, List.length_map]
theorem grt8_inj : ∀ i < 8, ∀ j < 8, grt8.getD i 0 = grt8.getD j 0 → i = j := by decide
theorem idx_inj {N : List St} {a b : St} (ha : a ∈ N) (h : N.idxOf a = N.idxOf b) : a = b := by
  have h1 := List.idxOf_lt_length_of_mem ha
  have e1 : N[N.idxOf a]? = some a := by rw [List.getElem?_eq_getElem h1, List.getElem_idxOf]
  have h2 : N.idxOf b < N.length := by rw [← h]; exact h1
  have e2 : N[N.idxOf b]? = some b := by rw [List.getElem?_eq_getElem h2, List.getElem_idxOf]
  rw [h, e2] at e1
  cases e1
  rfl
theorem sign_inj {N : List St} (hN : N.length ≤ 8) {a b : St} (ha : a ∈ N) (hb : b ∈ N) (h : signOf N a = signOf N b) : a = b := by
  have h1 := List.idxOf_lt_length_of_mem ha
  have h2 := List.idxOf_lt_length_of_mem hb
  exact idx_inj ha (grt8_inj _ (by omega) _ (by omega) h)
/-- like places are like lines -/
theorem scheme_like {ks : List St} (h : ks.length ≤ 8) {a b : St} (ha : a ∈ ks) (hb : b ∈ ks) : (signOf (nubF [] ks) a == signOf (nubF [] ks) b) = (a == b) := by
  have hN : (nubF [] ks).length ≤ 8 := by have := nub_len ks []; simp at this; omega
  by_cases e : a = b
  · subst e; simp
  · rw [beq_eq_false_iff_ne.mpr e, beq_eq_false_iff_ne]
    exact fun q => e (sign_inj hN ((nub_mem ks [] a).mpr (.inr ha)) ((nub_mem ks [] b).mpr (.inr hb)) q)
theorem idx_map {f : St → St} {N : List St} {k : St} (hi : ∀ a ∈ N, f a = f k → a = k) : (N.map f).idxOf (f k) = N.idxOf k := by
  induction N with
  | nil => rfl
  | cons x r ih =>
    rw [List.map_cons, List.idxOf_cons, List.idxOf_cons]
    by_cases e : x = k
    · subst e; simp
    · have : ¬ f x = f k := fun q => e (hi x List.mem_cons_self q)
      rw [beq_eq_false_iff_ne.mpr e, beq_eq_false_iff_ne.mpr this, ih fun a ha => hi a (List.mem_cons_of_mem _ ha)]
theorem addS_map {f : St → St} {seen : List St} {k : St} (hi : ∀ a ∈ seen, f a = f k → a = k) : addS (seen.map f) (f k) = (addS seen k).map f := by
  unfold addS
  by_cases h : k ∈ seen
  · rw [if_pos h, if_pos (List.mem_map.mpr ⟨k, h, rfl⟩)]
  · rw [if_neg h, if_neg]
    · simp
    · intro q
      obtain ⟨a, ha, e⟩ := List.mem_map.mp q
      exact h (hi a ha e ▸ ha)
theorem sch_inj {f : St → St} : ∀ (ks seen : List St), (∀ a, (a ∈ seen ∨ a ∈ ks) → ∀ b, (b ∈ seen ∨ b ∈ ks) → f a = f b → a = b) → schGo (seen.map f) (ks.map f) = schGo seen ks
  | [], seen, _ => rfl
  | k :: r, seen, h => by
    have hs : ∀ a ∈ seen, f a = f k → a = k := fun a ha e => h a (.inl ha) k (.inr List.mem_cons_self) e
    rw [List.map_cons, schGo, schGo, addS_map hs]
    have h2 : ∀ a, (a ∈ addS seen k ∨ a ∈ r) → (a ∈ seen ∨ a ∈ k :: r) := fun a ha => ha.elim (fun q => (addS_sub q).elim .inl fun e => .inr (e ▸ List.mem_cons_self)) fun q => .inr (List.mem_cons_of_mem _ q)
    rw [sch_inj r (addS seen k) fun a ha b hb e => h a (h2 a ha) b (h2 b hb) e]
    congr 1
    unfold signOf
    rw [idx_map fun a ha e => h a (h2 a (.inl ha)) k (.inr List.mem_cons_self) e]
/-- whether signs are a scheme's -/
def isSch (known : Nat) : St → Bool
  | [] => true
  | c :: r => if c ∈ grt8.take (known + 1) then isSch (max known (grt8.idxOf c + 1)) r else false
theorem grt8_idx : ∀ i < 8, grt8.idxOf (grt8.getD i 0) = i := by decide
theorem grt8_take : ∀ k < 8, ∀ i < k + 1, grt8.getD i 0 ∈ grt8.take (k + 1) := by decide
theorem sch_is : ∀ (ks seen : List St), (nubF seen ks).length ≤ 8 → isSch seen.length (schGo seen ks) = true
  | [], _, _ => rfl
  | k :: r, seen, h => by
    rw [schGo, isSch]
    rw [nubF] at h
    obtain ⟨t, ht⟩ := nub_pre r (addS seen k)
    have hl : (addS seen k).length ≤ 8 := by rw [ht, List.length_append] at h; omega
    have hlt := List.idxOf_lt_length_of_mem (addS_mem seen k)
    have key : (addS seen k).idxOf k < seen.length + 1 ∧ seen.length < 8 ∧ max seen.length ((addS seen k).idxOf k + 1) = (addS seen k).length ∨ (addS seen k).idxOf k < seen.length ∧ (addS seen k).length = seen.length := by
      unfold addS at hl hlt ⊢
      by_cases hk : k ∈ seen
      · rw [if_pos hk] at hlt ⊢
        exact .inr ⟨hlt, rfl⟩
      · rw [if_neg hk] at hl hlt ⊢
        rw [List.length_append] at hl ⊢
        simp only [List.length_cons, List.length_nil] at hl ⊢
        have e : (seen ++ [k]).idxOf k = seen.length := by
          rw [List.idxOf_append, if_neg hk]
          simp
        rw [e]
        exact .inl ⟨by omega, by omega, by omega⟩
    unfold signOf
    rcases key with ⟨h1, h2, h3⟩ | ⟨h1, h2⟩
    · rw [if_pos (grt8_take _ h2 _ h1), grt8_idx _ (by omega), h3]
      exact sch_is r _ h
    · rw [if_pos (by
        by_cases h8 : seen.length < 8
        · exact grt8_take _ h8 _ (by omega)
        · have e8 : seen.length = 8 := by omega
          rw [e8]
          have : (addS seen k).idxOf k < 8 := by omega
          have q := grt8_take 7 (by omega) _ (show (addS seen k).idxOf k < 7 + 1 by omega)
          rw [List.take_of_length_le (by decide)] at q ⊢
          exact q), grt8_idx _ (by omega)]
      have e : max seen.length ((addS seen k).idxOf k + 1) = (addS seen k).length := by omega
      rw [e]
      exact sch_is r _ h
theorem schemeOf_is {ks : List St} (h : ks.length ≤ 8) : isSch 0 (schemeOf ks) = true := sch_is ks [] (by have := nub_len ks []; simp at this; omega)
def coarse (a b : St) : Bool := (List.range a.length).all fun i => a.getD i 0 == a.getD (b.idxOf (b.getD i 0)) 0
theorem coarse_at {a b : St} (h : coarse a b = true) {i : Nat} (hi : i < a.length) : a.getD i 0 = a.getD (b.idxOf (b.getD i 0)) 0 := by
  have := List.all_eq_true.mp h i (List.mem_range.mpr hi)
  simpa using this
theorem idx_lt {b : St} {i : Nat} (h : i < b.length) : b.idxOf (b.getD i 0) < b.length := List.idxOf_lt_length_of_mem (getD_mem h)
theorem coarse_trans {a b c : St} (h1 : a.length = b.length) (h2 : b.length = c.length) (hab : coarse a b = true) (hbc : coarse b c = true) : coarse a c = true := by
  unfold coarse
  rw [List.all_eq_true]
  intro i hi
  have hi' := List.mem_range.mp hi
  have e1 := coarse_at hab hi'
  have hj : c.idxOf (c.getD i 0) < c.length := idx_lt (by omega)
  have e2 := coarse_at hbc (i := i) (by omega)
  have e3 := coarse_at hab (i := c.idxOf (c.getD i 0)) (by omega)
  rw [beq_iff_eq, e1, e3, e2]
end VE

/-! Words in order; words by their tails: no program here. -/
namespace VE
open Res
abbrev Wd := St × Int
/-! ### insertion sort, any order -/
theorem gins_map {α : Type} (f : α → D) (x : α) : ∀ l : List α, ins leD (f x) (l.map f) = (ins (fun a b => leD (f a) (f b)) x l).map f
  | [] => rfl
  | y :: r => by
    simp only [List.map_cons, ins]
    split
    · rfl
    · rw [gins_map f x r]; rfl
theorem gsort_map {α : Type} (f : α → D) : ∀ l : List α, isort leD (l.map f) = (isort (fun a b => leD (f a) (f b)) l).map f
  | [] => rfl
  | x :: r => by rw [List.map_cons, isort, gsort_map f r, gins_map]; rfl
theorem gins_perm {α : Type} {le : α → α → Bool} (x : α) : ∀ l : List α, (ins le x l).Perm (x :: l)
  | [] => List.Perm.refl _
  | y :: r => by
    unfold ins
    split
    · exact List.Perm.refl _
    · exact ((gins_perm x r).cons y).trans (List.Perm.swap x y r)
theorem gsort_perm {α : Type} {le : α → α → Bool} : ∀ l : List α, (isort le l).Perm l
  | [] => List.Perm.refl _
  | x :: r => by
    unfold isort
    exact (gins_perm x _).trans ((gsort_perm r).cons x)
/-- sorted by a key -/
theorem gins_key {α : Type} {le : α → α → Bool} {k : α → St} (x : α) : ∀ l : List α, (∀ y ∈ l, le x y = leS (k x) (k y)) → (ins le x l).map k = ins leS (k x) (l.map k)
  | [], _ => rfl
  | y :: r, h => by
    simp only [List.map_cons, ins]
    rw [h y List.mem_cons_self]
    split
    · rfl
    · rw [List.map_cons, gins_key x r fun z hz => h z (List.mem_cons_of_mem _ hz)]
theorem gsort_key {α : Type} {le : α → α → Bool} {k : α → St} : ∀ l : List α, (l.map k).Nodup → (∀ x ∈ l, ∀ y ∈ l, k x ≠ k y → le x y = leS (k x) (k y)) → (isort le l).map k = isort leS (l.map k)
  | [], _, _ => rfl
  | x :: r, hn, h => by
    rw [List.map_cons, List.nodup_cons] at hn
    have ih := gsort_key r hn.2 fun a ha b hb => h a (List.mem_cons_of_mem _ ha) b (List.mem_cons_of_mem _ hb)
    unfold isort
    rw [gins_key x _ fun y hy => ?_, ih]
    · rw [List.map_cons]
      try rfl
    · have hy' : y ∈ r := (gsort_perm r).mem_iff.mp hy
      exact h x List.mem_cons_self y (List.mem_cons_of_mem _ hy') fun e => hn.1 (e ▸ List.mem_map.mpr ⟨y, hy', rfl⟩)
/-- the first of a sorted list is the least -/
theorem gins_head {α : Type} {le : α → α → Bool} (tot : ∀ a b, le a b = true ∨ le b a = true) (tr : ∀ a b c, le a b = true → le b c = true → le a c = true) (x : α) : ∀ l : List α, (∀ y r, l = y :: r → ∀ z ∈ l, le y z = true) → ∀ y r, ins le x l = y :: r → ∀ z ∈ x :: l, le y z = true
  | [], _, y, r, e, z, hz => by
    simp only [ins, List.cons.injEq] at e
    obtain ⟨rfl, rfl⟩ := e
    rw [List.mem_singleton.mp hz]
    exact (tot x x).elim id id
  | w :: l, h, y, r, e, z, hz => by
    have hw := h w l rfl
    simp only [ins] at e
    split at e
    · rename_i hle
      simp only [List.cons.injEq] at e
      obtain ⟨rfl, rfl⟩ := e
      rcases List.mem_cons.mp hz with q | q
      · rw [q]; exact (tot x x).elim id id
      · exact tr _ _ _ hle (hw z q)
    · rename_i hle
      simp only [List.cons.injEq] at e
      obtain ⟨rfl, rfl⟩ := e
      rcases List.mem_cons.mp hz with q | q
      · rw [q]
        exact (tot w x).elim id fun q2 => absurd q2 hle
      · exact hw z q
theorem gsort_head {α : Type} {le : α → α → Bool} (tot : ∀ a b, le a b = true ∨ le b a = true) (tr : ∀ a b c, le a b = true → le b c = true → le a c = true) : ∀ (l : List α) (y : α) (r : List α), isort le l = y :: r → ∀ z ∈ l, le y z = true
  | [], y, r, e, z, hz => by cases hz
  | x :: l, y, r, e, z, hz => by
    unfold isort at e
    refine gins_head tot tr x (isort le l) (fun y' r' e' z' hz' => gsort_head tot tr l y' r' e' z' ((gsort_perm l).mem_iff.mp hz')) y r e z ?_
    rcases List.mem_cons.mp hz with q | q
    · rw [q]; exact List.mem_cons_self
    · exact List.mem_cons_of_mem _ ((gsort_perm l).mem_iff.mpr q)
/-! ### words in order -/
theorem ltD_W (a b : Wd) : ltD (encW a) (encW b) = if a.1 = b.1 then (if a.2 = b.2 then false else decide (a.2 < b.2)) else decide (a.1 < b.1) := by
  have e1 : ltD (encW a) (encW b) = if eqv (.str a.1) (.str b.1) = true then (if eqv (.int a.2) (.int b.2) = true then ltDs [] [] else ltD (.int a.2) (.int b.2)) else ltD (.str a.1) (.str b.1) := by simp only [encW, ltD, ltDs]
  rw [e1]
  by_cases h : a.1 = b.1
  · have h' : eqv (.str a.1) (.str b.1) = true := by simp [eqv, h]
    rw [if_pos h', if_pos h]
    by_cases e : a.2 = b.2
    · have e' : eqv (.int a.2) (.int b.2) = true := by simp [eqv, e]
      rw [if_pos e', if_pos e]; simp [ltDs]
    · have e' : ¬ eqv (.int a.2) (.int b.2) = true := by simp [eqv, e]
      rw [if_neg e', if_neg e]; simp [ltD]
  · have h' : ¬ eqv (.str a.1) (.str b.1) = true := by simp [eqv, h]
    rw [if_neg h', if_neg h]
    simp [ltD]
def leW (a b : Wd) : Bool := leD (encW a) (encW b)
def sortW (l : List Wd) : List Wd := isort leW l
theorem leW_key {a b : Wd} (h : a.1 ≠ b.1) : leW a b = leS a.1 b.1 := by
  unfold leW leD leS
  rw [ltD_W, if_neg (fun e => h e.symm)]
theorem alike_W (a b : Wd) : alike (encW a) (encW b) = true := by simp [encW, alike, alikes]
theorem sortable_W (l : List Wd) : sortable (l.map encW) = true := by
  unfold sortable
  simp only [Bool.and_eq_true, Bool.or_eq_true, List.all_eq_true, decide_eq_true_eq]
  refine ⟨⟨fun x hx y hy => ?_, by have := deeps_W l; omega⟩, .inl fun x hx => ?_⟩
  · obtain ⟨a, _, rfl⟩ := List.mem_map.mp hx
    obtain ⟨b, _, rfl⟩ := List.mem_map.mp hy
    exact alike_W a b
  · obtain ⟨a, _, rfl⟩ := List.mem_map.mp hx
    rfl
theorem sorted_W (l : List Wd) : b1D .sorted (.lst (l.map encW)) = ok (.lst ((sortW l).map encW)) := by
  simp only [b1D, sortable_W, if_true]
  rw [gsort_map]
  rfl
theorem sortW_keys {l : List Wd} (h : (l.map (·.1)).Nodup) : (sortW l).map (·.1) = isort leS (l.map (·.1)) := gsort_key l h fun x _ y _ hn => leW_key hn
theorem sortW_strict {l : List Wd} (h : (l.map (·.1)).Nodup) : ((sortW l).map (·.1)).Pairwise (· < ·) := by
  rw [sortW_keys h]
  exact isort_strictS h
theorem sortW_perm (l : List Wd) : (sortW l).Perm l := gsort_perm l
/-- two rising lists of the same words are one -/
theorem strict_uniq {l m : List Wd} (h1 : (l.map (·.1)).Pairwise (· < ·)) (h2 : (m.map (·.1)).Pairwise (· < ·)) (p : l.Perm m) : l = m := by
  rw [List.pairwise_map] at h1 h2
  exact List.Perm.eq_of_pairwise (fun a b _ _ q1 q2 => absurd (List.lt_trans q1 q2) (st_irrefl a.1)) h1 h2 p
/-! ### words by their tails -/
abbrev Fam := List (St × List Wd)
def encWs (l : List Wd) : D := .lst (l.map encW)
def addF (k : St) (w : Wd) : Fam → Fam
  | [] => [(k, [w])]
  | r :: f => if r.1 = k then (r.1, r.2 ++ [w]) :: f else r :: addF k w f
def famsF (g : Wd → St) (b : List Wd) (f : Fam) : Fam := b.foldl (fun f w => addF (g w) w f) f
def fams (g : Wd → St) (b : List Wd) : Fam := famsF g b []
theorem dapp_F (k : St) (w : Wd) : ∀ f : Fam, dapp (.str k) (encW w) (keysD f) (valsG encWs f) = some (keysD (addF k w f), valsG encWs (addF k w f))
  | [] => rfl
  | r :: f => by
    have ih := dapp_F k w f
    unfold keysD valsG encWs at ih ⊢
    simp only [List.map_cons, dapp, keyEq, addF, ih, Option.map_some]
    by_cases e : r.1 = k
    · simp [e]
    · simp [e]
theorem addF_keys (k : St) (w : Wd) : ∀ f : Fam, (addF k w f).map (·.1) = if k ∈ f.map (·.1) then f.map (·.1) else f.map (·.1) ++ [k]
  | [] => by simp [addF]
  | r :: f => by
    unfold addF
    by_cases e : r.1 = k
    · rw [if_pos e, if_pos (by simp [e])]; rfl
    · rw [if_neg e, List.map_cons, addF_keys k w f]
      have hm : (k ∈ (r :: f).map (·.1)) = (k ∈ f.map (·.1)) := by
        rw [List.map_cons, List.mem_cons]
        exact propext ⟨fun q => q.resolve_left fun z => e z.symm, .inr⟩
      simp only [hm]
      split <;> rfl
theorem addF_look (k j : St) (w : Wd) : ∀ f : Fam, lookT (addF k w f) j = if j = k then some ((lookT f k).getD [] ++ [w]) else lookT f j
  | [] => by
    by_cases e : j = k
    · subst e; simp [addF, lookT]
    · rw [if_neg e]; simp [addF, lookT, Ne.symm e]
  | r :: f => by
    unfold addF
    by_cases e : r.1 = k
    · rw [if_pos e]
      by_cases ej : j = k
      · subst ej
        simp [lookT, e]
      · rw [if_neg ej]
        have : ¬ r.1 = j := fun z => ej (z.symm.trans e)
        simp [lookT, this]
    · rw [if_neg e]
      simp only [lookT, addF_look k j w f]
      by_cases er : r.1 = j
      · have : ¬ j = k := fun z => e (er.trans z)
        rw [if_pos er, if_neg this, if_pos er]
      · rw [if_neg er]
        by_cases ej : j = k
        · subst ej
          rw [if_pos rfl, if_pos rfl, if_neg e]
        · rw [if_neg ej, if_neg ej, if_neg er]
theorem famsF_keys (g : Wd → St) : ∀ (b : List Wd) (f : Fam), (f.map (·.1)).Nodup → ((famsF g b f).map (·.1)).Nodup ∧ ∀ k, k ∈ (famsF g b f).map (·.1) ↔ k ∈ f.map (·.1) ∨ k ∈ b.map g
  | [], f, h => ⟨h, fun k => by simp [famsF]⟩
  | w :: b, f, h => by
    have hn : ((addF (g w) w f).map (·.1)).Nodup := by
      rw [addF_keys]
      split
      · exact h
      · rename_i q
        rw [List.nodup_append]
        exact ⟨h, by simp, fun a ha c hc => by rw [List.mem_singleton.mp hc]; intro e; exact q (e ▸ ha)⟩
    obtain ⟨h1, h2⟩ := famsF_keys g b (addF (g w) w f) hn
    refine ⟨h1, fun k => ?_⟩
    show k ∈ (famsF g b (addF (g w) w f)).map (·.1) ↔ _
    rw [h2 k, addF_keys, List.map_cons, List.mem_cons]
    split
    · rename_i q
      constructor
      · rintro (z | z)
        · exact .inl z
        · exact .inr (.inr z)
      · rintro (z | z | z)
        · exact .inl z
        · exact .inl (z ▸ q)
        · exact .inr z
    · rw [List.mem_append, List.mem_singleton]
      constructor
      · rintro ((z | z) | z)
        · exact .inl z
        · exact .inr (.inl z)
        · exact .inr (.inr z)
      · rintro (z | z | z)
        · exact .inl (.inl z)
        · exact .inl (.inr z)
        · exact .inr z
theorem famsF_look (g : Wd → St) (k : St) : ∀ (b : List Wd) (f : Fam), (lookT (famsF g b f) k).getD [] = (lookT f k).getD [] ++ b.filter (fun w => g w == k)
  | [], f => by simp [famsF]
  | w :: b, f => by
    show (lookT (famsF g b (addF (g w) w f)) k).getD [] = _
    rw [famsF_look g k b, addF_look, List.filter_cons]
    by_cases e : k = g w
    · subst e
      simp
    · have e' : (g w == k) = false := beq_eq_false_iff_ne.mpr fun z => e z.symm
      rw [if_neg e, e']
      simp
def famK (g : Wd → St) (b : List Wd) : List St := (fams g b).map (·.1)
def famW (g : Wd → St) (b : List Wd) (k : St) : List Wd := b.filter fun w => g w == k
theorem fams_keys (g : Wd → St) (b : List Wd) : (famK g b).Nodup ∧ ∀ k, k ∈ famK g b ↔ k ∈ b.map g := by
  obtain ⟨h1, h2⟩ := famsF_keys g b [] (by simp)
  exact ⟨h1, fun k => by have := h2 k; simp only [List.map_nil, List.not_mem_nil, false_or] at this; exact this⟩
theorem fams_look {g : Wd → St} {b : List Wd} {k : St} (h : k ∈ b.map g) : lookT (fams g b) k = some (famW g b k) := by
  have hs : (lookT (fams g b) k).isSome = true := lookT_isSome.mpr ((fams_keys g b).2 k |>.mpr h)
  obtain ⟨v, hv⟩ := Option.isSome_iff_exists.mp hs
  have := famsF_look g k b []
  have e : (lookT (famsF g b []) k).getD [] = v := by
    show (lookT (fams g b) k).getD [] = v
    rw [hv]; rfl
  rw [e] at this
  rw [hv, this]
  simp [lookT, famW]
theorem grp_F {g : Wd → St} {t : Nat} {f : Env → Res D} {ρ : Env} : ∀ {b : List Wd} (o : Option D) (F : Fam), (∀ w ∈ b, f (ρ.set t (some (encW w))) = ok (.str (g w))) → ∃ o', grpGo t f (b.map encW) (ρ.set t o) (keysD F) (valsG encWs F) = ok (ρ.set t o', keysD (famsF g b F), valsG encWs (famsF g b F))
  | [], o, F, _ => ⟨o, rfl⟩
  | w :: b, o, F, h => by
    obtain ⟨o', e⟩ := grp_F (some (encW w)) (addF (g w) w F) fun x hx => h x (List.mem_cons_of_mem _ hx)
    refine ⟨o', ?_⟩
    rw [List.map_cons, grpGo, List.set_set, h w List.mem_cons_self]
    simp only [bind_ok, isKey, if_true, dapp_F, ofO_some]
    exact e
def famT (g : Wd → St) (b : List Wd) : List St := isort leS (famK g b)
theorem famT_strict (g : Wd → St) (b : List Wd) : (famT g b).Pairwise (· < ·) := isort_strictS (fams_keys g b).1
theorem famT_mem {g : Wd → St} {b : List Wd} {k : St} : k ∈ famT g b ↔ k ∈ b.map g := by
  unfold famT
  rw [(isort_permS _).mem_iff, (fams_keys g b).2 k]
theorem famT_perm (g : Wd → St) (b : List Wd) : (famT g b).Perm (famK g b) := isort_permS _
theorem famW_ne {g : Wd → St} {b : List Wd} {k : St} (h : k ∈ b.map g) : famW g b k ≠ [] := by
  obtain ⟨w, hw, e⟩ := List.mem_map.mp h
  intro z
  have : w ∈ famW g b k := List.mem_filter.mpr ⟨hw, by simpa using e⟩
  rw [z] at this
  cases this
theorem fams_length (g : Wd → St) (b : List Wd) : (fams g b).length ≤ b.length := by
  have h1 := (fams_keys g b).1
  have h2 : (famK g b).length ≤ (b.map g).length := by
    have := List.Nodup.length_le_of_subset h1 (l₂ := b.map g) fun k hk => ((fams_keys g b).2 k).mp hk
    exact this
  unfold famK at h2
  simpa using h2
/-! ### sums -/
theorem perm_sum {l m : List Int} (h : l.Perm m) : l.sum = m.sum := by
  induction h with
  | nil => rfl
  | cons x _ ih => simp [ih]
  | swap x y l => simp only [List.sum_cons]; omega
  | trans _ _ a b => exact a.trans b
theorem sum_one {T : List St} (x : St) : T.Nodup → x ∈ T → (T.map fun k => if x = k then (1 : Int) else 0).sum = 1 := by
  induction T with
  | nil => intro _ h; cases h
  | cons y r ih =>
    intro hn h
    rw [List.nodup_cons] at hn
    rw [List.map_cons, List.sum_cons]
    by_cases e : x = y
    · subst e
      have : (r.map fun k => if x = k then (1 : Int) else 0).sum = 0 := by
        have h0 : ∀ l : List St, x ∉ l → (l.map fun k => if x = k then (1 : Int) else 0).sum = 0 := fun l => by
          induction l with
          | nil => intro _; rfl
          | cons z l ih2 =>
            intro q
            rw [List.mem_cons, not_or] at q
            rw [List.map_cons, List.sum_cons, if_neg q.1, ih2 q.2]; rfl
        exact h0 r hn.1
      rw [this, if_pos rfl]; rfl
    · rw [if_neg e, ih hn.2 ((List.mem_cons.mp h).resolve_left e)]; rfl
theorem sum_add {α : Type} (f h : α → Int) : ∀ l : List α, (l.map fun x => f x + h x).sum = (l.map f).sum + (l.map h).sum
  | [] => rfl
  | x :: r => by simp only [List.map_cons, List.sum_cons, sum_add f h r]; omega
theorem sum_zero {α : Type} : ∀ l : List α, (l.map fun _ => (0 : Int)).sum = 0
  | [] => rfl
  | x :: r => by rw [List.map_cons, List.sum_cons, sum_zero r]; rfl
theorem fam_total (g : Wd → St) {T : List St} (hn : T.Nodup) : ∀ b : List Wd, (∀ w ∈ b, g w ∈ T) → (T.map fun k => ((famW g b k).length : Int)).sum = b.length
  | [], _ => by
    have : (T.map fun k => ((famW g [] k).length : Int)) = T.map fun _ => (0 : Int) := rfl
    rw [this, sum_zero]
    rfl
  | w :: b, h => by
    have ih := fam_total g hn b fun x hx => h x (List.mem_cons_of_mem _ hx)
    have e : (T.map fun k => ((famW g (w :: b) k).length : Int)) = T.map fun k => (if g w = k then (1 : Int) else 0) + ((famW g b k).length : Int) := by
      apply List.map_congr_left
      intro k _
      unfold famW
      rw [List.filter_cons]
      by_cases q : g w = k
      · rw [if_pos (by simpa using q), if_pos q, List.length_cons]; omega
      · rw [if_neg (by simpa using q), if_neg q]; omega
    rw [e, sum_add, sum_one (g w) hn (h w List.mem_cons_self), ih, List.length_cons]
    omega
end VE

/-! Lines of words that go by a metre: no program here. -/
namespace VE
open Res
/-- what is asked of the word "suits" -/
structure SF (sf : St → St → Bool) : Prop where
  len : ∀ {a c}, sf a c = true → a.length = c.length
  app : ∀ {a c a' c'}, a.length = c.length → sf (a ++ a') (c ++ c') = (sf a c && sf a' c')
  nil : sf [] [] = true
section
variable (β : Wd → St) (sf : St → St → Bool) (b : List Wd) (m : St)
abbrev Row := List Wd × Nat
def stpG (p : Nat) : List (Wd × Nat) := (b.filter fun w => sf (β w) ((m.drop p).take (β w).length)).map fun w => (w, p + (β w).length)
def nextG (R : List Row) : List Row := R.flatMap fun x => (stpG β sf b m x.2).map fun y => (x.1 ++ [y.1], y.2)
def RG : Nat → List Row
  | 0 => [([], 0)]
  | r + 1 => nextG β sf b m (RG r)
def allR : Nat → List (List Wd)
  | 0 => [[]]
  | r + 1 => (allR r).flatMap fun l => b.map fun w => l ++ [w]
def lbG (l : List Wd) : St := (l.map β).flatten
theorem lbG_snoc (l : List Wd) (w : Wd) : lbG β (l ++ [w]) = lbG β l ++ β w := by simp [lbG]
def okG (l : List Wd) : Bool := sf (lbG β l) (m.take (lbG β l).length)
variable {β sf b m}
theorem okG_snoc (S : SF sf) (l : List Wd) (w : Wd) : okG β sf m (l ++ [w]) = (okG β sf m l && sf (β w) ((m.drop (lbG β l).length).take (β w).length)) := by
  unfold okG
  rw [lbG_snoc, List.length_append]
  have hs : m.take ((lbG β l).length + (β w).length) = m.take (lbG β l).length ++ (m.drop (lbG β l).length).take (β w).length := List.take_add
  rw [hs]
  by_cases h : (lbG β l).length ≤ m.length
  · exact S.app (by rw [List.length_take]; omega)
  · have h1 : sf (lbG β l) (m.take (lbG β l).length) = false := by
      cases q : sf (lbG β l) (m.take (lbG β l).length) with
      | false => rfl
      | true =>
        have := S.len q
        rw [List.length_take] at this
        omega
    rw [h1, Bool.false_and]
    cases q : sf (lbG β l ++ β w) (m.take (lbG β l).length ++ (m.drop (lbG β l).length).take (β w).length) with
    | false => rfl
    | true =>
      have := S.len q
      rw [List.length_append, List.length_append, List.length_take, List.length_take, List.length_drop] at this
      omega
theorem flatMap_filter_map {α γ : Type} (p : α → Bool) (g : α → γ) {δ : Type} (f : γ → List δ) : ∀ l : List α, ((l.filter p).map g).flatMap f = l.flatMap fun x => if p x = true then f (g x) else []
  | [] => rfl
  | x :: r => by
    rw [List.filter_cons, List.flatMap_cons]
    split
    · rw [List.map_cons, List.flatMap_cons, flatMap_filter_map p g f r]
    · rw [flatMap_filter_map p g f r]; rfl
theorem filter_flatMap {α γ : Type} (p : γ → Bool) (f : α → List γ) : ∀ l : List α, (l.flatMap f).filter p = l.flatMap fun x => (f x).filter p
  | [] => rfl
  | x :: r => by rw [List.flatMap_cons, List.flatMap_cons, List.filter_append, filter_flatMap p f r]
theorem map_flatMap' {α γ δ : Type} (g : γ → δ) (f : α → List γ) : ∀ l : List α, (l.flatMap f).map g = l.flatMap fun x => (f x).map g
  | [] => rfl
  | x :: r => by rw [List.flatMap_cons, List.flatMap_cons, List.map_append, map_flatMap' g f r]
theorem RG_eq (S : SF sf) : ∀ r, RG β sf b m r = ((allR b r).filter (okG β sf m)).map fun l => (l, (lbG β l).length)
  | 0 => by
    have : okG β sf m [] = true := by unfold okG lbG; exact S.nil
    simp [RG, allR, this, lbG]
  | r + 1 => by
    rw [RG, RG_eq S r, nextG, flatMap_filter_map, allR, filter_flatMap, map_flatMap']
    congr 1
    funext l
    have e : (b.map fun w => l ++ [w]).filter (okG β sf m) = (b.filter fun w => okG β sf m l && sf (β w) ((m.drop (lbG β l).length).take (β w).length)).map fun w => l ++ [w] := by
      rw [List.filter_map]
      congr 1
      apply List.filter_congr
      intro w _
      exact okG_snoc S l w
    rw [e]
    cases q : okG β sf m l with
    | false => simp
    | true =>
      rw [if_pos rfl]
      simp only [Bool.true_and]
      unfold stpG
      rw [List.map_map, List.map_map]
      apply List.map_congr_left
      intro w _
      show (l ++ [w], (lbG β l).length + (β w).length) = (l ++ [w], (lbG β (l ++ [w])).length)
      rw [lbG_snoc, List.length_append]
variable (β sf b m) in
/-- the lines of so many words that go -/
def lvl (r : Nat) : List (List Wd) := (allR b r).filter fun l => sf (lbG β l) m
theorem lvl_eq (S : SF sf) (r : Nat) : ((RG β sf b m r).filter fun x => x.2 == m.length).map (·.1) = lvl β sf b m r := by
  rw [RG_eq S, List.filter_map, List.map_map, List.filter_filter]
  have : ((fun x : Row => x.1) ∘ fun l : List Wd => (l, (lbG β l).length)) = id := rfl
  rw [this, List.map_id]
  unfold lvl
  apply List.filter_congr
  intro l _
  show (((lbG β l).length == m.length) && okG β sf m l) = _
  unfold okG
  by_cases h : (lbG β l).length = m.length
  · rw [h, List.take_length]; simp
  · rw [beq_eq_false_iff_ne.mpr h, Bool.false_and]
    cases q : sf (lbG β l) m with
    | false => rfl
    | true => exact absurd (S.len q) h
variable (β sf b m) in
/-- all lines that go, short ones first -/
def goodL (k : Nat) : List (List Wd) := (List.range k).flatMap fun r => lvl β sf b m (r + 1)
/-! ### the search -/
def srch {γ : Type} (φ : Nat → Option γ) (R : List Row) : Option (List Wd × γ) := R.findSome? fun x => (φ x.2).map fun v => (x.1, v)
def psi {γ : Type} (stp : Nat → List (Wd × Nat)) (φ : Nat → Option γ) (p : Nat) : Option (Wd × γ) := (stp p).findSome? fun y => (φ y.2).map fun v => (y.1, v)
theorem findSome_flatMap {α γ δ : Type} (f : γ → Option δ) (g : α → List γ) : ∀ l : List α, (l.flatMap g).findSome? f = l.findSome? fun x => (g x).findSome? f
  | [] => rfl
  | x :: r => by
    rw [List.flatMap_cons, List.findSome?_append, findSome_flatMap f g r, List.findSome?_cons]
    cases (g x).findSome? f <;> rfl
theorem findSome_map {α γ δ : Type} (f : γ → Option δ) (g : α → γ) : ∀ l : List α, (l.map g).findSome? f = l.findSome? fun x => f (g x)
  | [] => rfl
  | x :: r => by rw [List.map_cons, List.findSome?_cons, List.findSome?_cons, findSome_map f g r]
theorem findSome_omap {α γ δ : Type} (f : α → Option γ) (g : γ → δ) : ∀ l : List α, (l.findSome? fun x => (f x).map g) = (l.findSome? f).map g
  | [] => rfl
  | x :: r => by
    rw [List.findSome?_cons, List.findSome?_cons, findSome_omap f g r]
    cases f x <;> rfl
theorem findSome_congr {α γ : Type} {f g : α → Option γ} : ∀ {l : List α}, (∀ x ∈ l, f x = g x) → l.findSome? f = l.findSome? g
  | [], _ => rfl
  | x :: r, h => by
    rw [List.findSome?_cons, List.findSome?_cons, h x List.mem_cons_self, findSome_congr fun y hy => h y (List.mem_cons_of_mem _ hy)]
theorem srch_next {γ : Type} (φ : Nat → Option γ) (R : List Row) : srch φ (nextG β sf b m R) = (srch (psi (stpG β sf b m) φ) R).map fun q => (q.1 ++ [q.2.1], q.2.2) := by
  unfold srch nextG
  rw [findSome_flatMap, ← findSome_omap]
  apply findSome_congr
  intro x _
  rw [findSome_map]
  unfold psi
  rw [Option.map_map, ← findSome_omap]
  apply findSome_congr
  intro y _
  rw [Option.map_map]
  rfl
/-- those places that are new, each once -/
def ddG : List Nat → List Row → List Row × List Nat
  | seen, [] => ([], seen)
  | seen, x :: r => if x.2 ∈ seen then ddG seen r else ((x :: (ddG (seen ++ [x.2]) r).1), (ddG (seen ++ [x.2]) r).2)
theorem srch_dd {γ : Type} (φ : Nat → Option γ) : ∀ (R : List Row) (seen : List Nat), (∀ p ∈ seen, φ p = none) → srch φ (ddG seen R).1 = srch φ R
  | [], _, _ => rfl
  | x :: r, seen, h => by
    unfold ddG
    by_cases q : x.2 ∈ seen
    · rw [if_pos q, srch_dd φ r seen h]
      unfold srch
      rw [List.findSome?_cons, h _ q]
      rfl
    · rw [if_neg q]
      unfold srch
      rw [List.findSome?_cons, List.findSome?_cons]
      cases hx : φ x.2 with
      | some v => rfl
      | none =>
        show srch φ (ddG (seen ++ [x.2]) r).1 = srch φ r
        exact srch_dd φ r _ fun p hp => by
          rcases List.mem_append.mp hp with z | z
          · exact h p z
          · rw [List.mem_singleton.mp z]; exact hx
theorem dd_seen : ∀ (R : List Row) (seen : List Nat) (p : Nat), p ∈ (ddG seen R).2 ↔ p ∈ seen ∨ ∃ x ∈ R, x.2 = p
  | [], seen, p => by simp [ddG]
  | x :: r, seen, p => by
    unfold ddG
    by_cases q : x.2 ∈ seen
    · rw [if_pos q, dd_seen r seen p]
      constructor
      · rintro (z | ⟨y, hy, e⟩)
        · exact .inl z
        · exact .inr ⟨y, List.mem_cons_of_mem _ hy, e⟩
      · rintro (z | ⟨y, hy, e⟩)
        · exact .inl z
        · rcases List.mem_cons.mp hy with w | w
          · rw [w] at e; exact .inl (e ▸ q)
          · exact .inr ⟨y, w, e⟩
    · rw [if_neg q]
      show p ∈ (ddG (seen ++ [x.2]) r).2 ↔ _
      rw [dd_seen r _ p, List.mem_append, List.mem_singleton]
      constructor
      · rintro ((z | z) | ⟨y, hy, e⟩)
        · exact .inl z
        · exact .inr ⟨x, List.mem_cons_self, z.symm⟩
        · exact .inr ⟨y, List.mem_cons_of_mem _ hy, e⟩
      · rintro (z | ⟨y, hy, e⟩)
        · exact .inl (.inl z)
        · rcases List.mem_cons.mp hy with w | w
          · rw [w] at e; exact .inl (.inr e.symm)
          · exact .inr ⟨y, w, e⟩
theorem dd_sub : ∀ (R : List Row) (seen : List Nat), ∀ x ∈ (ddG seen R).1, x ∈ R
  | [], _, x, h => by simp [ddG] at h
  | y :: r, seen, x, h => by
    unfold ddG at h
    split at h
    · exact List.mem_cons_of_mem _ (dd_sub r seen x h)
    · rcases List.mem_cons.mp h with e | e
      · rw [e]; exact List.mem_cons_self
      · exact List.mem_cons_of_mem _ (dd_sub r _ x e)
theorem dd_len : ∀ (R : List Row) (seen : List Nat), (ddG seen R).1.length + seen.length = (ddG seen R).2.length
  | [], seen => by simp [ddG]
  | y :: r, seen => by
    unfold ddG
    split
    · exact dd_len r seen
    · have := dd_len r (seen ++ [y.2])
      simp only [List.length_cons, List.length_append, List.length_nil] at this ⊢
      omega
theorem dd_nodup : ∀ (R : List Row) (seen : List Nat), seen.Nodup → (ddG seen R).2.Nodup
  | [], seen, h => h
  | y :: r, seen, h => by
    unfold ddG
    split
    · exact dd_nodup r seen h
    · rename_i q
      refine dd_nodup r _ ?_
      rw [List.nodup_append]
      exact ⟨h, by simp, fun a ha c hc => by rw [List.mem_singleton.mp hc]; intro e; exact q (e ▸ ha)⟩
variable (β sf b m) in
/-- the rows and the places that the search keeps -/
def PG : Nat → List Row × List Nat
  | 0 => ([([], 0)], [])
  | r + 1 => ddG (PG r).2 (nextG β sf b m (PG r).1)
/-- a place is reached in so many steps -/
def At (R : Nat → List Row) (r p : Nat) : Prop := ∃ x ∈ R r, x.2 = p
theorem at_next {r p : Nat} {y : Wd × Nat} (h : At (RG β sf b m) r p) (hy : y ∈ stpG β sf b m p) : At (RG β sf b m) (r + 1) y.2 := by
  obtain ⟨x, hx, rfl⟩ := h
  refine ⟨(x.1 ++ [y.1], y.2), ?_, rfl⟩
  show _ ∈ nextG β sf b m (RG β sf b m r)
  unfold nextG
  exact List.mem_flatMap.mpr ⟨x, hx, List.mem_map.mpr ⟨y, hy, rfl⟩⟩
theorem PG_inv : ∀ r, (∀ p ∈ (PG β sf b m r).2, ∃ r', 1 ≤ r' ∧ r' ≤ r ∧ At (RG β sf b m) r' p) ∧ (∀ x ∈ (PG β sf b m r).1, x ∈ RG β sf b m r) ∧
    ∀ {γ : Type} (φ : Nat → Option γ), (∀ r' < r, ∀ p, At (RG β sf b m) r' p → φ p = none) → srch φ (PG β sf b m r).1 = srch φ (RG β sf b m r)
  | 0 => ⟨fun p hp => by simp [PG] at hp, fun x hx => hx, fun φ _ => rfl⟩
  | r + 1 => by
    obtain ⟨h1, h2, h3⟩ := PG_inv r
    have hn : ∀ x ∈ nextG β sf b m (PG β sf b m r).1, x ∈ RG β sf b m (r + 1) := fun x hx => by
      unfold nextG at hx
      obtain ⟨y, hy, hx2⟩ := List.mem_flatMap.mp hx
      show x ∈ nextG β sf b m (RG β sf b m r)
      unfold nextG
      exact List.mem_flatMap.mpr ⟨y, h2 y hy, hx2⟩
    refine ⟨fun p hp => ?_, fun x hx => hn x (dd_sub _ _ x hx), fun φ hφ => ?_⟩
    · rcases (dd_seen _ _ p).mp hp with z | ⟨x, hx, e⟩
      · obtain ⟨r', a1, a2, a3⟩ := h1 p z
        exact ⟨r', a1, by omega, a3⟩
      · exact ⟨r + 1, by omega, by omega, x, hn x hx, e⟩
    · show srch φ (ddG (PG β sf b m r).2 (nextG β sf b m (PG β sf b m r).1)).1 = srch φ (nextG β sf b m (RG β sf b m r))
      rw [srch_dd φ _ _ fun p hp => ?_, srch_next, srch_next, h3 (psi (stpG β sf b m) φ) fun r' hr' p hp => ?_]
      · unfold psi
        rw [List.findSome?_eq_none_iff]
        intro y hy
        rw [hφ (r' + 1) (by omega) y.2 (at_next hp hy)]
        rfl
      · obtain ⟨r', a1, a2, a3⟩ := h1 p hp
        exact hφ r' (by omega) p a3
/-- the last word of a line that is all -/
def fin1 (stp : Nat → List (Wd × Nat)) (M : Nat) (ok : Wd → Bool) (p : Nat) : Option Wd := (stp p).findSome? fun y => if (y.2 == M && ok y.1) = true then some y.1 else none
theorem srch_lvl (S : SF sf) (ok : Wd → Bool) (r : Nat) : (srch (fin1 (stpG β sf b m) m.length ok) (RG β sf b m r)).map (fun q => q.1 ++ [q.2]) = (lvl β sf b m (r + 1)).find? fun l => ok (l.getLastD ([], 0)) := by
  have e1 : (srch (fin1 (stpG β sf b m) m.length ok) (RG β sf b m r)).map (fun q => q.1 ++ [q.2]) = (RG β sf b m (r + 1)).findSome? fun x => if (x.2 == m.length && ok (x.1.getLastD ([], 0))) = true then some x.1 else none := by
    show _ = (nextG β sf b m (RG β sf b m r)).findSome? _
    unfold srch nextG
    rw [findSome_flatMap, ← findSome_omap]
    apply findSome_congr
    intro x _
    rw [findSome_map]
    unfold fin1
    rw [Option.map_map, ← findSome_omap]
    apply findSome_congr
    intro y _
    simp only [List.getLastD_concat]
    split <;> rfl
  rw [e1, ← lvl_eq S (r + 1)]
  generalize RG β sf b m (r + 1) = L
  induction L with
  | nil => rfl
  | cons x r ih =>
    rw [List.findSome?_cons, List.filter_cons]
    by_cases h1 : (x.2 == m.length) = true
    · rw [if_pos h1, List.map_cons, List.find?_cons, h1, Bool.true_and]
      by_cases h2 : ok (x.1.getLastD ([], 0)) = true
      · rw [if_pos h2, h2]
      · rw [if_neg h2, ih]
        simp only [Bool.not_eq_true] at h2
        rw [h2]
    · rw [if_neg h1]
      simp only [Bool.not_eq_true] at h1
      rw [h1, Bool.false_and]
      simp only [Bool.false_eq_true, if_false]
      exact ih
variable (β sf b m) in
/-- what the search tells -/
def shortG (ok : Wd → Bool) : Nat → Nat → Option (List Wd)
  | 0, _ => none
  | k + 1, r => match srch (fin1 (stpG β sf b m) m.length ok) (PG β sf b m r).1 with
    | some q => some (q.1 ++ [q.2])
    | none => shortG ok k (r + 1)
theorem short_find (S : SF sf) (ok : Wd → Bool) : ∀ k r, (∀ r' < r, srch (fin1 (stpG β sf b m) m.length ok) (RG β sf b m r') = none) → shortG β sf b m ok k r = ((List.range' r k).flatMap fun j => lvl β sf b m (j + 1)).find? fun l => ok (l.getLastD ([], 0))
  | 0, r, _ => rfl
  | k + 1, r, h => by
    have hp : srch (fin1 (stpG β sf b m) m.length ok) (PG β sf b m r).1 = srch (fin1 (stpG β sf b m) m.length ok) (RG β sf b m r) := (PG_inv r).2.2 _ fun r' hr' p ⟨x, hx, e⟩ => by
      have := h r' hr'
      unfold srch at this
      rw [List.findSome?_eq_none_iff] at this
      have q := this x hx
      rw [e] at q
      simpa using q
    unfold shortG
    rw [List.range'_succ, List.flatMap_cons, List.find?_append, ← srch_lvl S ok r, hp]
    cases q : srch (fin1 (stpG β sf b m) m.length ok) (RG β sf b m r) with
    | some v => rfl
    | none =>
      show shortG β sf b m ok k (r + 1) = _
      rw [short_find S ok k (r + 1) fun r' hr' => ?_]
      · rfl
      · by_cases e : r' = r
        · rw [e]; exact q
        · exact h r' (by omega)
theorem short_all (S : SF sf) (ok : Wd → Bool) (k : Nat) : shortG β sf b m ok k 0 = (goodL β sf b m k).find? fun l => ok (l.getLastD ([], 0)) := by
  rw [short_find S ok k 0 (fun r' h => by omega)]
  unfold goodL
  rw [List.range_eq_range']
end
end VE

/-! Dicts by numbers; lines counted: no program here. -/
namespace VE
open Res
abbrev DN := List (Nat × Int)
def keysN (d : DN) : List D := d.map fun r => .int (r.1 : Int)
def valsN (d : DN) : List D := d.map fun r => .int r.2
def dicN (d : DN) : D := .dic (keysN d) (valsN d)
def lookN : DN → Nat → Option Int
  | [], _ => none
  | r :: d, k => if r.1 = k then some r.2 else lookN d k
theorem dget_N (k : Nat) : ∀ d : DN, dget (.int (k : Int)) (keysN d) (valsN d) = (lookN d k).map .int
  | [] => rfl
  | r :: d => by
    have ih := dget_N k d
    unfold keysN valsN at ih ⊢
    simp only [List.map_cons, dget, lookN, keyEq, ih, beq_iff_eq]
    by_cases e : r.1 = k
    · rw [if_pos e, if_pos (by omega)]; rfl
    · rw [if_neg e, if_neg (by omega)]
theorem lookN_isSome {d : DN} {k : Nat} : (lookN d k).isSome = true ↔ k ∈ d.map (·.1) := by
  induction d with
  | nil => simp [lookN]
  | cons r d ih =>
    simp only [lookN, List.map_cons, List.mem_cons]
    split
    · rename_i e; simp [e]
    · rename_i e; rw [ih]; exact ⟨.inr, fun q => q.resolve_left fun z => e z.symm⟩
theorem keysN_any (k : Nat) (d : DN) : (keysN d).any (fun x => keyEq x (.int (k : Int))) = (lookN d k).isSome := by
  induction d with
  | nil => rfl
  | cons r d ih =>
    unfold keysN at ih ⊢
    rw [List.map_cons, List.any_cons, ih, lookN]
    show (((r.1 : Int) == (k : Int)) || _) = _
    by_cases e : r.1 = k
    · simp [e]
    · rw [if_neg e, beq_eq_false_iff_ne.mpr (by omega), Bool.false_or]
def putN (k : Nat) (v : Int) (d : DN) : DN := if (lookN d k).isSome then d.map (fun r => if r.1 = k then (r.1, v) else r) else d ++ [(k, v)]
theorem zipV_N (k : Nat) (v : Int) : ∀ d : DN, zipV (.int (k : Int)) (.int v) (keysN d) (valsN d) = valsN (d.map fun r => if r.1 = k then (r.1, v) else r)
  | [] => rfl
  | r :: d => by
    have ih := zipV_N k v d
    unfold keysN valsN at ih ⊢
    simp only [List.map_cons, zipV, keyEq, ih, beq_iff_eq]
    congr 1
    by_cases e : r.1 = k
    · rw [if_pos e, if_pos (by omega)]
    · rw [if_neg e, if_neg (by omega)]
theorem keysN_set (k : Nat) (v : Int) (d : DN) : keysN (d.map fun r => if r.1 = k then (r.1, v) else r) = keysN d := by
  unfold keysN
  rw [List.map_map]
  apply List.map_congr_left
  intro r _
  show D.int ((if r.1 = k then (r.1, v) else r).1 : Int) = _
  split <;> rfl
theorem dput_N (k : Nat) (v : Int) (d : DN) : dput (.int (k : Int)) (.int v) (keysN d) (valsN d) = (keysN (putN k v d), valsN (putN k v d)) := by
  unfold dput putN
  rw [keysN_any]
  split
  · rw [zipV_N, keysN_set]
  · simp [keysN, valsN]
theorem putN_keys (k : Nat) (v : Int) (d : DN) : (putN k v d).map (·.1) = if k ∈ d.map (·.1) then d.map (·.1) else d.map (·.1) ++ [k] := by
  unfold putN
  by_cases e : k ∈ d.map (·.1)
  · rw [if_pos (lookN_isSome.mpr e), if_pos e, List.map_map]
    apply List.map_congr_left
    intro r _
    show (if r.1 = k then (r.1, v) else r).1 = _
    split <;> rfl
  · rw [if_neg (fun q => e (lookN_isSome.mp q)), if_neg e]
    simp
theorem putN_nodup {k : Nat} {v : Int} {d : DN} (h : (d.map (·.1)).Nodup) : ((putN k v d).map (·.1)).Nodup := by
  rw [putN_keys]
  split
  · exact h
  · rename_i q
    rw [List.nodup_append]
    exact ⟨h, by simp, fun a ha b hb => by rw [List.mem_singleton.mp hb]; intro e; exact q (e ▸ ha)⟩
theorem putN_mem {k j : Nat} {v : Int} {d : DN} : j ∈ (putN k v d).map (·.1) ↔ j = k ∨ j ∈ d.map (·.1) := by
  rw [putN_keys]
  split
  · rename_i q
    exact ⟨.inr, fun z => z.elim (fun e => e ▸ q) id⟩
  · rw [List.mem_append, List.mem_singleton]
    exact ⟨fun z => z.elim .inr .inl, fun z => z.elim .inr .inl⟩
theorem lookN_put (k j : Nat) (v : Int) (d : DN) : lookN (putN k v d) j = if j = k then some v else lookN d j := by
  unfold putN
  split
  · rename_i h
    induction d with
    | nil => simp [lookN] at h
    | cons r d ih =>
      simp only [List.map_cons, lookN]
      by_cases e : r.1 = k
      · rw [if_pos e]
        by_cases ej : j = k
        · rw [if_pos (e.trans ej.symm), if_pos ej]
        · rw [if_neg (fun z => ej (z.symm.trans e)), if_neg ej, if_neg (fun z => ej (z.symm.trans e))]
          by_cases hs : (lookN d k).isSome = true
          · rw [ih hs, if_neg ej]
          · have : d.map (fun r => if r.1 = k then (r.1, v) else r) = d := by
              have hk : k ∉ d.map (·.1) := fun q => hs (lookN_isSome.mpr q)
              calc d.map (fun r => if r.1 = k then (r.1, v) else r) = d.map id := by
                    apply List.map_congr_left
                    intro r hr
                    rw [if_neg]
                    · rfl
                    · exact fun z => hk (z ▸ List.mem_map.mpr ⟨r, hr, rfl⟩)
                _ = d := List.map_id d
            rw [this]
      · rw [if_neg e]
        have hs : (lookN d k).isSome = true := by
          simp only [lookN, if_neg e] at h
          exact h
        by_cases ej : r.1 = j
        · rw [if_pos ej, if_pos ej, if_neg (fun z => e (ej.trans z))]
        · rw [if_neg ej, ih hs, if_neg ej]
  · rename_i h
    have hk : lookN d k = none := by
      cases q : lookN d k with
      | none => rfl
      | some x => rw [q] at h; simp at h
    clear h
    induction d with
    | nil =>
      by_cases ej : j = k
      · subst ej; simp [lookN]
      · rw [if_neg ej]; simp [lookN, Ne.symm ej]
    | cons r d ih =>
      have e : ¬ r.1 = k := fun e => by simp [lookN, e] at hk
      have hk2 : lookN d k = none := by simpa [lookN, e] using hk
      rw [List.cons_append, lookN, lookN]
      by_cases ej : r.1 = j
      · rw [if_pos ej, if_pos ej, if_neg (fun z => e (ej.trans z))]
      · rw [if_neg ej, if_neg ej, ih hk2]
def getN (d : DN) (k : Nat) : Int := (lookN d k).getD 0
theorem getN_put (k j : Nat) (v : Int) (d : DN) : getN (putN k v d) j = if j = k then v else getN d j := by
  unfold getN
  rw [lookN_put]
  split <;> rfl
theorem getN_of {d : DN} (h : (d.map (·.1)).Nodup) {r : Nat × Int} (hr : r ∈ d) : getN d r.1 = r.2 := by
  induction d with
  | nil => cases hr
  | cons x d ih =>
    rw [List.map_cons, List.nodup_cons] at h
    unfold getN lookN
    rcases List.mem_cons.mp hr with e | e
    · rw [e, if_pos rfl]; rfl
    · have hx : ¬ x.1 = r.1 := fun z => h.1 (by rw [z]; exact List.mem_map.mpr ⟨r, e, rfl⟩)
      rw [if_neg hx]
      exact ih h.2 e
/-! ### counted -/
def addG (v : Int) (d : DN) (ys : List (Wd × Nat)) : DN := ys.foldl (fun d y => putN y.2 (getN d y.2 + v) d) d
def nextD (stp : Nat → List (Wd × Nat)) (here : DN) : DN := here.foldl (fun d r => addG r.2 d (stp r.1)) []
def cN (ys : List (Wd × Nat)) (q : Nat) : Int := (ys.countP fun y => y.2 == q : Nat)
def cR (R : List Row) (q : Nat) : Int := (R.countP fun x => x.2 == q : Nat)
theorem addG_get (v : Int) (q : Nat) : ∀ (ys : List (Wd × Nat)) (d : DN), getN (addG v d ys) q = getN d q + v * cN ys q
  | [], d => by simp [addG, cN]
  | y :: ys, d => by
    show getN (addG v (putN y.2 (getN d y.2 + v) d) ys) q = _
    rw [addG_get v q ys, getN_put]
    unfold cN
    rw [List.countP_cons]
    by_cases e : q = y.2
    · subst e
      simp only [if_pos, beq_self_eq_true, if_true, Int.natCast_add, Int.natCast_one]
      rw [Int.mul_add]
      omega
    · have e' : (y.2 == q) = false := beq_eq_false_iff_ne.mpr fun z => e z.symm
      rw [if_neg e, e']
      simp
theorem addG_keys (v : Int) : ∀ (ys : List (Wd × Nat)) (d : DN), (d.map (·.1)).Nodup → ((addG v d ys).map (·.1)).Nodup ∧ ∀ k, k ∈ (addG v d ys).map (·.1) ↔ k ∈ d.map (·.1) ∨ ∃ y ∈ ys, y.2 = k
  | [], d, h => ⟨h, fun k => by simp [addG]⟩
  | y :: ys, d, h => by
    obtain ⟨h1, h2⟩ := addG_keys v ys (putN y.2 (getN d y.2 + v) d) (putN_nodup h)
    refine ⟨h1, fun k => ?_⟩
    show k ∈ (addG v (putN y.2 (getN d y.2 + v) d) ys).map (·.1) ↔ _
    rw [h2 k, putN_mem]
    constructor
    · rintro ((z | z) | ⟨x, hx, e⟩)
      · exact .inr ⟨y, List.mem_cons_self, z.symm⟩
      · exact .inl z
      · exact .inr ⟨x, List.mem_cons_of_mem _ hx, e⟩
    · rintro (z | ⟨x, hx, e⟩)
      · exact .inl (.inr z)
      · rcases List.mem_cons.mp hx with w | w
        · rw [w] at e; exact .inl (.inl e.symm)
        · exact .inr ⟨x, w, e⟩
def nextDF (stp : Nat → List (Wd × Nat)) (d0 here : DN) : DN := here.foldl (fun d r => addG r.2 d (stp r.1)) d0
theorem nextDF_get (stp : Nat → List (Wd × Nat)) (q : Nat) : ∀ (here d : DN), getN (nextDF stp d here) q = getN d q + (here.map fun r => r.2 * cN (stp r.1) q).sum
  | [], d => by simp [nextDF]
  | r :: here, d => by
    show getN (nextDF stp (addG r.2 d (stp r.1)) here) q = _
    rw [nextDF_get stp q here, addG_get, List.map_cons, List.sum_cons]
    omega
theorem nextDF_keys (stp : Nat → List (Wd × Nat)) : ∀ (here d : DN), (d.map (·.1)).Nodup → ((nextDF stp d here).map (·.1)).Nodup ∧ ∀ k, k ∈ (nextDF stp d here).map (·.1) ↔ k ∈ d.map (·.1) ∨ ∃ r ∈ here, ∃ y ∈ stp r.1, y.2 = k
  | [], d, h => ⟨h, fun k => by simp [nextDF]⟩
  | r :: here, d, h => by
    obtain ⟨a1, a2⟩ := addG_keys r.2 (stp r.1) d h
    obtain ⟨h1, h2⟩ := nextDF_keys stp here _ a1
    refine ⟨h1, fun k => ?_⟩
    show k ∈ (nextDF stp (addG r.2 d (stp r.1)) here).map (·.1) ↔ _
    rw [h2 k, a2 k]
    constructor
    · rintro ((z | ⟨y, hy, e⟩) | ⟨x, hx, q⟩)
      · exact .inl z
      · exact .inr ⟨r, List.mem_cons_self, y, hy, e⟩
      · exact .inr ⟨x, List.mem_cons_of_mem _ hx, q⟩
    · rintro (z | ⟨x, hx, y, hy, e⟩)
      · exact .inl (.inl z)
      · rcases List.mem_cons.mp hx with w | w
        · rw [w] at hy; exact .inl (.inr ⟨y, hy, e⟩)
        · exact .inr ⟨x, w, y, hy, e⟩
theorem sum_at (f : Nat → Int) (p : Nat) : ∀ K : List Nat, K.Nodup → p ∈ K → (K.map fun k => if p = k then f k else 0).sum = f p
  | [], _, h => by cases h
  | k :: K, hn, h => by
    rw [List.nodup_cons] at hn
    rw [List.map_cons, List.sum_cons]
    by_cases e : p = k
    · subst e
      have h0 : ∀ l : List Nat, p ∉ l → (l.map fun k => if p = k then f k else 0).sum = 0 := fun l => by
        induction l with
        | nil => intro _; rfl
        | cons z l ih2 =>
          intro q
          rw [List.mem_cons, not_or] at q
          rw [List.map_cons, List.sum_cons, if_neg q.1, ih2 q.2]; rfl
      rw [if_pos rfl, h0 K hn.1]; omega
    · rw [if_neg e, sum_at f p K hn.2 ((List.mem_cons.mp h).resolve_left e)]; omega
theorem sum_rows (f : Nat → Int) {K : List Nat} (hn : K.Nodup) : ∀ R : List Row, (∀ x ∈ R, x.2 ∈ K) → (K.map fun k => cR R k * f k).sum = (R.map fun x => f x.2).sum
  | [], _ => by
    have : (K.map fun k => cR [] k * f k) = K.map fun _ => (0 : Int) := by
      apply List.map_congr_left
      intro k _
      simp [cR]
    rw [this, sum_zero]
    rfl
  | x :: R, h => by
    have ih := sum_rows f hn R fun y hy => h y (List.mem_cons_of_mem _ hy)
    have e : (K.map fun k => cR (x :: R) k * f k) = K.map fun k => (if x.2 = k then f k else 0) + cR R k * f k := by
      apply List.map_congr_left
      intro k _
      unfold cR
      rw [List.countP_cons]
      by_cases q : x.2 = k
      · rw [if_pos (by simpa using q), if_pos q]
        simp only [Int.natCast_add, Int.natCast_one, Int.add_mul, Int.one_mul]
        omega
      · rw [if_neg (by simpa using q), if_neg q]
        simp
    rw [e, sum_add, sum_at f x.2 K hn (h x List.mem_cons_self), ih, List.map_cons, List.sum_cons]
section
variable {β : Wd → St} {sf : St → St → Bool} {b : List Wd} {m : St}
theorem cR_next (q : Nat) : ∀ R : List Row, cR (nextG β sf b m R) q = (R.map fun x => cN (stpG β sf b m x.2) q).sum
  | [] => rfl
  | x :: R => by
    have ih := cR_next q R
    have e : nextG β sf b m (x :: R) = ((stpG β sf b m x.2).map fun y => (x.1 ++ [y.1], y.2)) ++ nextG β sf b m R := rfl
    rw [e]
    have e2 : ∀ A B : List Row, cR (A ++ B) q = cR A q + cR B q := fun A B => by
      unfold cR
      rw [List.countP_append]
      simp
    rw [e2, ih, List.map_cons, List.sum_cons]
    congr 1
    unfold cR cN
    rw [List.countP_map]
    rfl
/-- a dict that counts rows -/
structure ND (M : Nat) (R : List Row) (d : DN) : Prop where
  nd : (d.map (·.1)).Nodup
  val : ∀ p, getN d p = cR R p
  cov : ∀ x ∈ R, x.2 ∈ d.map (·.1)
  le : ∀ k ∈ d.map (·.1), k ≤ M
theorem stpG_le (S : SF sf) {p : Nat} {y : Wd × Nat} (h : y ∈ stpG β sf b m p) : y.2 ≤ max p m.length ∧ y.1 ∈ b := by
  unfold stpG at h
  obtain ⟨w, hw, rfl⟩ := List.mem_map.mp h
  obtain ⟨h1, h2⟩ := List.mem_filter.mp hw
  have := S.len h2
  rw [List.length_take, List.length_drop] at this
  refine ⟨?_, h1⟩
  show p + (β w).length ≤ _
  omega
theorem ND.next (S : SF sf) {R : List Row} {d : DN} (h : ND m.length R d) : ND m.length (nextG β sf b m R) (nextD (stpG β sf b m) d) := by
  obtain ⟨k1, k2⟩ := nextDF_keys (stpG β sf b m) d [] (by simp)
  refine ⟨k1, fun q => ?_, fun x hx => ?_, fun k hk => ?_⟩
  · show getN (nextDF (stpG β sf b m) [] d) q = _
    rw [nextDF_get, cR_next]
    have h0 : getN [] q = 0 := rfl
    rw [h0, Int.zero_add, ← sum_rows (fun p => cN (stpG β sf b m p) q) h.nd R h.cov, List.map_map]
    congr 1
    apply List.map_congr_left
    intro r hr
    show r.2 * _ = cR R r.1 * _
    rw [← h.val, getN_of h.nd hr]
  · unfold nextG at hx
    obtain ⟨y, hy, hx2⟩ := List.mem_flatMap.mp hx
    obtain ⟨z, hz, rfl⟩ := List.mem_map.mp hx2
    refine (k2 _).mpr (.inr ?_)
    obtain ⟨r, hr, e⟩ := List.mem_map.mp (h.cov y hy)
    exact ⟨r, hr, z, by rw [e]; exact hz, rfl⟩
  · rcases (k2 k).mp hk with z | ⟨r, hr, y, hy, e⟩
    · cases z
    · have h1 := (stpG_le S hy).1
      have h2 := h.le r.1 (List.mem_map.mpr ⟨r, hr, rfl⟩)
      omega
variable (β sf b m) in
def hereD : Nat → DN
  | 0 => [(0, 1)]
  | r + 1 => nextD (stpG β sf b m) (hereD r)
theorem hereD_ok (S : SF sf) : ∀ r, ND m.length (RG β sf b m r) (hereD β sf b m r)
  | 0 => ⟨by simp [hereD], fun p => by
      unfold getN cR
      by_cases e : p = 0
      · subst e; rfl
      · have e' : ¬ 0 = p := fun z => e z.symm
        simp [hereD, RG, lookN, e'], fun x hx => by
      rw [List.mem_singleton.mp hx]; simp [hereD], fun k hk => by
      simp [hereD] at hk
      omega⟩
  | r + 1 => (hereD_ok S r).next S
theorem cR_lvl (S : SF sf) (r : Nat) : cR (RG β sf b m r) m.length = ((lvl β sf b m r).length : Nat) := by
  rw [← lvl_eq S r, List.length_map, ← List.countP_eq_length_filter]
  rfl
end
end VE

namespace LW
open VE
def d_is_letters : FDef := { np := 3, kds := [.ord, .ord, .ord, .ord], fresh := false, body :=
  (.cons (.ret (.and (.cons (.isi (.v 0) [.str]) (.cons (.cmp2 .le .le (.v 1) (.b1 .len (.v 0)) (.v 2)) (.cons (.b1 .all (.lc (.nm 3) (.e (.v 0)) .no (.cmp .inn (.v 3) (.c (.str [97, 98, 99, 100, 101, 102, 103, 104, 105, 106, 107, 108, 109, 110, 111, 112, 113, 114, 115, 116, 117, 118, 119, 120, 121, 122]))))) .nil)))))
  .nil) }
def d_is_row : FDef := { np := 1, kds := [.ord, .ord], fresh := false, body :=
  (.cons (.ite (.or (.cons (.not (.isi (.v 0) [.tuple])) (.cons (.cmp .ne (.b1 .len (.v 0)) (.c (.int 2))) (.cons (.not (.call 0 (.cons (.ix (.v 0) (.c (.int 0))) (.cons (.c (.int 1)) (.cons (.c (.int 3)) .nil))))) .nil)))) (.cons (.ret (.c (.bl false)))
  .nil) .nil)
  (.cons (.ret (.and (.cons (.isi (.ix (.v 0) (.c (.int 1))) [.str]) (.cons (.cmp .le (.b1 .len (.ix (.v 0) (.c (.int 1)))) (.c (.int 2))) (.cons (.b1 .all (.lc (.nm 1) (.e (.ix (.v 0) (.c (.int 1)))) .no (.cmp .inn (.v 1) (.bin .add (.c (.str [65, 69, 73, 79, 85])) (.c (.str [66, 68, 70, 71, 75, 76, 77, 78, 80, 82, 83, 84, 86, 90])))))) .nil)))))
  .nil)) }
def d_is_table : FDef := { np := 1, kds := [.ord, .ord, .ord], fresh := true, body :=
  (.cons (.ite (.or (.cons (.not (.isi (.v 0) [.tuple])) (.cons (.not (.cmp2 .le .le (.c (.int 1)) (.b1 .len (.v 0)) (.c (.int 20)))) (.cons (.not (.b1 .all (.lc (.nm 2) (.e (.v 0)) .no (.call 1 (.cons (.v 2) .nil))))) .nil)))) (.cons (.ret (.c (.bl false)))
  .nil) .nil)
  (.cons (.asg 1 (.lc (.nm 2) (.e (.v 0)) .no (.ix (.v 2) (.c (.int 0)))))
  (.cons (.ret (.cmp .eq (.v 1) (.b1 .sortset (.v 1))))
  .nil))) }
def d_look_table : FDef := { np := 1, kds := [.ord], fresh := true, body :=
  (.cons (.ite (.not (.call 2 (.cons (.v 0) .nil))) (.cons (.rse 1)
  .nil) .nil)
  .nil) }
def b_parts_of_1 : Ss :=
  (.cons (.asg 5 (.lc (.nm 6) (.e (.tup (.cons (.c (.int 3)) (.cons (.c (.int 2)) (.cons (.c (.int 1)) .nil))))) (.yes (.and (.cons (.cmp .inn (.sl (.v 1) (.yes (.v 4)) (.yes (.bin .add (.v 4) (.v 6)))) (.v 2)) (.cons (.cmp .le (.bin .add (.v 4) (.v 6)) (.b1 .len (.v 1))) .nil)))) (.v 6)))
  (.cons (.ite (.cmp .eq (.v 5) (.lst .nil)) (.cons (.ret (.c .non))
  .nil) .nil)
  (.cons (.app 3 (.sl (.v 1) (.yes (.v 4)) (.yes (.bin .add (.v 4) (.ix (.v 5) (.c (.int 0)))))))
  (.cons (.asg 4 (.bin .add (.v 4) (.ix (.v 5) (.c (.int 0)))))
  .nil))))
def d_parts_of : FDef := { np := 2, kds := [.ord, .ord, .ord, .own, .ord, .ord, .ord], fresh := true, body :=
  (.cons (.asg 2 (.b1 .dict (.v 0)))
  (.cons (.asgo 3 (.lst .nil))
  (.cons (.asg 4 (.c (.int 0)))
  (.cons (.whl (.cmp .lt (.v 4) (.b1 .len (.v 1))) b_parts_of_1)
  (.cons (.ret (.v 3))
  .nil))))) }
def d_sounds_of : FDef := { np := 2, kds := [.ord, .ord, .ord, .ord], fresh := true, body :=
  (.cons (.asg 2 (.call 4 (.cons (.v 0) (.cons (.v 1) .nil))))
  (.cons (.ret (.ite (.cmp .is (.v 2) (.c .non)) (.c .non) (.m1 .join (.c (.str [])) (.lc (.nm 3) (.e (.v 2)) .no (.ix (.b1 .dict (.v 0)) (.v 3))))))
  .nil)) }
def d_vowels_in : FDef := { np := 1, kds := [.ord, .ord, .ord], fresh := true, body :=
  (.cons (.ret (.lc (.tp [1, 2]) (.enum (.v 0)) (.yes (.cmp .inn (.v 2) (.c (.str [65, 69, 73, 79, 85])))) (.v 1)))
  .nil) }
def d_is_word_of : FDef := { np := 2, kds := [.ord, .ord, .ord], fresh := false, body :=
  (.cons (.ite (.or (.cons (.not (.isi (.v 1) [.tuple])) (.cons (.cmp .ne (.b1 .len (.v 1)) (.c (.int 2))) (.cons (.not (.call 0 (.cons (.ix (.v 1) (.c (.int 0))) (.cons (.c (.int 1)) (.cons (.c (.int 10)) .nil))))) .nil)))) (.cons (.ret (.c (.bl false)))
  .nil) .nil)
  (.cons (.ite (.or (.cons (.not (.isi (.ix (.v 1) (.c (.int 1))) [.int])) (.cons (.isi (.ix (.v 1) (.c (.int 1))) [.bool]) (.cons (.not (.cmp2 .le .le (.c (.int 1)) (.ix (.v 1) (.c (.int 1))) (.c (.int 3)))) .nil)))) (.cons (.ret (.c (.bl false)))
  .nil) .nil)
  (.cons (.asg 2 (.call 5 (.cons (.v 0) (.cons (.ix (.v 1) (.c (.int 0))) .nil))))
  (.cons (.ret (.and (.cons (.cmp .isnot (.v 2) (.c .non)) (.cons (.cmp .le (.ix (.v 1) (.c (.int 1))) (.b1 .len (.call 6 (.cons (.v 2) .nil)))) .nil))))
  .nil)))) }
def d_stress_at : FDef := { np := 2, kds := [.ord, .ord, .ord], fresh := false, body :=
  (.cons (.asg 2 (.call 6 (.cons (.v 0) .nil)))
  (.cons (.ret (.ix (.v 2) (.bin .sub (.b1 .len (.v 2)) (.v 1))))
  .nil)) }
def d_tail_of : FDef := { np := 2, kds := [.ord, .ord, .ord], fresh := true, body :=
  (.cons (.asg 2 (.call 5 (.cons (.v 0) (.cons (.ix (.v 1) (.c (.int 0))) .nil))))
  (.cons (.ret (.sl (.v 2) (.yes (.call 8 (.cons (.v 2) (.cons (.ix (.v 1) (.c (.int 1))) .nil)))) .no))
  .nil)) }
def d_is_line_of : FDef := { np := 2, kds := [.ord, .ord, .ord], fresh := true, body :=
  (.cons (.ite (.or (.cons (.not (.isi (.v 1) [.tuple])) (.cons (.not (.cmp2 .le .le (.c (.int 1)) (.b1 .len (.v 1)) (.c (.int 6)))) .nil))) (.cons (.ret (.c (.bl false)))
  .nil) .nil)
  (.cons (.ret (.b1 .all (.lc (.nm 2) (.e (.v 1)) .no (.call 7 (.cons (.v 0) (.cons (.v 2) .nil))))))
  .nil)) }
def d_is_line : FDef := { np := 2, kds := [.ord, .ord], fresh := true, body :=
  (.cons (.ex (.call 3 (.cons (.v 0) .nil)))
  (.cons (.ret (.call 10 (.cons (.v 0) (.cons (.v 1) .nil))))
  .nil)) }
def d_look_line : FDef := { np := 2, kds := [.ord, .ord], fresh := true, body :=
  (.cons (.ite (.not (.call 11 (.cons (.v 0) (.cons (.v 1) .nil)))) (.cons (.rse 2)
  .nil) .nil)
  .nil) }
def d_is_metre : FDef := { np := 1, kds := [.ord, .ord], fresh := true, body :=
  (.cons (.ite (.or (.cons (.not (.isi (.v 0) [.str])) (.cons (.not (.cmp2 .le .le (.c (.int 1)) (.b1 .len (.v 0)) (.c (.int 16)))) .nil))) (.cons (.ret (.c (.bl false)))
  .nil) .nil)
  (.cons (.ret (.b1 .all (.lc (.nm 1) (.e (.v 0)) .no (.cmp .inn (.v 1) (.bin .add (.bin .add (.c (.str [47])) (.c (.str [45]))) (.c (.str [63])))))))
  .nil)) }
def d_word_beats : FDef := { np := 2, kds := [.ord, .ord, .ord], fresh := true, body :=
  (.cons (.asg 2 (.b1 .len (.call 6 (.cons (.call 5 (.cons (.v 0) (.cons (.ix (.v 1) (.c (.int 0))) .nil))) .nil))))
  (.cons (.ret (.bin .add (.bin .add (.bin .mul (.c (.str [45])) (.bin .sub (.v 2) (.ix (.v 1) (.c (.int 1))))) (.c (.str [47]))) (.bin .mul (.c (.str [45])) (.bin .sub (.ix (.v 1) (.c (.int 1))) (.c (.int 1))))))
  .nil)) }
def d_beats : FDef := { np := 2, kds := [.ord, .ord, .ord], fresh := true, body :=
  (.cons (.ex (.call 12 (.cons (.v 0) (.cons (.v 1) .nil))))
  (.cons (.ret (.m1 .join (.c (.str [])) (.lc (.nm 2) (.e (.v 1)) .no (.call 14 (.cons (.v 0) (.cons (.v 2) .nil))))))
  .nil)) }
def d_suits : FDef := { np := 2, kds := [.ord, .ord, .ord, .ord], fresh := false, body :=
  (.cons (.ret (.and (.cons (.cmp .eq (.b1 .len (.v 0)) (.b1 .len (.v 1))) (.cons (.b1 .all (.lc (.tp [2, 3]) (.zip (.v 0) (.v 1)) .no (.or (.cons (.cmp .inn (.v 2) (.tup (.cons (.v 3) (.cons (.c (.str [63])) .nil)))) (.cons (.cmp .eq (.v 3) (.c (.str [63]))) .nil))))) .nil))))
  .nil) }
def b_is_scheme_1 : Ss :=
  (.cons (.ite (.cmp .notin (.v 2) (.sl (.c (.str [65, 66, 67, 68, 69, 70, 71, 72])) .no (.yes (.bin .add (.v 1) (.c (.int 1)))))) (.cons (.ret (.c (.bl false)))
  .nil) .nil)
  (.cons (.asg 1 (.b2 .max (.v 1) (.bin .add (.m1 .index (.c (.str [65, 66, 67, 68, 69, 70, 71, 72])) (.v 2)) (.c (.int 1)))))
  .nil))
def d_is_scheme : FDef := { np := 1, kds := [.ord, .ord, .ord], fresh := true, body :=
  (.cons (.ite (.or (.cons (.not (.isi (.v 0) [.str])) (.cons (.not (.cmp2 .le .le (.c (.int 1)) (.b1 .len (.v 0)) (.c (.int 8)))) .nil))) (.cons (.ret (.c (.bl false)))
  .nil) .nil)
  (.cons (.asg 1 (.c (.int 0)))
  (.cons (.for_ (.nm 2) (.e (.v 0)) b_is_scheme_1)
  (.cons (.ret (.c (.bl true)))
  .nil)))) }
def d_look_poem : FDef := { np := 2, kds := [.ord, .ord, .ord], fresh := true, body :=
  (.cons (.ex (.call 3 (.cons (.v 0) .nil)))
  (.cons (.ite (.or (.cons (.not (.isi (.v 1) [.tuple])) (.cons (.not (.cmp2 .le .le (.c (.int 1)) (.b1 .len (.v 1)) (.c (.int 8)))) .nil))) (.cons (.rse 3)
  .nil) .nil)
  (.cons (.ite (.not (.b1 .all (.lc (.nm 2) (.e (.v 1)) .no (.call 10 (.cons (.v 0) (.cons (.v 2) .nil)))))) (.cons (.rse 3)
  .nil) .nil)
  .nil))) }
def d_is_form : FDef := { np := 1, kds := [.ord, .ord], fresh := false, body :=
  (.cons (.ite (.or (.cons (.not (.isi (.v 0) [.tuple])) (.cons (.cmp .ne (.b1 .len (.v 0)) (.c (.int 2))) (.cons (.not (.call 17 (.cons (.ix (.v 0) (.c (.int 0))) .nil))) (.cons (.not (.isi (.ix (.v 0) (.c (.int 1))) [.tuple])) .nil))))) (.cons (.ret (.c (.bl false)))
  .nil) .nil)
  (.cons (.ret (.and (.cons (.cmp .eq (.b1 .len (.ix (.v 0) (.c (.int 1)))) (.b1 .len (.ix (.v 0) (.c (.int 0))))) (.cons (.b1 .all (.lc (.nm 1) (.e (.ix (.v 0) (.c (.int 1)))) .no (.call 13 (.cons (.v 1) .nil)))) .nil))))
  .nil)) }
def d_look_form : FDef := { np := 1, kds := [.ord], fresh := true, body :=
  (.cons (.ite (.not (.call 19 (.cons (.v 0) .nil))) (.cons (.rse 4)
  .nil) .nil)
  .nil) }
def d_end_words : FDef := { np := 2, kds := [.ord, .ord, .ord], fresh := true, body :=
  (.cons (.ex (.call 18 (.cons (.v 0) (.cons (.v 1) .nil))))
  (.cons (.ret (.lc (.nm 2) (.e (.v 1)) .no (.ix (.v 2) (.neg (.c (.int 1))))))
  .nil)) }
def d_end_fault : FDef := { np := 4, kds := [.ord, .ord, .ord, .ord, .ord, .ord, .ord, .ord, .ord], fresh := true, body :=
  (.cons (.asg 4 (.ix (.v 2) (.v 3)))
  (.cons (.asg 5 (.sl (.zl (.v 1) (.v 2)) .no (.yes (.v 3))))
  (.cons (.ite (.b1 .any (.lc (.tp [7, 8]) (.e (.v 5)) .no (.cmp .eq (.ix (.v 8) (.c (.int 0))) (.ix (.v 4) (.c (.int 0)))))) (.cons (.ret (.c (.str [97, 103, 97, 105, 110])))
  .nil) .nil)
  (.cons (.asg 6 (.call 9 (.cons (.v 0) (.cons (.v 4) .nil))))
  (.cons (.ite (.b1 .any (.lc (.tp [7, 8]) (.e (.v 5)) .no (.and (.cons (.cmp .eq (.v 7) (.ix (.v 1) (.v 3))) (.cons (.cmp .ne (.call 9 (.cons (.v 0) (.cons (.v 8) .nil))) (.v 6)) .nil))))) (.cons (.ret (.c (.str [114, 104, 121, 109, 101])))
  .nil) .nil)
  (.cons (.ite (.b1 .any (.lc (.tp [7, 8]) (.e (.v 5)) .no (.and (.cons (.cmp .ne (.v 7) (.ix (.v 1) (.v 3))) (.cons (.cmp .eq (.call 9 (.cons (.v 0) (.cons (.v 8) .nil))) (.v 6)) .nil))))) (.cons (.ret (.c (.str [99, 108, 97, 115, 104])))
  .nil) .nil)
  (.cons (.ret (.c .non))
  .nil))))))) }
def b_faults_1 : Ss :=
  (.cons (.ite (.not (.call 16 (.cons (.call 15 (.cons (.v 0) (.cons (.v 8) .nil))) (.cons (.ix (.v 6) (.v 7)) .nil)))) (.cons (.app 4 (.tup (.cons (.v 7) (.cons (.c (.str [109, 101, 116, 114, 101])) .nil))))
  .nil) .nil)
  (.cons (.asg 9 (.call 22 (.cons (.v 0) (.cons (.v 5) (.cons (.v 3) (.cons (.v 7) .nil))))))
  (.cons (.ite (.cmp .isnot (.v 9) (.c .non)) (.cons (.app 4 (.tup (.cons (.v 7) (.cons (.v 9) .nil))))
  .nil) .nil)
  .nil)))
def d_faults : FDef := { np := 3, kds := [.ord, .ord, .ord, .ord, .own, .ord, .ord, .ord, .ord, .ord], fresh := true, body :=
  (.cons (.ex (.call 18 (.cons (.v 0) (.cons (.v 1) .nil))))
  (.cons (.ex (.call 20 (.cons (.v 2) .nil)))
  (.cons (.unp [5, 6] (.v 2))
  (.cons (.ite (.cmp .ne (.b1 .len (.v 1)) (.b1 .len (.v 5))) (.cons (.ret (.lst (.cons (.tup (.cons (.c (.int 0)) (.cons (.c (.str [108, 105, 110, 101, 115])) .nil))) .nil)))
  .nil) .nil)
  (.cons (.asg 3 (.lc (.nm 8) (.e (.v 1)) .no (.ix (.v 8) (.neg (.c (.int 1))))))
  (.cons (.asgo 4 (.lst .nil))
  (.cons (.for_ (.tp [7, 8]) (.enum (.v 1)) b_faults_1)
  (.cons (.ret (.v 4))
  .nil)))))))) }
def d_fits : FDef := { np := 3, kds := [.ord, .ord, .ord], fresh := true, body :=
  (.cons (.ret (.cmp .eq (.call 23 (.cons (.v 0) (.cons (.v 1) (.cons (.v 2) .nil)))) (.lst .nil)))
  .nil) }
def d__law_cell : FDef := { np := 2, kds := [.ord, .ord], fresh := false, body :=
  (.cons (.ite (.cmp .lt (.v 1) (.b1 .len (.v 0))) (.cons (.ret (.ix (.v 0) (.v 1)))
  .nil) .nil)
  (.cons (.ite (.cmp .eq (.v 0) (.lst .nil)) (.cons (.ret (.c (.int 0)))
  .nil) .nil)
  (.cons (.ret (.bin .add (.bin .mul (.ix (.v 0) (.bin .mod (.v 1) (.b1 .len (.v 0)))) (.c (.int 31))) (.v 1)))
  .nil))) }
def d__law_pick : FDef := { np := 3, kds := [.ord, .ord, .ord, .ord], fresh := true, body :=
  (.cons (.asg 3 (.bin .mod (.bin .mul (.bin .add (.call 25 (.cons (.v 0) (.cons (.v 1) .nil))) (.bin .mul (.c (.int 6151)) (.bin .add (.v 1) (.c (.int 1))))) (.c (.int 40692))) (.c (.int 2147483399))))
  (.cons (.ret (.bin .mod (.bin .mod (.bin .add (.bin .mul (.v 3) (.v 3)) (.bin .fdiv (.v 3) (.c (.int 31)))) (.c (.int 2147483629))) (.v 2)))
  .nil)) }
def b__law_table_1 : Ss :=
  (.cons (.put 2 (.v 4) (.ix (.c (.str [65, 66, 69, 71, 76, 78, 79, 83, 84])) (.bin .mod (.bin .add (.v 3) (.bin .mul (.call 26 (.cons (.v 0) (.cons (.v 1) (.cons (.c (.int 2)) .nil)))) (.call 26 (.cons (.v 0) (.cons (.bin .add (.bin .add (.v 1) (.c (.int 1))) (.v 3)) (.cons (.c (.int 9)) .nil)))))) (.c (.int 9)))))
  .nil)
def b__law_table_2 : Ss :=
  (.cons (.asg 5 (.ix (.lst (.cons (.c (.str [110, 103])) (.cons (.c (.str [101, 97])) (.cons (.c (.str [111, 111])) (.cons (.c (.str [115, 116])) (.cons (.c (.str [108, 108])) (.cons (.c (.str [101, 97, 110])) (.cons (.c (.str [116, 116])) (.cons (.c (.str [115, 103])) (.cons (.c (.str [111, 110, 101])) .nil)))))))))) (.call 26 (.cons (.v 0) (.cons (.bin .add (.bin .add (.v 1) (.c (.int 13))) (.bin .mul (.c (.int 2)) (.v 3))) (.cons (.c (.int 9)) .nil))))))
  (.cons (.put 2 (.v 5) (.ix (.lst (.cons (.c (.str [73])) (.cons (.c (.str [85])) (.cons (.c (.str [78])) (.cons (.c (.str [83, 84])) (.cons (.c (.str [])) (.cons (.c (.str [69, 78])) (.cons (.c (.str [65, 73])) .nil)))))))) (.call 26 (.cons (.v 0) (.cons (.bin .add (.bin .add (.v 1) (.c (.int 14))) (.bin .mul (.c (.int 2)) (.v 3))) (.cons (.c (.int 7)) .nil))))))
  .nil))
def d__law_table : FDef := { np := 2, kds := [.ord, .ord, .own, .ord, .ord, .ord, .ord], fresh := true, body :=
  (.cons (.asgo 2 (.dnew false))
  (.cons (.for_ (.tp [3, 4]) (.enum (.c (.str [97, 98, 101, 103, 108, 110, 111, 115, 116]))) b__law_table_1)
  (.cons (.for_ (.nm 3) (.r1 (.call 26 (.cons (.v 0) (.cons (.bin .add (.v 1) (.c (.int 12))) (.cons (.c (.int 5)) .nil))))) b__law_table_2)
  (.cons (.ite (.cmp .eq (.call 26 (.cons (.v 0) (.cons (.bin .add (.v 1) (.c (.int 25))) (.cons (.c (.int 3)) .nil)))) (.c (.int 0))) (.cons (.dpop 2 (.ix (.c (.str [97, 98, 101, 103, 108, 110, 111, 115, 116])) (.call 26 (.cons (.v 0) (.cons (.bin .add (.v 1) (.c (.int 26))) (.cons (.c (.int 9)) .nil))))))
  .nil) .nil)
  (.cons (.ret (.b1 .tuple (.lc (.nm 6) (.e (.b1 .sorted (.v 2))) .no (.tup (.cons (.v 6) (.cons (.ix (.v 2) (.v 6)) .nil))))))
  .nil))))) }
def b__law_parts_1 : Ss :=
  (.cons (.asg 3 (.lc (.nm 5) (.e (.v 0)) (.yes (.cmp .eq (.sl (.v 1) .no (.yes (.b1 .len (.ix (.v 5) (.c (.int 0)))))) (.ix (.v 5) (.c (.int 0))))) (.ix (.v 5) (.c (.int 0)))))
  (.cons (.ite (.cmp .eq (.v 3) (.lst .nil)) (.cons (.ret (.c .non))
  .nil) .nil)
  (.cons (.asg 4 (.ix (.b1 .max (.lc (.nm 6) (.e (.v 3)) .no (.tup (.cons (.b1 .len (.v 6)) (.cons (.v 6) .nil))))) (.c (.int 1))))
  (.cons (.app 2 (.v 4))
  (.cons (.asg 1 (.sl (.v 1) (.yes (.b1 .len (.v 4))) .no))
  .nil)))))
def d__law_parts : FDef := { np := 2, kds := [.ord, .ord, .own, .ord, .ord, .ord, .ord], fresh := true, body :=
  (.cons (.asgo 2 (.lst .nil))
  (.cons (.whl (.cmp .ne (.v 1) (.c (.str []))) b__law_parts_1)
  (.cons (.ret (.v 2))
  .nil))) }
def d__law_sounds : FDef := { np := 2, kds := [.ord, .ord, .ord, .ord, .ord], fresh := true, body :=
  (.cons (.asg 2 (.call 28 (.cons (.v 0) (.cons (.v 1) .nil))))
  (.cons (.ite (.cmp .is (.v 2) (.c .non)) (.cons (.ret (.c .non))
  .nil) .nil)
  (.cons (.ret (.m1 .join (.c (.str [])) (.lc (.nm 3) (.e (.v 2)) .no (.m1 .join (.c (.str [])) (.lc (.nm 4) (.e (.v 0)) (.yes (.cmp .eq (.ix (.v 4) (.c (.int 0))) (.v 3))) (.ix (.v 4) (.c (.int 1))))))))
  .nil))) }
def d__law_is_letters : FDef := { np := 2, kds := [.ord, .ord, .ord], fresh := true, body :=
  (.cons (.ite (.or (.cons (.not (.isi (.v 0) [.str])) (.cons (.not (.cmp2 .le .le (.c (.int 1)) (.b1 .len (.v 0)) (.v 1))) .nil))) (.cons (.ret (.c (.bl false)))
  .nil) .nil)
  (.cons (.ret (.cmp .eq (.lc (.nm 2) (.e (.v 0)) (.yes (.not (.cmp2 .le .le (.c (.str [97])) (.v 2) (.c (.str [122]))))) (.v 2)) (.lst .nil)))
  .nil)) }
def d__law_is_word : FDef := { np := 2, kds := [.ord, .ord, .ord, .ord], fresh := false, body :=
  (.cons (.ite (.or (.cons (.not (.isi (.v 1) [.tuple])) (.cons (.cmp .ne (.b1 .len (.v 1)) (.c (.int 2))) (.cons (.not (.call 30 (.cons (.ix (.v 1) (.c (.int 0))) (.cons (.c (.int 10)) .nil)))) .nil)))) (.cons (.ret (.c (.bl false)))
  .nil) .nil)
  (.cons (.ite (.or (.cons (.not (.isi (.ix (.v 1) (.c (.int 1))) [.int])) (.cons (.isi (.ix (.v 1) (.c (.int 1))) [.bool]) .nil))) (.cons (.ret (.c (.bl false)))
  .nil) .nil)
  (.cons (.asg 2 (.call 29 (.cons (.v 0) (.cons (.ix (.v 1) (.c (.int 0))) .nil))))
  (.cons (.ret (.and (.cons (.cmp .isnot (.v 2) (.c .non)) (.cons (.cmp2 .le .le (.c (.int 1)) (.ix (.v 1) (.c (.int 1))) (.b2 .min (.c (.int 3)) (.b1 .len (.lc (.nm 3) (.e (.v 2)) (.yes (.cmp .inn (.v 3) (.c (.str [65, 69, 73, 79, 85])))) (.v 3))))) .nil))))
  .nil)))) }
def b__law_rich_book_1 : Ss :=
  (.cons (.asg 6 (.ix (.lst (.cons (.c (.str [97])) (.cons (.c (.str [101])) (.cons (.c (.str [111])) (.cons (.c (.str [97, 110])) (.cons (.c (.str [101, 110])) .nil)))))) (.bin .mod (.bin .add (.call 26 (.cons (.v 0) (.cons (.v 1) (.cons (.c (.int 5)) .nil)))) (.call 26 (.cons (.v 0) (.cons (.bin .add (.bin .add (.v 1) (.c (.int 1))) (.v 5)) (.cons (.c (.int 2)) .nil))))) (.c (.int 5)))))
  (.cons (.asg 7 (.bin .add (.ix (.lst (.cons (.c (.str [])) (.cons (.c (.str [115])) (.cons (.c (.str [98])) (.cons (.c (.str [103])) (.cons (.c (.str [108])) (.cons (.c (.str [110])) (.cons (.c (.str [116])) (.cons (.c (.str [115, 97])) .nil))))))))) (.call 26 (.cons (.v 0) (.cons (.bin .add (.bin .add (.v 1) (.c (.int 20))) (.v 5)) (.cons (.c (.int 8)) .nil))))) (.v 6)))
  (.cons (.asg 8 (.tup (.cons (.v 7) (.cons (.bin .add (.c (.int 1)) (.b1 .int (.cmp .eq (.call 26 (.cons (.v 0) (.cons (.bin .add (.bin .add (.v 1) (.c (.int 40))) (.v 5)) (.cons (.c (.int 6)) .nil)))) (.c (.int 0))))) .nil))))
  (.cons (.ite (.call 31 (.cons (.v 2) (.cons (.v 8) .nil))) (.cons (.put 4 (.v 7) (.v 8))
  .nil) .nil)
  .nil))))
def d__law_rich_book : FDef := { np := 4, kds := [.ord, .ord, .ord, .ord, .own, .ord, .ord, .ord, .ord], fresh := true, body :=
  (.cons (.asgo 4 (.dnew false))
  (.cons (.for_ (.nm 5) (.r1 (.v 3)) b__law_rich_book_1)
  (.cons (.ret (.b1 .tuple (.lc (.nm 7) (.e (.b1 .sorted (.v 4))) .no (.ix (.v 4) (.v 7)))))
  .nil))) }
def d__law_signs : FDef := { np := 2, kds := [.ord, .ord, .ord, .ord], fresh := true, body :=
  (.cons (.asg 2 (.b1 .len (.lc (.nm 3) (.e (.call 29 (.cons (.v 0) (.cons (.ix (.v 1) (.c (.int 0))) .nil)))) (.yes (.cmp .inn (.v 3) (.c (.str [65, 69, 73, 79, 85])))) (.v 3))))
  (.cons (.ret (.bin .add (.bin .add (.bin .mul (.c (.str [45])) (.bin .sub (.v 2) (.ix (.v 1) (.c (.int 1))))) (.c (.str [47]))) (.bin .mul (.c (.str [45])) (.bin .sub (.ix (.v 1) (.c (.int 1))) (.c (.int 1))))))
  .nil)) }
def d__law_suits : FDef := { np := 2, kds := [.ord, .ord, .ord], fresh := true, body :=
  (.cons (.ite (.cmp .ne (.b1 .len (.v 0)) (.b1 .len (.v 1))) (.cons (.ret (.c (.bl false)))
  .nil) .nil)
  (.cons (.ret (.cmp .eq (.lc (.nm 2) (.r1 (.b1 .len (.v 0))) (.yes (.and (.cons (.cmp .ne (.ix (.v 1) (.v 2)) (.c (.str [63]))) (.cons (.cmp .ne (.ix (.v 1) (.v 2)) (.ix (.v 0) (.v 2))) .nil)))) (.v 2)) (.lst .nil)))
  .nil)) }
def b__law_lines_3 : Ss :=
  (.cons (.asg 12 (.bin .add (.v 10) (.b1 .len (.ix (.v 3) (.v 11)))))
  (.cons (.ite (.call 34 (.cons (.ix (.v 3) (.v 11)) (.cons (.sl (.v 2) (.yes (.v 10)) (.yes (.v 12))) .nil))) (.cons (.app 7 (.tup (.cons (.bin .add (.v 9) (.tup (.cons (.v 8) .nil))) (.cons (.v 12) .nil))))
  .nil) .nil)
  .nil))
def b__law_lines_2 : Ss :=
  (.cons (.for_ (.tp [11, 8]) (.enum (.v 1)) b__law_lines_3)
  .nil)
def b__law_lines_1 : Ss :=
  (.cons (.asgo 7 (.lst .nil))
  (.cons (.for_ (.tp [9, 10]) (.e (.v 5)) b__law_lines_2)
  (.cons (.mv 5 7)
  (.cons (.ext 6 (.lc (.tp [9, 10]) (.e (.v 5)) (.yes (.cmp .eq (.v 10) (.b1 .len (.v 2)))) (.v 9)))
  .nil))))
def d__law_lines : FDef := { np := 3, kds := [.ord, .ord, .ord, .ord, .ord, .ord, .own, .own, .ord, .ord, .ord, .ord, .ord], fresh := true, body :=
  (.cons (.asg 3 (.lc (.nm 8) (.e (.v 1)) .no (.call 33 (.cons (.v 0) (.cons (.v 8) .nil)))))
  (.cons (.par [5, 6] (.cons (.lst (.cons (.tup (.cons (.tup .nil) (.cons (.c (.int 0)) .nil))) .nil)) (.cons (.lst .nil) .nil)))
  (.cons (.for_ (.nm 4) (.r1 (.c (.int 6))) b__law_lines_1)
  (.cons (.ret (.v 6))
  .nil)))) }
def d__law_last : FDef := { np := 2, kds := [.ord, .ord, .ord, .ord, .ord], fresh := true, body :=
  (.cons (.asg 2 (.lc (.nm 3) (.e (.v 0)) .no (.ix (.v 3) (.neg (.c (.int 1))))))
  (.cons (.ret (.lc (.nm 4) (.e (.v 1)) (.yes (.cmp .inn (.v 4) (.v 2))) (.v 4)))
  .nil)) }
def b__law_tail_1 : Ss :=
  (.cons (.asg 6 (.bin .sub (.v 6) (.c (.int 1))))
  (.cons (.asg 5 (.bin .sub (.v 5) (.b1 .int (.cmp .inn (.ix (.v 2) (.v 6)) (.c (.str [65, 69, 73, 79, 85]))))))
  .nil))
def d__law_tail : FDef := { np := 2, kds := [.ord, .ord, .ord, .ord, .ord, .ord, .ord, .ord], fresh := true, body :=
  (.cons (.asg 2 (.call 29 (.cons (.v 0) (.cons (.ix (.v 1) (.c (.int 0))) .nil))))
  (.cons (.par [5, 6] (.cons (.ix (.v 1) (.c (.int 1))) (.cons (.b1 .len (.v 2)) .nil)))
  (.cons (.whl (.cmp .gt (.v 5) (.c (.int 0))) b__law_tail_1)
  (.cons (.asg 3 (.sl (.v 2) .no (.yes (.v 6))))
  (.cons (.asg 4 (.b1 .max (.bin .add (.lst (.cons (.c (.int 0)) .nil)) (.lc (.nm 7) (.r1 (.b1 .len (.v 3))) (.yes (.cmp .inn (.ix (.v 3) (.v 7)) (.c (.str [65, 69, 73, 79, 85])))) (.bin .add (.v 7) (.c (.int 1)))))))
  (.cons (.ret (.tup (.cons (.sl (.v 2) (.yes (.v 6)) .no) (.cons (.sl (.v 3) (.yes (.v 4)) .no) .nil))))
  .nil)))))) }
def b__law_suit_1 : Ss :=
  (.cons (.asg 5 (.lc (.nm 7) (.e (.sl (.v 3) .no (.yes (.v 4)))) .no (.cmp .eq (.v 7) (.ix (.v 3) (.v 4)))))
  (.cons (.ite (.or (.cons (.cmp .inn (.ix (.v 2) (.v 4)) (.sl (.v 2) .no (.yes (.v 4)))) (.cons (.cmp .ne (.v 5) (.lc (.nm 8) (.e (.sl (.v 1) .no (.yes (.v 4)))) .no (.cmp .eq (.v 8) (.ix (.v 1) (.v 4))))) .nil))) (.cons (.ret (.c (.bl false)))
  .nil) .nil)
  .nil))
def d__law_suit : FDef := { np := 3, kds := [.ord, .ord, .ord, .ord, .ord, .ord, .ord, .ord, .ord], fresh := true, body :=
  (.cons (.asg 3 (.lc (.nm 6) (.e (.v 2)) .no (.ix (.call 37 (.cons (.v 0) (.cons (.v 6) .nil))) (.c (.int 0)))))
  (.cons (.for_ (.nm 4) (.r1 (.b1 .len (.v 2))) b__law_suit_1)
  (.cons (.ret (.c (.bl true)))
  .nil))) }
def b__law_rows_2 : Ss :=
  (.cons (.ext 5 (.lc (.nm 7) (.e (.ix (.v 2) (.v 4))) (.yes (.call 38 (.cons (.v 0) (.cons (.v 1) (.cons (.bin .add (.v 6) (.lst (.cons (.v 7) .nil))) .nil))))) (.bin .add (.v 6) (.lst (.cons (.v 7) .nil)))))
  .nil)
def b__law_rows_1 : Ss :=
  (.cons (.asgo 5 (.lst .nil))
  (.cons (.for_ (.nm 6) (.e (.v 3)) b__law_rows_2)
  (.cons (.mv 3 5)
  .nil)))
def d__law_rows : FDef := { np := 3, kds := [.ord, .ord, .ord, .ord, .ord, .own, .ord, .ord], fresh := false, body :=
  (.cons (.asg 3 (.lst (.cons (.lst .nil) .nil)))
  (.cons (.for_ (.nm 4) (.r1 (.b1 .len (.v 1))) b__law_rows_1)
  (.cons (.ret (.v 3))
  .nil))) }
def d__law_form : FDef := { np := 4, kds := [.ord, .ord, .ord, .ord, .ord, .ord, .ord, .ord, .ord, .ord], fresh := true, body :=
  (.cons (.asg 4 (.ix (.lst (.cons (.c (.str [65])) (.cons (.c (.str [65, 65])) (.cons (.c (.str [65, 66])) (.cons (.c (.str [65, 65, 66])) (.cons (.c (.str [65, 66, 65])) (.cons (.c (.str [65, 66, 65, 66])) (.cons (.c (.str [65, 65, 66, 66])) (.cons (.c (.str [65, 66, 67, 66])) (.cons (.c (.str [65, 65, 65])) (.cons (.c (.str [65, 66, 66, 65])) .nil))))))))))) (.call 26 (.cons (.v 0) (.cons (.v 1) (.cons (.c (.int 10)) .nil))))))
  (.cons (.asg 5 (.lst (.cons (.c (.str [47])) (.cons (.c (.str [63])) (.cons (.c (.str [47])) (.cons (.c (.str [63, 47])) (.cons (.c (.str [63, 63])) (.cons (.c (.str [45, 47])) (.cons (.c (.str [47])) (.cons (.c (.str [47, 63])) .nil))))))))))
  (.cons (.asg 6 (.bin .mul (.call 26 (.cons (.v 0) (.cons (.bin .add (.v 1) (.c (.int 1))) (.cons (.c (.int 2)) .nil)))) (.c (.int 4))))
  (.cons (.asg 7 (.lc (.nm 8) (.r1 (.b1 .len (.v 4))) .no (.bin .add (.bin .mul (.v 6) (.b1 .int (.cmp .eq (.bin .mod (.v 8) (.c (.int 2))) (.c (.int 0))))) (.call 26 (.cons (.v 0) (.cons (.bin .add (.bin .add (.v 1) (.c (.int 2))) (.v 8)) (.cons (.c (.int 4)) .nil)))))))
  (.cons (.ret (.tup (.cons (.v 4) (.cons (.b1 .tuple (.lc (.nm 9) (.e (.v 7)) .no (.ix (.v 5) (.v 9)))) .nil))))
  .nil))))) }
def b__law_wrong_1 : Ss :=
  (.cons (.ite (.not (.call 34 (.cons (.m1 .join (.c (.str [])) (.lc (.nm 10) (.e (.v 9)) .no (.call 33 (.cons (.v 0) (.cons (.v 10) .nil))))) (.cons (.ix (.v 5) (.v 8)) .nil)))) (.cons (.app 7 (.tup (.cons (.v 8) (.cons (.c (.str [109, 101, 116, 114, 101])) .nil))))
  .nil) .nil)
  (.cons (.ite (.cmp .ne (.lc (.nm 11) (.r1 (.v 8)) (.yes (.cmp .eq (.ix (.ix (.v 6) (.v 11)) (.c (.int 0))) (.ix (.ix (.v 6) (.v 8)) (.c (.int 0))))) (.v 11)) (.lst .nil)) (.cons (.app 7 (.tup (.cons (.v 8) (.cons (.c (.str [97, 103, 97, 105, 110])) .nil))))
  .nil) (.cons (.ite (.cmp .ne (.lc (.nm 11) (.r1 (.v 8)) (.yes (.and (.cons (.cmp .eq (.ix (.v 4) (.v 11)) (.ix (.v 4) (.v 8))) (.cons (.cmp .ne (.ix (.v 3) (.v 11)) (.ix (.v 3) (.v 8))) .nil)))) (.v 11)) (.lst .nil)) (.cons (.app 7 (.tup (.cons (.v 8) (.cons (.c (.str [114, 104, 121, 109, 101])) .nil))))
  .nil) (.cons (.ite (.cmp .ne (.lc (.nm 11) (.r1 (.v 8)) (.yes (.and (.cons (.cmp .ne (.ix (.v 4) (.v 11)) (.ix (.v 4) (.v 8))) (.cons (.cmp .eq (.ix (.v 3) (.v 11)) (.ix (.v 3) (.v 8))) .nil)))) (.v 11)) (.lst .nil)) (.cons (.app 7 (.tup (.cons (.v 8) (.cons (.c (.str [99, 108, 97, 115, 104])) .nil))))
  .nil) .nil)
  .nil))
  .nil))
  .nil))
def d__law_wrong : FDef := { np := 3, kds := [.ord, .ord, .ord, .ord, .ord, .ord, .ord, .own, .ord, .ord, .ord, .ord], fresh := true, body :=
  (.cons (.unp [4, 5] (.v 2))
  (.cons (.ite (.cmp .ne (.b1 .len (.v 1)) (.b1 .len (.v 4))) (.cons (.ret (.lst (.cons (.tup (.cons (.c (.int 0)) (.cons (.c (.str [108, 105, 110, 101, 115])) .nil))) .nil)))
  .nil) .nil)
  (.cons (.par [6, 7] (.cons (.lc (.nm 9) (.e (.v 1)) .no (.ix (.v 9) (.neg (.c (.int 1))))) (.cons (.lst .nil) .nil)))
  (.cons (.asg 3 (.lc (.nm 10) (.e (.v 6)) .no (.ix (.call 37 (.cons (.v 0) (.cons (.v 10) .nil))) (.c (.int 0)))))
  (.cons (.for_ (.tp [8, 9]) (.enum (.v 1)) b__law_wrong_1)
  (.cons (.ret (.v 7))
  .nil)))))) }
def b_law_1 : Ss :=
  (.cons (.asg 11 (.bin .add (.c (.int 1)) (.call 26 (.cons (.v 0) (.cons (.bin .add (.c (.int 301)) (.v 6)) (.cons (.c (.int 2)) .nil))))))
  (.cons (.asg 12 (.lc (.nm 13) (.r1 (.v 11)) .no (.call 26 (.cons (.v 0) (.cons (.bin .add (.bin .add (.c (.int 310)) (.bin .mul (.c (.int 4)) (.v 6))) (.v 13)) (.cons (.b1 .len (.v 2)) .nil))))))
  (.cons (.asg 5 (.bin .add (.v 5) (.tup (.cons (.b1 .tuple (.lc (.nm 16) (.e (.v 12)) .no (.ix (.v 2) (.v 16)))) .nil))))
  .nil)))
def d_law : FDef := { np := 1, kds := [.ord, .ord, .ord, .ord, .ord, .ord, .ord, .ord, .ord, .ord, .own, .ord, .ord, .ord, .ord, .ord, .ord], fresh := true, body :=
  (.cons (.asg 1 (.call 27 (.cons (.v 0) (.cons (.c (.int 10)) .nil))))
  (.cons (.asg 2 (.call 32 (.cons (.v 0) (.cons (.c (.int 100)) (.cons (.v 1) (.cons (.c (.int 8)) .nil))))))
  (.cons (.asg 3 (.call 40 (.cons (.v 0) (.cons (.c (.int 60)) (.cons (.v 1) (.cons (.v 2) .nil))))))
  (.cons (.ite (.or (.cons (.cmp .isnot (.call 19 (.cons (.v 3) .nil)) (.c (.bl true))) (.cons (.cmp .eq (.v 2) (.tup .nil)) .nil))) (.cons (.ret (.cmp .eq (.v 2) (.tup .nil)))
  .nil) .nil)
  (.cons (.asg 4 (.bin .add (.b1 .len (.ix (.v 3) (.c (.int 0)))) (.b1 .int (.cmp .eq (.call 26 (.cons (.v 0) (.cons (.c (.int 300)) (.cons (.c (.int 6)) .nil)))) (.c (.int 0))))))
  (.cons (.asg 5 (.tup .nil))
  (.cons (.for_ (.nm 6) (.r1 (.v 4)) b_law_1)
  (.cons (.asg 7 (.ix (.ix (.v 5) (.neg (.c (.int 1)))) (.neg (.c (.int 1)))))
  (.cons (.asg 8 (.tup (.cons (.ix (.v 7) (.c (.int 0))) (.cons (.bin .sub (.c (.int 3)) (.ix (.v 7) (.c (.int 1)))) .nil))))
  (.cons (.ite (.and (.cons (.call 31 (.cons (.v 1) (.cons (.v 8) .nil))) (.cons (.cmp .lt (.b1 .len (.v 5)) (.c (.int 4))) .nil))) (.cons (.asg 5 (.bin .add (.v 5) (.tup (.cons (.tup (.cons (.v 8) .nil)) .nil))))
  .nil) .nil)
  (.cons (.asg 9 (.call 41 (.cons (.v 1) (.cons (.v 5) (.cons (.v 3) .nil)))))
  (.cons (.ite (.or (.cons (.cmp .ne (.call 23 (.cons (.v 1) (.cons (.v 5) (.cons (.v 3) .nil)))) (.v 9)) (.cons (.cmp .ne (.call 21 (.cons (.v 1) (.cons (.v 5) .nil))) (.lc (.nm 15) (.e (.v 5)) .no (.ix (.v 15) (.neg (.c (.int 1)))))) .nil))) (.cons (.ret (.c (.bl false)))
  .nil) .nil)
  (.cons (.asgo 10 (.lst (.cons (.c .non) (.cons (.tup (.cons (.ix (.v 3) (.c (.int 0))) .nil)) (.cons (.tup (.cons (.ix (.v 3) (.c (.int 0))) (.cons (.bin .add (.ix (.v 3) (.c (.int 1))) (.tup (.cons (.c (.str [47])) .nil))) .nil))) (.cons (.tup (.cons (.c (.str [66])) (.cons (.ix (.v 3) (.c (.int 1))) .nil))) (.cons (.b1 .list (.v 3)) .nil)))))))
  (.cons (.ext 10 (.lst (.cons (.tup (.cons (.ix (.v 3) (.c (.int 0))) (.cons (.b1 .list (.ix (.v 3) (.c (.int 1)))) .nil))) (.cons (.bin .add (.v 3) (.tup (.cons (.c (.int 1)) .nil))) .nil))))
  (.cons (.ite (.cmp .ne (.lc (.nm 14) (.e (.v 10)) (.yes (.cmp .isnot (.call 19 (.cons (.v 14) .nil)) (.c (.bl false)))) (.v 14)) (.lst .nil)) (.cons (.ret (.c (.bl false)))
  .nil) .nil)
  (.cons (.ret (.ite (.cmp .eq (.v 9) (.lst .nil)) (.cmp .is (.call 24 (.cons (.v 1) (.cons (.v 5) (.cons (.v 3) .nil)))) (.c (.bl true))) (.cmp .is (.call 24 (.cons (.v 1) (.cons (.v 5) (.cons (.v 3) .nil)))) (.c (.bl false)))))
  .nil)))))))))))))))) }
def G : Nat → Option FDef
  | 0 => some d_is_letters
  | 1 => some d_is_row
  | 2 => some d_is_table
  | 3 => some d_look_table
  | 4 => some d_parts_of
  | 5 => some d_sounds_of
  | 6 => some d_vowels_in
  | 7 => some d_is_word_of
  | 8 => some d_stress_at
  | 9 => some d_tail_of
  | 10 => some d_is_line_of
  | 11 => some d_is_line
  | 12 => some d_look_line
  | 13 => some d_is_metre
  | 14 => some d_word_beats
  | 15 => some d_beats
  | 16 => some d_suits
  | 17 => some d_is_scheme
  | 18 => some d_look_poem
  | 19 => some d_is_form
  | 20 => some d_look_form
  | 21 => some d_end_words
  | 22 => some d_end_fault
  | 23 => some d_faults
  | 24 => some d_fits
  | 25 => some d__law_cell
  | 26 => some d__law_pick
  | 27 => some d__law_table
  | 28 => some d__law_parts
  | 29 => some d__law_sounds
  | 30 => some d__law_is_letters
  | 31 => some d__law_is_word
  | 32 => some d__law_rich_book
  | 33 => some d__law_signs
  | 34 => some d__law_suits
  | 35 => some d__law_lines
  | 36 => some d__law_last
  | 37 => some d__law_tail
  | 38 => some d__law_suit
  | 39 => some d__law_rows
  | 40 => some d__law_form
  | 41 => some d__law_wrong
  | 42 => some d_law
  | _ => none
open VE.Res
theorem is_letters_ok (n : Nat) (s : St) (a b : Int) : run G (n+1) 0 [.str s, .int a, .int b] = ok (.bl ((decide (a ≤ s.length) && decide ((s.length : Int) ≤ b)) && s.all fun c => decide (c ∈ smallS))) := by
  have e : run G (n+1) 0 [.str s, .int a, .int b] = (exSs (run G n) d_is_letters.body [some (.str s), some (.int a), some (.int b), none]).res := rfl
  rw [e]
  simp (disch := (first | assumption | omega | exact rcv_str _ _ | with_unfolding_all rfl | (simp only [List.length_map]; unfold big; omega))) only [exL, List.set_cons_succ, List.set_cons_zero, ↓len_tup2, if_true, if_false, Bool.false_eq_true, id, Option.map_some, Bool.not_true, Bool.not_false, Bool.and_true, Bool.true_and, Bool.and_false, Bool.false_and, Bool.or_false, Bool.false_or, Bool.or_true, Bool.true_or, beq_self_eq_true, Option.isSome_some, Option.isSome_none, d_is_letters]
  rw [lc_map (enc := chD) (g := fun c => .bl (decide (c ∈ smallS)))]
  · simp (disch := (first | assumption | omega | exact rcv_str _ _ | with_unfolding_all rfl | (simp only [List.length_map]; unfold big; omega))) only [exL, List.set_cons_succ, List.set_cons_zero, ↓len_tup2, if_true, if_false, Bool.false_eq_true, id, Option.map_some, Bool.not_true, Bool.not_false, Bool.and_true, Bool.true_and, Bool.and_false, Bool.false_and, Bool.or_false, Bool.false_or, Bool.or_true, Bool.true_or, beq_self_eq_true, Option.isSome_some, Option.isSome_none]
  · intro c _; rfl
theorem is_row_ok (n : Nat) (r : St × St) (h1 : 1 ≤ r.1.length) (h2 : r.1.length ≤ 3) (h3 : ∀ c ∈ r.1, c ∈ smallS) (h4 : r.2.length ≤ 2) (h5 : ∀ c ∈ r.2, c ∈ vowS ++ othS) : run G (n+2) 1 [encR r] = ok (.bl true) := by
  have e : run G (n+2) 1 [encR r] = (exSs (run G (n+1)) d_is_row.body [some (encR r), none]).res := rfl
  rw [e]
  have hl : (r.1.all fun c => decide (c ∈ smallS)) = true := by rw [List.all_eq_true]; exact fun c hc => decide_eq_true (h3 c hc)
  have hv : (r.2.all fun c => decide (c ∈ vowS ++ othS)) = true := by rw [List.all_eq_true]; exact fun c hc => decide_eq_true (h5 c hc)
  have i1 : decide ((1 : Int) ≤ r.1.length) = true := decide_eq_true (by omega)
  have i2 : decide ((r.1.length : Int) ≤ 3) = true := decide_eq_true (by omega)
  have i3 : decide ((r.2.length : Int) ≤ 2) = true := decide_eq_true (by omega)
  simp (disch := (first | assumption | omega | exact rcv_str _ _ | with_unfolding_all rfl | (simp only [List.length_map]; unfold big; omega))) only [exL, List.set_cons_succ, List.set_cons_zero, ↓len_tup2, if_true, if_false, Bool.false_eq_true, id, Option.map_some, Bool.not_true, Bool.not_false, Bool.and_true, Bool.true_and, Bool.and_false, Bool.false_and, Bool.or_false, Bool.false_or, Bool.or_true, Bool.true_or, beq_self_eq_true, Option.isSome_some, Option.isSome_none, d_is_row, encR, is_letters_ok, hl, i1, i2, i3]
  rw [lc_map (enc := chD) (g := fun c => .bl (decide (c ∈ vowS ++ othS)))]
  · simp (disch := (first | assumption | omega | exact rcv_str _ _ | with_unfolding_all rfl | (simp only [List.length_map]; unfold big; omega))) only [exL, List.set_cons_succ, List.set_cons_zero, ↓len_tup2, if_true, if_false, Bool.false_eq_true, id, Option.map_some, Bool.not_true, Bool.not_false, Bool.and_true, Bool.true_and, Bool.and_false, Bool.false_and, Bool.or_false, Bool.false_or, Bool.or_true, Bool.true_or, beq_self_eq_true, Option.isSome_some, Option.isSome_none, hv]
  · intro c _; rfl
theorem table_sorted {t : Tab} (h : Good t) : b1D .sortset (.lst (keysD t)) = ok (.lst (keysD t)) := by
  have e : keysD t = (t.map (·.1)).map D.str := by simp [keysD]
  have hl := h.le
  rw [e]
  simp only [b1D]
  rw [if_pos, dedup_strict (strict_nodup h.srt), isort_strict h.srt]
  rw [all_isStr, List.length_map, List.length_map]
  simp only [Bool.true_or, Bool.true_and]
  exact decide_eq_true (by omega)
theorem is_table_ok (n : Nat) {t : Tab} (h : Good t) : run G (n+3) 2 [encT t] = ok (.bl true) := by
  have e : run G (n+3) 2 [encT t] = (exSs (run G (n+2)) d_is_table.body [some (encT t), none, none]).res := rfl
  rw [e]
  have i1 : decide ((1 : Int) ≤ t.length) = true := decide_eq_true (by have := h.ne; omega)
  have i2 : decide ((t.length : Int) ≤ 20) = true := decide_eq_true (by have := h.le; omega)
  simp (disch := (first | assumption | omega | exact rcv_str _ _ | with_unfolding_all rfl | (simp only [List.length_map]; unfold big; omega))) only [exL, List.set_cons_succ, List.set_cons_zero, ↓len_tup2, if_true, if_false, Bool.false_eq_true, id, Option.map_some, Bool.not_true, Bool.not_false, Bool.and_true, Bool.true_and, Bool.and_false, Bool.false_and, Bool.or_false, Bool.false_or, Bool.or_true, Bool.true_or, beq_self_eq_true, Option.isSome_some, Option.isSome_none, d_is_table, encT, List.length_map, i1, i2]
  rw [lc_map (enc := encR) (g := fun r => .bl true)]
  · have ha : (List.all t fun x => true) = true := by simp
    have e2 : (t.map fun r => D.str r.1) = (t.map (·.1)).map D.str := by simp
    have hs := table_sorted h
    unfold keysD at hs
    simp (disch := (first | assumption | omega | exact rcv_str _ _ | with_unfolding_all rfl | (simp only [List.length_map]; unfold big; omega))) only [exL, List.set_cons_succ, List.set_cons_zero, ↓len_tup2, if_true, if_false, Bool.false_eq_true, id, Option.map_some, Bool.not_true, Bool.not_false, Bool.and_true, Bool.true_and, Bool.and_false, Bool.false_and, Bool.or_false, Bool.false_or, Bool.or_true, Bool.true_or, beq_self_eq_true, Option.isSome_some, Option.isSome_none, ha]
    rw [lc_map (enc := encR) (g := fun r => .str r.1)]
    · simp (disch := (first | assumption | omega | exact rcv_str _ _ | with_unfolding_all rfl | (simp only [List.length_map]; unfold big; omega))) only [exL, List.set_cons_succ, List.set_cons_zero, ↓len_tup2, if_true, if_false, Bool.false_eq_true, id, Option.map_some, Bool.not_true, Bool.not_false, Bool.and_true, Bool.true_and, Bool.and_false, Bool.false_and, Bool.or_false, Bool.false_or, Bool.or_true, Bool.true_or, beq_self_eq_true, Option.isSome_some, Option.isSome_none, hs]
      rw [e2]
      simp (disch := (first | assumption | omega | exact rcv_str _ _ | with_unfolding_all rfl | (simp only [List.length_map]; unfold big; omega))) only [exL, List.set_cons_succ, List.set_cons_zero, ↓len_tup2, if_true, if_false, Bool.false_eq_true, id, Option.map_some, Bool.not_true, Bool.not_false, Bool.and_true, Bool.true_and, Bool.and_false, Bool.false_and, Bool.or_false, Bool.false_or, Bool.or_true, Bool.true_or, beq_self_eq_true, Option.isSome_some, Option.isSome_none, eq_strs]
    · intro r _; rfl
  · intro r hr
    obtain ⟨a, b, c⟩ := h.key r hr
    obtain ⟨d, e⟩ := h.val r hr
    simp (disch := (first | assumption | omega | exact rcv_str _ _ | with_unfolding_all rfl | (simp only [List.length_map]; unfold big; omega))) only [exL, List.set_cons_succ, List.set_cons_zero, ↓len_tup2, if_true, if_false, Bool.false_eq_true, id, Option.map_some, Bool.not_true, Bool.not_false, Bool.and_true, Bool.true_and, Bool.and_false, Bool.false_and, Bool.or_false, Bool.false_or, Bool.or_true, Bool.true_or, beq_self_eq_true, Option.isSome_some, Option.isSome_none, is_row_ok n r a b c d e]
theorem look_table_ok (n : Nat) {t : Tab} (h : Good t) : run G (n+4) 3 [encT t] = ok .non := by
  have e : run G (n+4) 3 [encT t] = (exSs (run G (n+3)) d_look_table.body [some (encT t)]).res := rfl
  rw [e]
  simp (disch := (first | assumption | omega | exact rcv_str _ _ | with_unfolding_all rfl | (simp only [List.length_map]; unfold big; omega))) only [exL, List.set_cons_succ, List.set_cons_zero, ↓len_tup2, if_true, if_false, Bool.false_eq_true, id, Option.map_some, Bool.not_true, Bool.not_false, Bool.and_true, Bool.true_and, Bool.and_false, Bool.false_and, Bool.or_false, Bool.false_or, Bool.or_true, Bool.true_or, beq_self_eq_true, Option.isSome_some, Option.isSome_none, d_look_table, is_table_ok n h]

theorem parts_loop (n : Nat) (t : Tab) (w : St) (T : D) : ∀ (m : Nat) (a : Nat) (made : List St) (o : Option D) (K : Nat), w.length - a ≤ m → a ≤ w.length → made.length + (w.length - a) ≤ 1000 → m < K →
    sq (run G n) (kWh (run G n) (.cmp .lt (.v 4) (.b1 .len (.v 1))) b_parts_of_1 K [some T, some (.str w), some (dicT t), some (.lst (made.map D.str)), some (.int a), o, none]) (.cons (.ret (.v 3)) .nil)
      = .ret (optL ((parts t (w.drop a)).map (made ++ ·))) := by
  intro m
  induction m with
  | zero =>
    intro a made o K h1 h2 h3 hK
    obtain ⟨K, rfl⟩ : ∃ k, K = k + 1 := ⟨K - 1, by omega⟩
    have ha : a = w.length := by omega
    rw [wh_end _ (by simp (disch := (first | assumption | omega | exact rcv_str _ _ | with_unfolding_all rfl | (simp only [List.length_map]; unfold big; omega))) only [exL, List.set_cons_succ, List.set_cons_zero, ↓len_tup2, if_true, if_false, Bool.false_eq_true, id, Option.map_some, Bool.not_true, Bool.not_false, Bool.and_true, Bool.true_and, Bool.and_false, Bool.false_and, Bool.or_false, Bool.false_or, Bool.or_true, Bool.true_or, beq_self_eq_true, Option.isSome_some, Option.isSome_none, ha]; simp)]
    simp (disch := (first | assumption | omega | exact rcv_str _ _ | with_unfolding_all rfl | (simp only [List.length_map]; unfold big; omega))) only [exL, List.set_cons_succ, List.set_cons_zero, ↓len_tup2, if_true, if_false, Bool.false_eq_true, id, Option.map_some, Bool.not_true, Bool.not_false, Bool.and_true, Bool.true_and, Bool.and_false, Bool.false_and, Bool.or_false, Bool.false_or, Bool.or_true, Bool.true_or, beq_self_eq_true, Option.isSome_some, Option.isSome_none, ha, List.drop_length, parts_nil, List.append_nil]
    rfl
  | succ m ih =>
    intro a made o K h1 h2 h3 hK
    obtain ⟨K, rfl⟩ : ∃ k, K = k + 1 := ⟨K - 1, by omega⟩
    by_cases ha : a = w.length
    · rw [wh_end _ (by simp (disch := (first | assumption | omega | exact rcv_str _ _ | with_unfolding_all rfl | (simp only [List.length_map]; unfold big; omega))) only [exL, List.set_cons_succ, List.set_cons_zero, ↓len_tup2, if_true, if_false, Bool.false_eq_true, id, Option.map_some, Bool.not_true, Bool.not_false, Bool.and_true, Bool.true_and, Bool.and_false, Bool.false_and, Bool.or_false, Bool.false_or, Bool.or_true, Bool.true_or, beq_self_eq_true, Option.isSome_some, Option.isSome_none, ha]; simp)]
      simp (disch := (first | assumption | omega | exact rcv_str _ _ | with_unfolding_all rfl | (simp only [List.length_map]; unfold big; omega))) only [exL, List.set_cons_succ, List.set_cons_zero, ↓len_tup2, if_true, if_false, Bool.false_eq_true, id, Option.map_some, Bool.not_true, Bool.not_false, Bool.and_true, Bool.true_and, Bool.and_false, Bool.false_and, Bool.or_false, Bool.false_or, Bool.or_true, Bool.true_or, beq_self_eq_true, Option.isSome_some, Option.isSome_none, ha, List.drop_length, parts_nil, List.append_nil]
      rfl
    · have hc : decide ((a : Int) < (w.length : Int)) = true := decide_eq_true (by omega)
      have hne : w.drop a ≠ [] := by
        intro q
        have := congrArg List.length q
        rw [List.length_drop] at this
        simp at this; omega
      have hL : ([D.int 3, D.int 2, D.int 1] : List D) = [3, 2, 1].map fun k : Nat => D.int k := rfl
      have hlc : lcGo (lcF (run G n) (Tg.nm 6) (Eo.yes (E.and (.cons (.cmp .inn (.sl (.v 1) (.yes (.v 4)) (.yes (.bin .add (.v 4) (.v 6)))) (.v 2)) (.cons (.cmp .le (.bin .add (.v 4) (.v 6)) (.b1 .len (.v 1))) .nil)))) (.v 6)
          [some T, some (.str w), some (dicT t), some (.lst (made.map D.str)), some (.int a), o, none]) [D.int 3, D.int 2, D.int 1] = ok (([3, 2, 1].filter fun k => (lookT t ((w.drop a).take k)).isSome && decide (k ≤ (w.drop a).length)).map fun k : Nat => D.int k) := by
        rw [hL]
        apply lc_filter
        intro k _
        have hcut := cut_far w a k (by omega)
        have e7 : decide ((a : Int) + (k : Int) ≤ (w.length : Int)) = decide (k ≤ (List.drop a w).length) := by
          rw [List.length_drop]
          by_cases q : k ≤ w.length - a
          · rw [decide_eq_true q, decide_eq_true (by omega)]
          · rw [decide_eq_false q, decide_eq_false (by omega)]
        simp (disch := (first | assumption | omega | exact rcv_str _ _ | with_unfolding_all rfl | (simp only [List.length_map]; unfold big; omega))) only [exL, List.set_cons_succ, List.set_cons_zero, ↓len_tup2, if_true, if_false, Bool.false_eq_true, id, Option.map_some, Bool.not_true, Bool.not_false, Bool.and_true, Bool.true_and, Bool.and_false, Bool.false_and, Bool.or_false, Bool.false_or, Bool.or_true, Bool.true_or, beq_self_eq_true, Option.isSome_some, Option.isSome_none, hcut, dicT, in_G, e7]
      rw [parts_step hne, ← step_list]
      generalize hf : List.filter (fun k => (lookT t (List.take k (List.drop a w))).isSome && decide (k ≤ (List.drop a w).length)) [3, 2, 1] = fl at hlc
      cases fl with
      | nil =>
        have h0 := eq_ints_nil []
        rw [List.map_nil] at h0
        rw [wh_ret (d := .non) _ (by simp (disch := (first | assumption | omega | exact rcv_str _ _ | with_unfolding_all rfl | (simp only [List.length_map]; unfold big; omega))) only [exL, List.set_cons_succ, List.set_cons_zero, ↓len_tup2, if_true, if_false, Bool.false_eq_true, id, Option.map_some, Bool.not_true, Bool.not_false, Bool.and_true, Bool.true_and, Bool.and_false, Bool.false_and, Bool.or_false, Bool.false_or, Bool.or_true, Bool.true_or, beq_self_eq_true, Option.isSome_some, Option.isSome_none, hc]) (by simp (disch := (first | assumption | omega | exact rcv_str _ _ | with_unfolding_all rfl | (simp only [List.length_map]; unfold big; omega))) only [exL, List.set_cons_succ, List.set_cons_zero, ↓len_tup2, if_true, if_false, Bool.false_eq_true, id, Option.map_some, Bool.not_true, Bool.not_false, Bool.and_true, Bool.true_and, Bool.and_false, Bool.false_and, Bool.or_false, Bool.false_or, Bool.or_true, Bool.true_or, beq_self_eq_true, Option.isSome_some, Option.isSome_none, b_parts_of_1, hlc, List.map_nil, h0, List.isEmpty_nil])]
        rfl
      | cons k r =>
        have hk : stepL t (w.drop a) = some k := by rw [← step_list, hf]; rfl
        obtain ⟨k1, k2, k3, k4, _⟩ := stepL_some hk
        rw [List.length_drop] at k3
        have hE : eqD (.lst (D.int k :: r.map fun k : Nat => D.int k)) (.lst []) = ok false := by
          have := eq_ints_nil ((k :: r).map fun k : Nat => (k : Int))
          rw [List.map_cons, List.map_cons, List.map_map] at this
          exact this
        have hcut := cut_far w a k (by omega)
        have hbl : (List.map D.str made).length < big := by rw [List.length_map]; unfold big; omega
        have e4 : (a : Int) + (k : Int) = ((a + k : Nat) : Int) := by omega
        have e5 : List.map D.str made ++ [D.str (List.take k (List.drop a w))] = (made ++ [List.take k (List.drop a w)]).map D.str := by simp
        have e6 : List.drop k (List.drop a w) = w.drop (a + k) := by rw [List.drop_drop]
        rw [wh_next (ρ' := [some T, some (.str w), some (dicT t), some (.lst ((made ++ [List.take k (List.drop a w)]).map D.str)), some (.int ((a + k : Nat) : Int)), some (.lst (D.int k :: r.map fun k : Nat => D.int k)), none]) _ (by simp (disch := (first | assumption | omega | exact rcv_str _ _ | with_unfolding_all rfl | (simp only [List.length_map]; unfold big; omega))) only [exL, List.set_cons_succ, List.set_cons_zero, ↓len_tup2, if_true, if_false, Bool.false_eq_true, id, Option.map_some, Bool.not_true, Bool.not_false, Bool.and_true, Bool.true_and, Bool.and_false, Bool.false_and, Bool.or_false, Bool.false_or, Bool.or_true, Bool.true_or, beq_self_eq_true, Option.isSome_some, Option.isSome_none, hc])
          (by rw [e4] at hcut; simp (disch := (first | assumption | omega | exact rcv_str _ _ | with_unfolding_all rfl | (simp only [List.length_map]; unfold big; omega))) only [exL, List.set_cons_succ, List.set_cons_zero, ↓len_tup2, if_true, if_false, Bool.false_eq_true, id, Option.map_some, Bool.not_true, Bool.not_false, Bool.and_true, Bool.true_and, Bool.and_false, Bool.false_and, Bool.or_false, Bool.false_or, Bool.or_true, Bool.true_or, beq_self_eq_true, Option.isSome_some, Option.isSome_none, b_parts_of_1, hlc, List.map_cons, hE, hbl, e4, hcut, e5])]
        rw [ih (a + k) _ _ K (by omega) (by omega) (by rw [List.length_append]; simp; omega) (by omega), List.head?_cons, Option.bind_some, e6]
        cases parts t (w.drop (a + k)) with
        | none => rfl
        | some ps => simp
theorem parts_of_ok (n : Nat) {t : Tab} (h : (t.map (·.1)).Nodup) (w : St) (hw : w.length ≤ 1000) : run G (n+1) 4 [encT t, .str w] = ok (optL (parts t w)) := by
  have e : run G (n+1) 4 [encT t, .str w] = (exSs (run G n) d_parts_of.body [some (encT t), some (.str w), none, none, none, none, none]).res := rfl
  rw [e]
  have := parts_loop n t w (encT t) w.length 0 [] none whileMax (by omega) (by omega) (by simp; omega) (by unfold whileMax; omega)
  simp only [List.map_nil, List.drop_zero, List.nil_append, Option.map_id'] at this
  simp (disch := (first | assumption | omega | exact rcv_str _ _ | with_unfolding_all rfl | (simp only [List.length_map]; unfold big; omega))) only [exL, List.set_cons_succ, List.set_cons_zero, ↓len_tup2, if_true, if_false, Bool.false_eq_true, id, Option.map_some, Bool.not_true, Bool.not_false, Bool.and_true, Bool.true_and, Bool.and_false, Bool.false_and, Bool.or_false, Bool.false_or, Bool.or_true, Bool.true_or, beq_self_eq_true, Option.isSome_some, Option.isSome_none, d_parts_of, dict_T h]
  exact congrArg Fl.res this

theorem sndP_len {t : Tab} (h : Good t) (ps : List St) : (ps.map fun p => ((lookT t p).getD []).length).sum ≤ 2 * ps.length := by
  induction ps with
  | nil => simp
  | cons p r ih =>
    simp only [List.map_cons, List.sum_cons, List.length_cons]
    have : ((lookT t p).getD []).length ≤ 2 := by
      cases e : lookT t p with
      | none => simp
      | some v => exact (h.val _ (lookT_mem e)).1
    omega
theorem join_parts {t : Tab} (h : Good t) (ps : List St) (hl : ps.length ≤ 1000) : m1D .join (.str []) (.lst (ps.map fun p => .str ((lookT t p).getD []))) = ok (.str (sndP t ps)) := by
  rw [m_join, join_nil]
  · rfl
  · have := sndP_len h ps
    simp only [List.length_nil]
    unfold big
    omega
theorem sounds_of_ok (n : Nat) {t : Tab} (h : Good t) (w : St) (hw : w.length ≤ 1000) : run G (n+2) 5 [encT t, .str w] = ok (optS (snd t w)) := by
  have e : run G (n+2) 5 [encT t, .str w] = (exSs (run G (n+1)) d_sounds_of.body [some (encT t), some (.str w), none, none]).res := rfl
  have nd := strict_nodup h.srt
  rw [e]
  simp (disch := (first | assumption | omega | exact rcv_str _ _ | with_unfolding_all rfl | (simp only [List.length_map]; unfold big; omega))) only [exL, List.set_cons_succ, List.set_cons_zero, ↓len_tup2, if_true, if_false, Bool.false_eq_true, id, Option.map_some, Bool.not_true, Bool.not_false, Bool.and_true, Bool.true_and, Bool.and_false, Bool.false_and, Bool.or_false, Bool.false_or, Bool.or_true, Bool.true_or, beq_self_eq_true, Option.isSome_some, Option.isSome_none, d_sounds_of, parts_of_ok n nd w hw]
  unfold snd
  cases hp : parts t w with
  | none => simp (disch := (first | assumption | omega | exact rcv_str _ _ | with_unfolding_all rfl | (simp only [List.length_map]; unfold big; omega))) only [exL, List.set_cons_succ, List.set_cons_zero, ↓len_tup2, if_true, if_false, Bool.false_eq_true, id, Option.map_some, Bool.not_true, Bool.not_false, Bool.and_true, Bool.true_and, Bool.and_false, Bool.false_and, Bool.or_false, Bool.false_or, Bool.or_true, Bool.true_or, beq_self_eq_true, Option.isSome_some, Option.isSome_none, optL, Option.map_none]; rfl
  | some ps =>
    have hl := parts_len _ (Nat.le_refl _) hp
    simp (disch := (first | assumption | omega | exact rcv_str _ _ | with_unfolding_all rfl | (simp only [List.length_map]; unfold big; omega))) only [exL, List.set_cons_succ, List.set_cons_zero, ↓len_tup2, if_true, if_false, Bool.false_eq_true, id, Option.map_some, Bool.not_true, Bool.not_false, Bool.and_true, Bool.true_and, Bool.and_false, Bool.false_and, Bool.or_false, Bool.false_or, Bool.or_true, Bool.true_or, beq_self_eq_true, Option.isSome_some, Option.isSome_none, optL]
    rw [lc_map (enc := D.str) (g := fun p => .str ((lookT t p).getD []))]
    · simp (disch := (first | assumption | omega | exact rcv_str _ _ | with_unfolding_all rfl | (simp only [List.length_map]; unfold big; omega))) only [exL, List.set_cons_succ, List.set_cons_zero, ↓len_tup2, if_true, if_false, Bool.false_eq_true, id, Option.map_some, Bool.not_true, Bool.not_false, Bool.and_true, Bool.true_and, Bool.and_false, Bool.false_and, Bool.or_false, Bool.false_or, Bool.or_true, Bool.true_or, beq_self_eq_true, Option.isSome_some, Option.isSome_none, join_parts h ps (by omega)]
      rfl
    · intro p hpm
      have hk := parts_keys _ (Nat.le_refl _) hp p hpm
      obtain ⟨v, hv⟩ := Option.isSome_iff_exists.mp hk
      simp (disch := (first | assumption | omega | exact rcv_str _ _ | with_unfolding_all rfl | (simp only [List.length_map]; unfold big; omega))) only [exL, List.set_cons_succ, List.set_cons_zero, ↓len_tup2, if_true, if_false, Bool.false_eq_true, id, Option.map_some, Bool.not_true, Bool.not_false, Bool.and_true, Bool.true_and, Bool.and_false, Bool.false_and, Bool.or_false, Bool.false_or, Bool.or_true, Bool.true_or, beq_self_eq_true, Option.isSome_some, Option.isSome_none, dict_T nd, dicT, ix_G hv, hv, Option.getD_some]
theorem enumL_str (s : St) : ∀ k, enumL k (s.map chD) = (s.zipIdx k).map fun p => .tup [.int p.2, .str [p.1]] := by
  induction s with
  | nil => intro k; rfl
  | cons c r ih => intro k; simp only [List.map_cons, enumL, List.zipIdx_cons, ih]; rfl
theorem vowN_zip (s : St) : ∀ k, ((s.zipIdx k).filter fun p => isV p.1).map (fun p => p.2) = vowN k s := by
  induction s with
  | nil => intro k; rfl
  | cons c r ih =>
    intro k
    simp only [List.zipIdx_cons, List.filter_cons, vowN]
    split
    · rw [List.map_cons, ih]
    · rw [ih]
theorem vowels_in_ok (n : Nat) (s : St) : run G (n+1) 6 [.str s] = ok (.lst ((vows s).map D.int)) := by
  have e : run G (n+1) 6 [.str s] = (exSs (run G n) d_vowels_in.body [some (.str s), none, none]).res := rfl
  rw [e]
  simp (disch := (first | assumption | omega | exact rcv_str _ _ | with_unfolding_all rfl | (simp only [List.length_map]; unfold big; omega))) only [exL, List.set_cons_succ, List.set_cons_zero, ↓len_tup2, if_true, if_false, Bool.false_eq_true, id, Option.map_some, Bool.not_true, Bool.not_false, Bool.and_true, Bool.true_and, Bool.and_false, Bool.false_and, Bool.or_false, Bool.false_or, Bool.or_true, Bool.true_or, beq_self_eq_true, Option.isSome_some, Option.isSome_none, d_vowels_in]
  rw [enumL_str, lc_filter (enc := fun p : Nat × Nat => .tup [.int p.2, .str [p.1]]) (p := fun p => isV p.1) (g := fun p => .int p.2)]
  · simp (disch := (first | assumption | omega | exact rcv_str _ _ | with_unfolding_all rfl | (simp only [List.length_map]; unfold big; omega))) only [exL, List.set_cons_succ, List.set_cons_zero, ↓len_tup2, if_true, if_false, Bool.false_eq_true, id, Option.map_some, Bool.not_true, Bool.not_false, Bool.and_true, Bool.true_and, Bool.and_false, Bool.false_and, Bool.or_false, Bool.false_or, Bool.or_true, Bool.true_or, beq_self_eq_true, Option.isSome_some, Option.isSome_none]
    rw [vows, ← vowN_zip, List.map_map, List.map_map]
    rfl
  · intro p _
    simp (disch := (first | assumption | omega | exact rcv_str _ _ | with_unfolding_all rfl | (simp only [List.length_map]; unfold big; omega))) only [exL, List.set_cons_succ, List.set_cons_zero, ↓len_tup2, if_true, if_false, Bool.false_eq_true, id, Option.map_some, Bool.not_true, Bool.not_false, Bool.and_true, Bool.true_and, Bool.and_false, Bool.false_and, Bool.or_false, Bool.false_or, Bool.or_true, Bool.true_or, beq_self_eq_true, Option.isSome_some, Option.isSome_none]
    rfl
theorem vows_len (s : St) : (vows s).length = (vowN 0 s).length := by simp [vows]
theorem is_word_of_ok (n : Nat) {t : Tab} (h : Good t) {w : St × Int} (hw : IsWord t w) : run G (n+3) 7 [encT t, encW w] = ok (.bl true) := by
  have e : run G (n+3) 7 [encT t, encW w] = (exSs (run G (n+2)) d_is_word_of.body [some (encT t), some (encW w), none]).res := rfl
  obtain ⟨m, hm, hs⟩ := hw.snd
  have hl : (w.1.all fun c => decide (c ∈ smallS)) = true := by rw [List.all_eq_true]; exact fun c hc => decide_eq_true (hw.small c hc)
  have i1 : decide ((1 : Int) ≤ w.1.length) = true := decide_eq_true (by have := hw.l1; omega)
  have i2 : decide ((w.1.length : Int) ≤ 10) = true := decide_eq_true (by have := hw.l2; omega)
  have i3 : decide ((1 : Int) ≤ w.2) = true := decide_eq_true hw.s1
  have i4 : decide (w.2 ≤ 3) = true := decide_eq_true hw.s3
  have i5 : decide (w.2 ≤ ((vows m).length : Int)) = true := decide_eq_true (by rw [vows_len]; exact hs)
  rw [e]
  simp (disch := (first | assumption | omega | exact rcv_str _ _ | with_unfolding_all rfl | (simp only [List.length_map]; unfold big; omega))) only [exL, List.set_cons_succ, List.set_cons_zero, ↓len_tup2, if_true, if_false, Bool.false_eq_true, id, Option.map_some, Bool.not_true, Bool.not_false, Bool.and_true, Bool.true_and, Bool.and_false, Bool.false_and, Bool.or_false, Bool.false_or, Bool.or_true, Bool.true_or, beq_self_eq_true, Option.isSome_some, Option.isSome_none, d_is_word_of, encW, is_letters_ok, hl, i1, i2, i3, i4, sounds_of_ok n h w.1 (by have := hw.l2; omega), hm, optS, vowels_in_ok, List.length_map, i5]
theorem stress_at_ok (n : Nat) (m : St) (s : Int) (h1 : 1 ≤ s) (h2 : s ≤ (vowN 0 m).length) : ∃ a : Nat, (vowN 0 m)[(vowN 0 m).length - s.toNat]? = some a ∧ run G (n+2) 8 [.str m, .int s] = ok (.int a) := by
  have e : run G (n+2) 8 [.str m, .int s] = (exSs (run G (n+1)) d_stress_at.body [some (.str m), some (.int s), none]).res := rfl
  have hlt : (vowN 0 m).length - s.toNat < (vowN 0 m).length := by omega
  refine ⟨(vowN 0 m)[(vowN 0 m).length - s.toNat], List.getElem?_eq_getElem hlt, ?_⟩
  rw [e]
  simp (disch := (first | assumption | omega | exact rcv_str _ _ | with_unfolding_all rfl | (simp only [List.length_map]; unfold big; omega))) only [exL, List.set_cons_succ, List.set_cons_zero, ↓len_tup2, if_true, if_false, Bool.false_eq_true, id, Option.map_some, Bool.not_true, Bool.not_false, Bool.and_true, Bool.true_and, Bool.and_false, Bool.false_and, Bool.or_false, Bool.false_or, Bool.or_true, Bool.true_or, beq_self_eq_true, Option.isSome_some, Option.isSome_none, d_stress_at, vowels_in_ok, List.length_map, vows_len]
  simp only [ixD, atI, ixN, List.length_map, vows_len]
  rw [if_pos (by omega), if_pos (by omega)]
  have e2 : (((vowN 0 m).length : Int) - s).toNat = (vowN 0 m).length - s.toNat := by omega
  simp only [Option.bind_some, e2, vows, List.map_map, List.getElem?_map, List.getElem?_eq_getElem hlt, Option.map_some, ofO_some, kRet_ok, res_ret]
  rfl

theorem stress_ok (n : Nat) {m : St} {s : Int} (h1 : 1 ≤ s) (h2 : s ≤ (vowN 0 m).length) : run G (n+2) 8 [.str m, .int s] = ok (.int (posOf m s)) := by
  obtain ⟨a, e1, e2⟩ := stress_at_ok n m s h1 h2
  obtain ⟨e3, _, _⟩ := pos_at h1 h2
  rw [e1] at e3
  cases e3
  exact e2
theorem tail_of_ok (n : Nat) {t : Tab} (h : Good t) {w : St × Int} (hw : IsWord t w) : run G (n+3) 9 [encT t, encW w] = ok (.str (tailW t w)) := by
  have e : run G (n+3) 9 [encT t, encW w] = (exSs (run G (n+2)) d_tail_of.body [some (encT t), some (encW w), none]).res := rfl
  obtain ⟨hm, hs⟩ := hw.sw
  obtain ⟨_, hp, _⟩ := pos_at hw.s1 hs
  rw [e]
  simp (disch := (first | assumption | omega | exact rcv_str _ _ | with_unfolding_all rfl | (simp only [List.length_map]; unfold big; omega))) only [exL, List.set_cons_succ, List.set_cons_zero, ↓len_tup2, if_true, if_false, Bool.false_eq_true, id, Option.map_some, Bool.not_true, Bool.not_false, Bool.and_true, Bool.true_and, Bool.and_false, Bool.false_and, Bool.or_false, Bool.false_or, Bool.or_true, Bool.true_or, beq_self_eq_true, Option.isSome_some, Option.isSome_none, d_tail_of, encW, sounds_of_ok n h w.1 (by have := hw.l2; omega), hm, optS, stress_ok n hw.s1 hs, cut_lo _ _ (Nat.le_of_lt hp)]
  rfl
theorem snd_len {t : Tab} (h : Good t) {w : St × Int} (hw : IsWord t w) : (sndW t w.1).length ≤ 20 := by
  obtain ⟨hm, _⟩ := hw.sw
  unfold snd at hm
  cases hp : parts t w.1 with
  | none => rw [hp] at hm; cases hm
  | some ps =>
    rw [hp] at hm
    have e : sndW t w.1 = sndP t ps := by
      have : some (sndP t ps) = some (sndW t w.1) := hm
      injection this with q
      exact q.symm
    have h1 := parts_len _ (Nat.le_refl _) hp
    have h2 := sndP_len h ps
    have h3 := hw.l2
    rw [e, sndP, List.length_flatten, List.map_map]
    have : (List.map (List.length ∘ fun p => (lookT t p).getD []) ps).sum = (ps.map fun p => ((lookT t p).getD []).length).sum := rfl
    omega
theorem cell_ok (n : Nat) (ns : List Int) (k : Int) (hk : 0 ≤ k) : run G (n + 1) 25 [.scr ns, .int k] = .ok (.int (cellV ns k)) := by
  have e : run G (n + 1) 25 [.scr ns, .int k] = (exSs (run G n) d__law_cell.body [some (.scr ns), some (.int k)]).res := rfl
  have hlen : b1D .len (.scr ns) = ok (.int ns.length) := rfl
  have heq : eqD (.scr ns) (.lst []) = ok ns.isEmpty := rfl
  rw [e]
  unfold cellV
  by_cases h1 : k < ns.length
  · simp (disch := (first | assumption | omega | exact rcv_str _ _ | with_unfolding_all rfl | (simp only [List.length_map]; unfold big; omega))) only [exL, List.set_cons_succ, List.set_cons_zero, ↓len_tup2, if_true, if_false, Bool.false_eq_true, id, Option.map_some, Bool.not_true, Bool.not_false, Bool.and_true, Bool.true_and, Bool.and_false, Bool.false_and, Bool.or_false, Bool.false_or, Bool.or_true, Bool.true_or, beq_self_eq_true, Option.isSome_some, Option.isSome_none, d__law_cell, hlen, decide_eq_true h1, ix_scr hk h1, if_pos h1]
  · cases ns with
    | nil => simp (disch := (first | assumption | omega | exact rcv_str _ _ | with_unfolding_all rfl | (simp only [List.length_map]; unfold big; omega))) only [exL, List.set_cons_succ, List.set_cons_zero, ↓len_tup2, if_true, if_false, Bool.false_eq_true, id, Option.map_some, Bool.not_true, Bool.not_false, Bool.and_true, Bool.true_and, Bool.and_false, Bool.false_and, Bool.or_false, Bool.false_or, Bool.or_true, Bool.true_or, beq_self_eq_true, Option.isSome_some, Option.isSome_none, d__law_cell, hlen, decide_eq_false h1, heq, List.isEmpty_nil, if_neg h1]
    | cons a r =>
      have hl : (0 : Int) < ((a :: r).length : Int) := by simp only [List.length_cons]; omega
      have hm0 : 0 ≤ k % ((a :: r).length : Int) := Int.emod_nonneg _ (by omega)
      have hm1 : k % ((a :: r).length : Int) < ((a :: r).length : Int) := Int.emod_lt_of_pos _ hl
      simp (disch := (first | assumption | omega | exact rcv_str _ _ | with_unfolding_all rfl | (simp only [List.length_map]; unfold big; omega))) only [exL, List.set_cons_succ, List.set_cons_zero, ↓len_tup2, if_true, if_false, Bool.false_eq_true, id, Option.map_some, Bool.not_true, Bool.not_false, Bool.and_true, Bool.true_and, Bool.and_false, Bool.false_and, Bool.or_false, Bool.false_or, Bool.or_true, Bool.true_or, beq_self_eq_true, Option.isSome_some, Option.isSome_none, d__law_cell, hlen, decide_eq_false h1, heq, List.isEmpty_cons, if_neg h1, op_mod hl, ix_scr hm0 hm1, op_mulr]
theorem pick_ok (n : Nat) (ns : List Int) (k m : Int) (hk : 0 ≤ k) (hm : 0 < m) : run G (n + 2) 26 [.scr ns, .int k, .int m] = .ok (.int (pk ns k m)) := by
  have e : run G (n + 2) 26 [.scr ns, .int k, .int m] = (exSs (run G (n + 1)) d__law_pick.body [some (.scr ns), some (.int k), some (.int m), none]).res := rfl
  have d0 : 0 ≤ drawV ns k := Int.emod_nonneg _ (by decide)
  have d1 : drawV ns k < 2147483399 := Int.emod_lt_of_pos _ (by decide)
  have hd : (cellV ns k + 6151 * (k + 1)) * 40692 % 2147483399 = drawV ns k := rfl
  rw [e]
  simp (disch := (first | assumption | omega | exact rcv_str _ _ | with_unfolding_all rfl | (simp only [List.length_map]; unfold big; omega))) only [exL, List.set_cons_succ, List.set_cons_zero, ↓len_tup2, if_true, if_false, Bool.false_eq_true, id, Option.map_some, Bool.not_true, Bool.not_false, Bool.and_true, Bool.true_and, Bool.and_false, Bool.false_and, Bool.or_false, Bool.false_or, Bool.or_true, Bool.true_or, beq_self_eq_true, Option.isSome_some, Option.isSome_none, d__law_pick, cell_ok n ns k hk, op_mull, op_mulr, op_mod, hd, op_fdiv]
  rfl

def lets9 : St := [97, 98, 101, 103, 108, 110, 111, 115, 116]
def grts9 : St := [65, 66, 69, 71, 76, 78, 79, 83, 84]
def coups : List St := [[110, 103], [101, 97], [111, 111], [115, 116], [108, 108], [101, 97, 110], [116, 116], [115, 103], [111, 110, 101]]
def cvals : List St := [[73], [85], [78], [83, 84], [], [69, 78], [65, 73]]
theorem let_key : ∀ c ∈ lets9, keyOk [c] := by unfold keyOk; decide +kernel
theorem grt_val : ∀ c ∈ grts9, valOk [c] := by unfold valOk; decide +kernel
theorem coup_key : ∀ c ∈ coups, keyOk c := by unfold keyOk; decide +kernel
theorem coup_two : ∀ c ∈ coups, 2 ≤ c.length := by decide +kernel
theorem cval_val : ∀ c ∈ cvals, valOk c := by unfold valOk; decide +kernel
theorem law_table_1 (n : Nat) (ns : List Int) (a : Int) (ha : 0 ≤ a) : ∃ (s : Tab) (o3 o4 : Option D), forGo (bdy (run G (n+2)) (.tp [3, 4]) b__law_table_1) (enumL 0 (lets9.map chD)) [some (.scr ns), some (.int a), some (dicT []), none, none, none, none]
      = .next [some (.scr ns), some (.int a), some (dicT s), o3, o4, none, none] ∧ TOK s ∧ s.length ≤ 9 ∧ ∀ c ∈ lets9, [c] ∈ s.map (·.1) := by
  rw [enumL_str]
  obtain ⟨ρ', q1, s, o3, o4, rfl, q2, q3, q4⟩ := for_ofl (enc := fun p : Nat × Nat => D.tup [.int p.2, .str [p.1]]) (f := bdy (run G (n+2)) (.tp [3, 4]) b__law_table_1) (l := lets9.zipIdx 0)
    (R := fun l1 ρ => ∃ (s : Tab) (o3 o4 : Option D), ρ = [some (.scr ns), some (.int a), some (dicT s), o3, o4, none, none] ∧ TOK s ∧ s.length ≤ l1.length ∧ ∀ p ∈ l1, [p.1] ∈ s.map (·.1))
    (ρ := [some (.scr ns), some (.int a), some (dicT []), none, none, none, none]) (by
      rintro l1 ⟨c, k⟩ l2 ρ hx ⟨s, o3, o4, rfl, h1, h2, h3⟩
      have hc : c ∈ lets9 := List.fst_mem_of_mem_zipIdx (x := (c, k)) (by rw [hx]; simp)
      have hll : l1.length ≤ 9 := by
        have := congrArg List.length hx
        rw [List.length_append] at this
        have e9 : (lets9.zipIdx 0).length = 9 := by decide
        omega
      have hp := pk_nn (ns := ns) (k := a) (m := 2) (by decide)
      have hp2 := pk_lt (ns := ns) (k := a) (m := 2) (by decide)
      have hm0 : 0 ≤ ((k : Int) + pk ns a 2 * pk ns (a + 1 + k) 9) % 9 := Int.emod_nonneg _ (by decide)
      have hm1 : ((k : Int) + pk ns a 2 * pk ns (a + 1 + k) 9) % 9 < grts9.length := Int.emod_lt_of_pos _ (by decide)
      have hix := ix_sign (s := grts9) hm0 hm1
      have hv := grt_val _ (getD_mem (l := grts9) (i := (((k : Int) + pk ns a 2 * pk ns (a + 1 + k) 9) % 9).toNat) (z := 0) (by omega))
      have hsl : s.length < big := by unfold big; exact Nat.lt_of_le_of_lt h2 (by omega)
      refine ⟨_, by
        unfold grts9 at hix
        simp (disch := (first | assumption | omega | exact rcv_str _ _ | with_unfolding_all rfl | (simp only [List.length_map]; unfold big; omega))) only [exL, List.set_cons_succ, List.set_cons_zero, ↓len_tup2, if_true, if_false, Bool.false_eq_true, id, Option.map_some, Bool.not_true, Bool.not_false, Bool.and_true, Bool.true_and, Bool.and_false, Bool.false_and, Bool.or_false, Bool.false_or, Bool.or_true, Bool.true_or, beq_self_eq_true, Option.isSome_some, Option.isSome_none, b__law_table_1, pick_ok n, op_mull, op_mod, hix, put_G, dicT]; rfl, putT [c] [grts9.getD (((k : Int) + pk ns a 2 * pk ns (a + 1 + k) 9) % 9).toNat 0] s, _, _, rfl, h1.put (let_key c hc) hv (Nat.le_refl _), ?_, ?_⟩
      · have := putT_len [c] [grts9.getD (((k : Int) + pk ns a 2 * pk ns (a + 1 + k) 9) % 9).toNat 0] s
        rw [List.length_append]
        exact Nat.le_trans this (Nat.succ_le_succ h2)
      · intro p hp
        rcases List.mem_append.mp hp with z | z
        · exact putT_key (.inr (h3 p z))
        · rw [List.mem_singleton.mp z]; exact putT_key (.inl rfl)) ⟨[], none, none, rfl, ⟨List.nodup_nil, fun r hr => by cases hr⟩, Nat.le_refl _, fun p hp => by cases hp⟩
  refine ⟨s, o3, o4, q1, q2, q3, fun c hc => ?_⟩
  obtain ⟨p, hp, e⟩ : ∃ p ∈ lets9.zipIdx 0, p.1 = c := by
    have e : (lets9.zipIdx 0).map (·.1) = lets9 := by decide
    rw [← e] at hc
    obtain ⟨p, hp, e⟩ := List.mem_map.mp hc
    exact ⟨p, hp, e⟩
  rw [← e]
  exact q4 p hp

theorem law_table_2 (n : Nat) (ns : List Int) (a : Int) (ha : 0 ≤ a) (s0 : Tab) (j : Nat) (hj : j ≤ 4) (h0 : TOK s0) (hl0 : s0.length ≤ 9) (o3 o4 : Option D) : ∃ (s : Tab) (o3' o5' : Option D), forGo (bdy (run G (n+2)) (.nm 3) b__law_table_2) (rangeL 0 j) [some (.scr ns), some (.int a), some (dicT s0), o3, o4, none, none]
      = .next [some (.scr ns), some (.int a), some (dicT s), o3', o4, o5', none] ∧ TOK s ∧ s.length ≤ 13 ∧ ∀ k ∈ s0.map (·.1), k ∈ s.map (·.1) := by
  obtain ⟨ρ', q1, s, o3', o5', rfl, q2, q3, q4⟩ := for_ofl (enc := fun i : Nat => D.int (0 + (i : Int))) (f := bdy (run G (n+2)) (.nm 3) b__law_table_2) (l := List.range j)
    (R := fun l1 ρ => ∃ (s : Tab) (o3' o5' : Option D), ρ = [some (.scr ns), some (.int a), some (dicT s), o3', o4, o5', none] ∧ TOK s ∧ s.length ≤ 9 + l1.length ∧ ∀ k ∈ s0.map (·.1), k ∈ s.map (·.1))
    (ρ := [some (.scr ns), some (.int a), some (dicT s0), o3, o4, none, none]) (by
      rintro l1 i l2 ρ hx ⟨s, o3, o5, rfl, h1, h2, h3⟩
      have hll : l1.length ≤ 4 := by
        have := congrArg List.length hx
        rw [List.length_append, List.length_range] at this
        omega
      have hi1 : ixD (D.lst (coups.map D.str)) (.int (pk ns (a + 13 + 2 * (0 + (i : Int))) 9)) = _ := ix_map [] (pk_nn (by decide)) (pk_lt (by decide))
      have hi2 : ixD (D.lst (cvals.map D.str)) (.int (pk ns (a + 14 + 2 * (0 + (i : Int))) 7)) = _ := ix_map [] (pk_nn (by decide)) (pk_lt (by decide))
      have hk := coup_key _ (getD_mem (l := coups) (i := (pk ns (a + 13 + 2 * (0 + (i : Int))) 9).toNat) (z := []) (by have := pk_lt (ns := ns) (k := a + 13 + 2 * (0 + (i : Int))) (m := 9) (by decide); have := pk_nn (ns := ns) (k := a + 13 + 2 * (0 + (i : Int))) (m := 9) (by decide); show _ < 9; omega))
      have hk2 := coup_two _ (getD_mem (l := coups) (i := (pk ns (a + 13 + 2 * (0 + (i : Int))) 9).toNat) (z := []) (by have := pk_lt (ns := ns) (k := a + 13 + 2 * (0 + (i : Int))) (m := 9) (by decide); have := pk_nn (ns := ns) (k := a + 13 + 2 * (0 + (i : Int))) (m := 9) (by decide); show _ < 9; omega))
      have hv := cval_val _ (getD_mem (l := cvals) (i := (pk ns (a + 14 + 2 * (0 + (i : Int))) 7).toNat) (z := []) (by have := pk_lt (ns := ns) (k := a + 14 + 2 * (0 + (i : Int))) (m := 7) (by decide); have := pk_nn (ns := ns) (k := a + 14 + 2 * (0 + (i : Int))) (m := 7) (by decide); show _ < 7; omega))
      have hsl : s.length < big := by unfold big; exact Nat.lt_of_le_of_lt h2 (by omega)
      generalize hK : coups.getD (pk ns (a + 13 + 2 * (0 + (i : Int))) 9).toNat [] = K at hi1 hk hk2
      generalize hV : cvals.getD (pk ns (a + 14 + 2 * (0 + (i : Int))) 7).toNat [] = V at hi2 hv
      simp only [coups, List.map_cons, List.map_nil] at hi1
      simp only [cvals, List.map_cons, List.map_nil] at hi2
      refine ⟨_, by
        simp (disch := (first | assumption | omega | exact rcv_str _ _ | with_unfolding_all rfl | (simp only [List.length_map]; unfold big; omega))) only [exL, List.set_cons_succ, List.set_cons_zero, ↓len_tup2, if_true, if_false, Bool.false_eq_true, id, Option.map_some, Bool.not_true, Bool.not_false, Bool.and_true, Bool.true_and, Bool.and_false, Bool.false_and, Bool.or_false, Bool.false_or, Bool.or_true, Bool.true_or, beq_self_eq_true, Option.isSome_some, Option.isSome_none, b__law_table_2, pick_ok n, op_mull, hi1, hi2, put_G, dicT]; rfl, putT K V s, _, _, rfl, h1.put hk hv (Nat.le_trans hv.1 hk2), ?_, fun k hk => putT_key (.inr (h3 k hk))⟩
      have := putT_len K V s
      rw [List.length_append]
      exact Nat.le_trans this (Nat.succ_le_succ h2)) ⟨s0, o3, none, rfl, h0, hl0, fun k hk => hk⟩
  refine ⟨s, o3', o5', q1, q2, ?_, q4⟩
  rw [List.length_range] at q3
  omega
theorem law_table_ok (n : Nat) (ns : List Int) (a : Int) (ha : 0 ≤ a) : ∃ t, Good t ∧ run G (n + 3) 27 [.scr ns, .int a] = ok (encT t) := by
  have e : run G (n + 3) 27 [.scr ns, .int a] = (exSs (run G (n + 2)) d__law_table.body [some (.scr ns), some (.int a), none, none, none, none, none]).res := rfl
  rw [e]
  have e0 : D.dic [] [] = dicT [] := rfl
  obtain ⟨s1, o3, o4, h1, k1, l1, c1⟩ := law_table_1 n ns a ha
  have p5 := pk_nn (ns := ns) (k := a + 12) (m := 5) (by decide)
  have p5' := pk_lt (ns := ns) (k := a + 12) (m := 5) (by decide)
  obtain ⟨s2, o3', o5', h2, k2, l2, c2⟩ := law_table_2 n ns a ha s1 (pk ns (a + 12) 5).toNat (by omega) k1 l1 o3 o4
  unfold lets9 at h1
  have hend : ∀ (s : Tab), TOK s → 1 ≤ s.length → s.length ≤ 13 → ∃ t, Good t ∧ exSs (run G (n+2)) (.cons (.ret (.b1 .tuple (.lc (.nm 6) (.e (.b1 .sorted (.v 2))) .no (.tup (.cons (.v 6) (.cons (.ix (.v 2) (.v 6)) .nil)))))) .nil) [some (.scr ns), some (.int a), some (dicT s), o3', o4, o5', none] = .ret (encT t) := by
    intro s hs hs1 hs2
    refine ⟨sortT [] s, hs.good hs1 (by omega), ?_⟩
    simp (disch := (first | assumption | omega | exact rcv_str _ _ | with_unfolding_all rfl | (simp only [List.length_map]; unfold big; omega))) only [exL, List.set_cons_succ, List.set_cons_zero, ↓len_tup2, if_true, if_false, Bool.false_eq_true, id, Option.map_some, Bool.not_true, Bool.not_false, Bool.and_true, Bool.true_and, Bool.and_false, Bool.false_and, Bool.or_false, Bool.false_or, Bool.or_true, Bool.true_or, beq_self_eq_true, Option.isSome_some, Option.isSome_none, dicT, sorted_dic D.str s (by omega)]
    rw [lc_map (enc := D.str) (g := fun k => encR (k, (lookT s k).getD []))]
    · simp (disch := (first | assumption | omega | exact rcv_str _ _ | with_unfolding_all rfl | (simp only [List.length_map]; unfold big; omega))) only [exL, List.set_cons_succ, List.set_cons_zero, ↓len_tup2, if_true, if_false, Bool.false_eq_true, id, Option.map_some, Bool.not_true, Bool.not_false, Bool.and_true, Bool.true_and, Bool.and_false, Bool.false_and, Bool.or_false, Bool.false_or, Bool.or_true, Bool.true_or, beq_self_eq_true, Option.isSome_some, Option.isSome_none, encT, sortT, List.map_map]
      rfl
    · intro k hk
      have : k ∈ s.map (·.1) := (isort_permS _).mem_iff.mp hk
      obtain ⟨v, hv⟩ := Option.isSome_iff_exists.mp (lookT_isSome.mpr this)
      simp (disch := (first | assumption | omega | exact rcv_str _ _ | with_unfolding_all rfl | (simp only [List.length_map]; unfold big; omega))) only [exL, List.set_cons_succ, List.set_cons_zero, ↓len_tup2, if_true, if_false, Bool.false_eq_true, id, Option.map_some, Bool.not_true, Bool.not_false, Bool.and_true, Bool.true_and, Bool.and_false, Bool.false_and, Bool.or_false, Bool.false_or, Bool.or_true, Bool.true_or, beq_self_eq_true, Option.isSome_some, Option.isSome_none, ix_G hv, hv, Option.getD_some, encR]
  have len1 : ∀ {s : Tab} {k : St}, k ∈ s.map (·.1) → 1 ≤ s.length := fun {s k} q => by
    cases s with
    | nil => cases q
    | cons x r => simp
  by_cases hp : pk ns (a + 25) 3 = 0
  · have hi : ixD (.str lets9) (.int (pk ns (a + 26) 9)) = _ := ix_sign (s := lets9) (pk_nn (by decide)) (pk_lt (by decide))
    have hm := getD_mem (l := lets9) (i := (pk ns (a + 26) 9).toNat) (z := 0) (by have := pk_lt (ns := ns) (k := a + 26) (m := 9) (by decide); have := pk_nn (ns := ns) (k := a + 26) (m := 9) (by decide); show _ < 9; omega)
    generalize hK : lets9.getD (pk ns (a + 26) 9).toNat 0 = K at hi hm
    unfold lets9 at hi
    have hin := c2 _ (c1 K hm)
    have hl3 : (s2.filter fun r => decide (r.1 ≠ [K])).length ≤ 13 := Nat.le_trans (List.length_filter_le _ _) l2
    have ht3 : TOK (s2.filter fun r => decide (r.1 ≠ [K])) := ⟨(List.filter_sublist.map _).nodup k2.nd, fun r hr => k2.ok r (List.mem_filter.mp hr).1⟩
    have hne : ∃ k, k ∈ (s2.filter fun r => decide (r.1 ≠ [K])).map (·.1) := by
      obtain ⟨c, hc, hcK⟩ : ∃ c ∈ lets9, c ≠ K := by
        by_cases q : K = 97
        · exact ⟨98, by decide, by omega⟩
        · exact ⟨97, by decide, fun z => q z.symm⟩
      obtain ⟨r, hr, er⟩ := List.mem_map.mp (c2 _ (c1 c hc))
      refine ⟨[c], List.mem_map.mpr ⟨r, List.mem_filter.mpr ⟨hr, ?_⟩, er⟩⟩
      rw [decide_eq_true_eq, er]
      intro z
      injection z with z1 _
      exact hcK z1
    obtain ⟨k, hk⟩ := hne
    obtain ⟨t, hg, ht⟩ := hend _ ht3 (len1 hk) hl3
    refine ⟨t, hg, ?_⟩
    simp (disch := (first | assumption | omega | exact rcv_str _ _ | with_unfolding_all rfl | (simp only [List.length_map]; unfold big; omega))) only [exL, List.set_cons_succ, List.set_cons_zero, ↓len_tup2, if_true, if_false, Bool.false_eq_true, id, Option.map_some, Bool.not_true, Bool.not_false, Bool.and_true, Bool.true_and, Bool.and_false, Bool.false_and, Bool.or_false, Bool.false_or, Bool.or_true, Bool.true_or, beq_self_eq_true, Option.isSome_some, Option.isSome_none, d__law_table, e0, asgo_G, h1, pick_ok n, h2, hp, hi, dpop_G hin, ↓ht]
  · obtain ⟨t, hg, ht⟩ := hend _ k2 (len1 (c2 _ (c1 97 (by decide)))) l2
    refine ⟨t, hg, ?_⟩
    have hp' : (pk ns (a + 25) 3 == 0) = false := beq_eq_false_iff_ne.mpr hp
    simp (disch := (first | assumption | omega | exact rcv_str _ _ | with_unfolding_all rfl | (simp only [List.length_map]; unfold big; omega))) only [exL, List.set_cons_succ, List.set_cons_zero, ↓len_tup2, if_true, if_false, Bool.false_eq_true, id, Option.map_some, Bool.not_true, Bool.not_false, Bool.and_true, Bool.true_and, Bool.and_false, Bool.false_and, Bool.or_false, Bool.false_or, Bool.or_true, Bool.true_or, beq_self_eq_true, Option.isSome_some, Option.isSome_none, d__law_table, e0, asgo_G, h1, pick_ok n, h2, hp', ↓ht]

theorem lparts_loop (n : Nat) {t : Tab} (hg : Good t) : ∀ (m : Nat) (w : St) (made : List St) (o3 o4 : Option D) (K : Nat), w.length ≤ m → made.length + w.length ≤ 1000 → m < K →
    sq (run G n) (kWh (run G n) (.cmp .ne (.v 1) (.c (.str []))) b__law_parts_1 K [some (encT t), some (.str w), some (.lst (made.map D.str)), o3, o4, none, none]) (.cons (.ret (.v 2)) .nil)
      = .ret (optL ((parts t w).map (made ++ ·))) := by
  intro m
  induction m with
  | zero =>
    intro w made o3 o4 K h1 h2 hK
    obtain ⟨K, rfl⟩ : ∃ k, K = k + 1 := ⟨K - 1, by omega⟩
    have hw : w = [] := List.eq_nil_of_length_eq_zero (by omega)
    subst hw
    rw [wh_end _ (by simp (disch := (first | assumption | omega | exact rcv_str _ _ | with_unfolding_all rfl | (simp only [List.length_map]; unfold big; omega))) only [exL, List.set_cons_succ, List.set_cons_zero, ↓len_tup2, if_true, if_false, Bool.false_eq_true, id, Option.map_some, Bool.not_true, Bool.not_false, Bool.and_true, Bool.true_and, Bool.and_false, Bool.false_and, Bool.or_false, Bool.false_or, Bool.or_true, Bool.true_or, beq_self_eq_true, Option.isSome_some, Option.isSome_none])]
    simp (disch := (first | assumption | omega | exact rcv_str _ _ | with_unfolding_all rfl | (simp only [List.length_map]; unfold big; omega))) only [exL, List.set_cons_succ, List.set_cons_zero, ↓len_tup2, if_true, if_false, Bool.false_eq_true, id, Option.map_some, Bool.not_true, Bool.not_false, Bool.and_true, Bool.true_and, Bool.and_false, Bool.false_and, Bool.or_false, Bool.false_or, Bool.or_true, Bool.true_or, beq_self_eq_true, Option.isSome_some, Option.isSome_none, parts_nil, List.append_nil]
    rfl
  | succ m ih =>
    intro w made o3 o4 K h1 h2 hK
    obtain ⟨K, rfl⟩ : ∃ k, K = k + 1 := ⟨K - 1, by omega⟩
    by_cases hw : w = []
    · subst hw
      rw [wh_end _ (by simp (disch := (first | assumption | omega | exact rcv_str _ _ | with_unfolding_all rfl | (simp only [List.length_map]; unfold big; omega))) only [exL, List.set_cons_succ, List.set_cons_zero, ↓len_tup2, if_true, if_false, Bool.false_eq_true, id, Option.map_some, Bool.not_true, Bool.not_false, Bool.and_true, Bool.true_and, Bool.and_false, Bool.false_and, Bool.or_false, Bool.false_or, Bool.or_true, Bool.true_or, beq_self_eq_true, Option.isSome_some, Option.isSome_none])]
      simp (disch := (first | assumption | omega | exact rcv_str _ _ | with_unfolding_all rfl | (simp only [List.length_map]; unfold big; omega))) only [exL, List.set_cons_succ, List.set_cons_zero, ↓len_tup2, if_true, if_false, Bool.false_eq_true, id, Option.map_some, Bool.not_true, Bool.not_false, Bool.and_true, Bool.true_and, Bool.and_false, Bool.false_and, Bool.or_false, Bool.false_or, Bool.or_true, Bool.true_or, beq_self_eq_true, Option.isSome_some, Option.isSome_none, parts_nil, List.append_nil]
      rfl
    · have hc : (w == []) = false := beq_eq_false_iff_ne.mpr hw
      have hlc : lcGo (lcF (run G n) (Tg.nm 5) (Eo.yes (.cmp .eq (.sl (.v 1) .no (.yes (.b1 .len (.ix (.v 5) (.c (.int 0)))))) (.ix (.v 5) (.c (.int 0))))) (.ix (.v 5) (.c (.int 0)))
          [some (encT t), some (.str w), some (.lst (made.map D.str)), o3, o4, none, none]) (t.map encR) = ok ((begins t w).map D.str) := by
        rw [lc_filter (enc := encR) (p := fun r => w.take r.1.length == r.1) (g := fun r => .str r.1)]
        · unfold begins
          rw [List.map_map]
          rfl
        · intro r _
          simp (disch := (first | assumption | omega | exact rcv_str _ _ | with_unfolding_all rfl | (simp only [List.length_map]; unfold big; omega))) only [exL, List.set_cons_succ, List.set_cons_zero, ↓len_tup2, if_true, if_false, Bool.false_eq_true, id, Option.map_some, Bool.not_true, Bool.not_false, Bool.and_true, Bool.true_and, Bool.and_false, Bool.false_and, Bool.or_false, Bool.false_or, Bool.or_true, Bool.true_or, beq_self_eq_true, Option.isSome_some, Option.isSome_none, encR, cut_hi]
      rw [parts_step hw]
      by_cases hb : begins t w = []
      · have h0 := eq_strs_nil []
        rw [List.map_nil] at h0
        rw [begins_none hb]
        rw [hb] at hlc
        unfold encT at hlc ⊢
        rw [wh_ret (d := .non) _ (by simp (disch := (first | assumption | omega | exact rcv_str _ _ | with_unfolding_all rfl | (simp only [List.length_map]; unfold big; omega))) only [exL, List.set_cons_succ, List.set_cons_zero, ↓len_tup2, if_true, if_false, Bool.false_eq_true, id, Option.map_some, Bool.not_true, Bool.not_false, Bool.and_true, Bool.true_and, Bool.and_false, Bool.false_and, Bool.or_false, Bool.false_or, Bool.or_true, Bool.true_or, beq_self_eq_true, Option.isSome_some, Option.isSome_none, hc]) (by simp (disch := (first | assumption | omega | exact rcv_str _ _ | with_unfolding_all rfl | (simp only [List.length_map]; unfold big; omega))) only [exL, List.set_cons_succ, List.set_cons_zero, ↓len_tup2, if_true, if_false, Bool.false_eq_true, id, Option.map_some, Bool.not_true, Bool.not_false, Bool.and_true, Bool.true_and, Bool.and_false, Bool.false_and, Bool.or_false, Bool.false_or, Bool.or_true, Bool.true_or, beq_self_eq_true, Option.isSome_some, Option.isSome_none, b__law_parts_1, hlc, List.map_nil, h0, List.isEmpty_nil])]
        rfl
      · obtain ⟨s, m1, m2, m3⟩ := max_L _ hb
        obtain ⟨s1, s2⟩ := begins_best hg m2 m3
        have hie : (begins t w).isEmpty = false := by
          cases q : begins t w with
          | nil => exact absurd q hb
          | cons x r => rfl
        have hlc2 : ∀ a b c d e f g, lcGo (lcF (run G n) (Tg.nm 6) Eo.no (.tup (.cons (.b1 .len (.v 6)) (.cons (.v 6) .nil))) [a, b, c, d, e, f, g]) ((begins t w).map D.str) = ok ((begins t w).map encL) := by
          intro a b c d e f g
          apply lc_map
          intro p _
          simp (disch := (first | assumption | omega | exact rcv_str _ _ | with_unfolding_all rfl | (simp only [List.length_map]; unfold big; omega))) only [exL, List.set_cons_succ, List.set_cons_zero, ↓len_tup2, if_true, if_false, Bool.false_eq_true, id, Option.map_some, Bool.not_true, Bool.not_false, Bool.and_true, Bool.true_and, Bool.and_false, Bool.false_and, Bool.or_false, Bool.false_or, Bool.or_true, Bool.true_or, beq_self_eq_true, Option.isSome_some, Option.isSome_none, encL]
        have hE := eq_strs_nil (begins t w)
        rw [hie] at hE
        have hbl : (List.map D.str made).length < big := by rw [List.length_map]; unfold big; omega
        obtain ⟨a1, a2, a3, _⟩ := stepL_some s1
        have hcut := cut_lo w s.length a3
        have e5 : List.map D.str made ++ [D.str s] = (made ++ [s]).map D.str := by simp
        rw [wh_next (ρ' := [some (encT t), some (.str (w.drop s.length)), some (.lst ((made ++ [s]).map D.str)), some (.lst ((begins t w).map D.str)), some (.str s), none, none]) _ (by simp (disch := (first | assumption | omega | exact rcv_str _ _ | with_unfolding_all rfl | (simp only [List.length_map]; unfold big; omega))) only [exL, List.set_cons_succ, List.set_cons_zero, ↓len_tup2, if_true, if_false, Bool.false_eq_true, id, Option.map_some, Bool.not_true, Bool.not_false, Bool.and_true, Bool.true_and, Bool.and_false, Bool.false_and, Bool.or_false, Bool.false_or, Bool.or_true, Bool.true_or, beq_self_eq_true, Option.isSome_some, Option.isSome_none, hc])
          (by
            unfold encT at hlc ⊢
            simp (disch := (first | assumption | omega | exact rcv_str _ _ | with_unfolding_all rfl | (simp only [List.length_map]; unfold big; omega))) only [exL, List.set_cons_succ, List.set_cons_zero, ↓len_tup2, if_true, if_false, Bool.false_eq_true, id, Option.map_some, Bool.not_true, Bool.not_false, Bool.and_true, Bool.true_and, Bool.and_false, Bool.false_and, Bool.or_false, Bool.false_or, Bool.or_true, Bool.true_or, beq_self_eq_true, Option.isSome_some, Option.isSome_none, b__law_parts_1, hlc, hE, hlc2, m1, encL, hbl, e5, hcut])]
        rw [ih _ _ _ _ K (by rw [List.length_drop]; omega) (by rw [List.length_append, List.length_drop]; simp; omega) (by omega), s1, Option.bind_some, s2]
        cases parts t (w.drop s.length) with
        | none => rfl
        | some ps => simp
theorem law_parts_ok (n : Nat) {t : Tab} (hg : Good t) (w : St) (hw : w.length ≤ 1000) : run G (n+1) 28 [encT t, .str w] = ok (optL (parts t w)) := by
  have e : run G (n+1) 28 [encT t, .str w] = (exSs (run G n) d__law_parts.body [some (encT t), some (.str w), none, none, none, none, none]).res := rfl
  rw [e]
  have := lparts_loop n hg w.length w [] none none whileMax (Nat.le_refl _) (by simp; omega) (by unfold whileMax; omega)
  simp only [List.map_nil, List.nil_append, Option.map_id'] at this
  simp (disch := (first | assumption | omega | exact rcv_str _ _ | with_unfolding_all rfl | (simp only [List.length_map]; unfold big; omega))) only [exL, List.set_cons_succ, List.set_cons_zero, ↓len_tup2, if_true, if_false, Bool.false_eq_true, id, Option.map_some, Bool.not_true, Bool.not_false, Bool.and_true, Bool.true_and, Bool.and_false, Bool.false_and, Bool.or_false, Bool.false_or, Bool.or_true, Bool.true_or, beq_self_eq_true, Option.isSome_some, Option.isSome_none, d__law_parts]
  exact congrArg Fl.res this
theorem law_sounds_ok (n : Nat) {t : Tab} (h : Good t) (w : St) (hw : w.length ≤ 1000) : run G (n+2) 29 [encT t, .str w] = ok (optS (snd t w)) := by
  have e : run G (n+2) 29 [encT t, .str w] = (exSs (run G (n+1)) d__law_sounds.body [some (encT t), some (.str w), none, none, none]).res := rfl
  have nd := strict_nodup h.srt
  rw [e]
  simp (disch := (first | assumption | omega | exact rcv_str _ _ | with_unfolding_all rfl | (simp only [List.length_map]; unfold big; omega))) only [exL, List.set_cons_succ, List.set_cons_zero, ↓len_tup2, if_true, if_false, Bool.false_eq_true, id, Option.map_some, Bool.not_true, Bool.not_false, Bool.and_true, Bool.true_and, Bool.and_false, Bool.false_and, Bool.or_false, Bool.false_or, Bool.or_true, Bool.true_or, beq_self_eq_true, Option.isSome_some, Option.isSome_none, d__law_sounds, law_parts_ok n h w hw]
  unfold snd
  cases hp : parts t w with
  | none => simp (disch := (first | assumption | omega | exact rcv_str _ _ | with_unfolding_all rfl | (simp only [List.length_map]; unfold big; omega))) only [exL, List.set_cons_succ, List.set_cons_zero, ↓len_tup2, if_true, if_false, Bool.false_eq_true, id, Option.map_some, Bool.not_true, Bool.not_false, Bool.and_true, Bool.true_and, Bool.and_false, Bool.false_and, Bool.or_false, Bool.false_or, Bool.or_true, Bool.true_or, beq_self_eq_true, Option.isSome_some, Option.isSome_none, optL, Option.map_none]; rfl
  | some ps =>
    have hl := parts_len _ (Nat.le_refl _) hp
    simp (disch := (first | assumption | omega | exact rcv_str _ _ | with_unfolding_all rfl | (simp only [List.length_map]; unfold big; omega))) only [exL, List.set_cons_succ, List.set_cons_zero, ↓len_tup2, if_true, if_false, Bool.false_eq_true, id, Option.map_some, Bool.not_true, Bool.not_false, Bool.and_true, Bool.true_and, Bool.and_false, Bool.false_and, Bool.or_false, Bool.false_or, Bool.or_true, Bool.true_or, beq_self_eq_true, Option.isSome_some, Option.isSome_none, optL]
    rw [lc_map (enc := D.str) (g := fun p => .str ((lookT t p).getD []))]
    · simp (disch := (first | assumption | omega | exact rcv_str _ _ | with_unfolding_all rfl | (simp only [List.length_map]; unfold big; omega))) only [exL, List.set_cons_succ, List.set_cons_zero, ↓len_tup2, if_true, if_false, Bool.false_eq_true, id, Option.map_some, Bool.not_true, Bool.not_false, Bool.and_true, Bool.true_and, Bool.and_false, Bool.false_and, Bool.or_false, Bool.false_or, Bool.or_true, Bool.true_or, beq_self_eq_true, Option.isSome_some, Option.isSome_none, join_parts h ps (by omega)]
      rfl
    · intro p hpm
      have hk := parts_keys _ (Nat.le_refl _) hp p hpm
      obtain ⟨v, hv⟩ := Option.isSome_iff_exists.mp hk
      have hf := filter_look nd hv
      simp (disch := (first | assumption | omega | exact rcv_str _ _ | with_unfolding_all rfl | (simp only [List.length_map]; unfold big; omega))) only [exL, List.set_cons_succ, List.set_cons_zero, ↓len_tup2, if_true, if_false, Bool.false_eq_true, id, Option.map_some, Bool.not_true, Bool.not_false, Bool.and_true, Bool.true_and, Bool.and_false, Bool.false_and, Bool.or_false, Bool.false_or, Bool.or_true, Bool.true_or, beq_self_eq_true, Option.isSome_some, Option.isSome_none, encT]
      rw [lc_filter (enc := encR) (p := fun r => r.1 == p) (g := fun r => .str r.2)]
      · have hj : m1D .join (.str []) (.lst (List.map (fun r => D.str r.2) (t.filter fun r => r.1 == p))) = ok (.str v) := by
          have : (List.map (fun r => D.str r.2) (t.filter fun r => r.1 == p)) = ((t.filter fun r => r.1 == p).map fun r => r.2).map fun x => D.str x := by rw [List.map_map]; rfl
          rw [this, hf]
          have hv2 : v.length ≤ 2 := (h.val _ (lookT_mem hv)).1
          rw [m_join [] [v] (fun x => x) (by simp; unfold big; omega)]
          simp [joinL]
        simp (disch := (first | assumption | omega | exact rcv_str _ _ | with_unfolding_all rfl | (simp only [List.length_map]; unfold big; omega))) only [exL, List.set_cons_succ, List.set_cons_zero, ↓len_tup2, if_true, if_false, Bool.false_eq_true, id, Option.map_some, Bool.not_true, Bool.not_false, Bool.and_true, Bool.true_and, Bool.and_false, Bool.false_and, Bool.or_false, Bool.false_or, Bool.or_true, Bool.true_or, beq_self_eq_true, Option.isSome_some, Option.isSome_none, hj, hv, Option.getD_some]
      · intro r _
        simp (disch := (first | assumption | omega | exact rcv_str _ _ | with_unfolding_all rfl | (simp only [List.length_map]; unfold big; omega))) only [exL, List.set_cons_succ, List.set_cons_zero, ↓len_tup2, if_true, if_false, Bool.false_eq_true, id, Option.map_some, Bool.not_true, Bool.not_false, Bool.and_true, Bool.true_and, Bool.and_false, Bool.false_and, Bool.or_false, Bool.false_or, Bool.or_true, Bool.true_or, beq_self_eq_true, Option.isSome_some, Option.isSome_none, encR]
theorem sign_le (a b : Nat) : (!decide (([b] : St) < [a])) = decide (a ≤ b) := by
  have : (([b] : St) < [a]) ↔ b < a := by
    constructor
    · intro h
      cases h with
      | rel h => exact h
      | cons h => cases h
    · exact fun h => List.Lex.rel h
  by_cases q : b < a
  · rw [decide_eq_true (this.mpr q), decide_eq_false (by omega)]; rfl
  · rw [decide_eq_false (fun z => q (this.mp z)), decide_eq_true (by omega)]; rfl
theorem small_range {c : Nat} (h1 : 97 ≤ c) (h2 : c ≤ 122) : c ∈ smallS := by
  have : c = 97 + (c - 97) := by omega
  have h3 : c - 97 < 26 := by omega
  rw [this]
  generalize c - 97 = d at h3
  revert d
  decide
theorem law_is_letters_ok (n : Nat) (s : St) (m : Int) : ∃ b : Bool, run G (n+1) 30 [.str s, .int m] = ok (.bl b) ∧ (b = true → 1 ≤ s.length ∧ (s.length : Int) ≤ m ∧ ∀ c ∈ s, c ∈ smallS) := by
  have e : run G (n+1) 30 [.str s, .int m] = (exSs (run G n) d__law_is_letters.body [some (.str s), some (.int m), none]).res := rfl
  rw [e]
  by_cases h1 : (1 : Int) ≤ s.length
  · by_cases h2 : (s.length : Int) ≤ m
    · refine ⟨_, by
        simp (disch := (first | assumption | omega | exact rcv_str _ _ | with_unfolding_all rfl | (simp only [List.length_map]; unfold big; omega))) only [exL, List.set_cons_succ, List.set_cons_zero, ↓len_tup2, if_true, if_false, Bool.false_eq_true, id, Option.map_some, Bool.not_true, Bool.not_false, Bool.and_true, Bool.true_and, Bool.and_false, Bool.false_and, Bool.or_false, Bool.false_or, Bool.or_true, Bool.true_or, beq_self_eq_true, Option.isSome_some, Option.isSome_none, d__law_is_letters, decide_eq_true h1, decide_eq_true h2]
        rw [lc_filter (enc := chD) (p := fun c => !(decide (97 ≤ c) && decide (c ≤ 122))) (g := fun c => .str [c])]
        · have e2 : (List.map (fun c => D.str [c]) (s.filter fun c => !(decide (97 ≤ c) && decide (c ≤ 122)))) = ((s.filter fun c => !(decide (97 ≤ c) && decide (c ≤ 122))).map fun c => [c]).map D.str := by rw [List.map_map]; rfl
          rw [e2]
          simp (disch := (first | assumption | omega | exact rcv_str _ _ | with_unfolding_all rfl | (simp only [List.length_map]; unfold big; omega))) only [exL, List.set_cons_succ, List.set_cons_zero, ↓len_tup2, if_true, if_false, Bool.false_eq_true, id, Option.map_some, Bool.not_true, Bool.not_false, Bool.and_true, Bool.true_and, Bool.and_false, Bool.false_and, Bool.or_false, Bool.false_or, Bool.or_true, Bool.true_or, beq_self_eq_true, Option.isSome_some, Option.isSome_none, eq_strs_nil]
          rfl
        · intro c _
          simp (disch := (first | assumption | omega | exact rcv_str _ _ | with_unfolding_all rfl | (simp only [List.length_map]; unfold big; omega))) only [exL, List.set_cons_succ, List.set_cons_zero, ↓len_tup2, if_true, if_false, Bool.false_eq_true, id, Option.map_some, Bool.not_true, Bool.not_false, Bool.and_true, Bool.true_and, Bool.and_false, Bool.false_and, Bool.or_false, Bool.false_or, Bool.or_true, Bool.true_or, beq_self_eq_true, Option.isSome_some, Option.isSome_none, chD, sign_le], fun hb => ⟨by omega, h2, fun c hc => ?_⟩⟩
      rw [List.isEmpty_iff, List.map_eq_nil_iff, List.filter_eq_nil_iff] at hb
      have := hb c hc
      simp only [Bool.not_eq_true, Bool.not_eq_false', Bool.and_eq_true, decide_eq_true_eq] at this
      exact small_range this.1 this.2
    · exact ⟨false, by simp (disch := (first | assumption | omega | exact rcv_str _ _ | with_unfolding_all rfl | (simp only [List.length_map]; unfold big; omega))) only [exL, List.set_cons_succ, List.set_cons_zero, ↓len_tup2, if_true, if_false, Bool.false_eq_true, id, Option.map_some, Bool.not_true, Bool.not_false, Bool.and_true, Bool.true_and, Bool.and_false, Bool.false_and, Bool.or_false, Bool.false_or, Bool.or_true, Bool.true_or, beq_self_eq_true, Option.isSome_some, Option.isSome_none, d__law_is_letters, decide_eq_true h1, decide_eq_false h2], fun q => by cases q⟩
  · exact ⟨false, by simp (disch := (first | assumption | omega | exact rcv_str _ _ | with_unfolding_all rfl | (simp only [List.length_map]; unfold big; omega))) only [exL, List.set_cons_succ, List.set_cons_zero, ↓len_tup2, if_true, if_false, Bool.false_eq_true, id, Option.map_some, Bool.not_true, Bool.not_false, Bool.and_true, Bool.true_and, Bool.and_false, Bool.false_and, Bool.or_false, Bool.false_or, Bool.or_true, Bool.true_or, beq_self_eq_true, Option.isSome_some, Option.isSome_none, d__law_is_letters, decide_eq_false h1], fun q => by cases q⟩
theorem filter_vow (m : St) : (m.filter fun c => decide (c ∈ ([65, 69, 73, 79, 85] : St))) = m.filter isV := rfl
theorem law_is_word_ok (n : Nat) {t : Tab} (h : Good t) (w : St × Int) : ∃ b : Bool, run G (n+3) 31 [encT t, encW w] = ok (.bl b) ∧ (b = true → IsWord t w) := by
  have e : run G (n+3) 31 [encT t, encW w] = (exSs (run G (n+2)) d__law_is_word.body [some (encT t), some (encW w), none, none]).res := rfl
  rw [e]
  obtain ⟨b, hb1, hb2⟩ := law_is_letters_ok (n+1) w.1 10
  cases b with
  | false => exact ⟨false, by simp (disch := (first | assumption | omega | exact rcv_str _ _ | with_unfolding_all rfl | (simp only [List.length_map]; unfold big; omega))) only [exL, List.set_cons_succ, List.set_cons_zero, ↓len_tup2, if_true, if_false, Bool.false_eq_true, id, Option.map_some, Bool.not_true, Bool.not_false, Bool.and_true, Bool.true_and, Bool.and_false, Bool.false_and, Bool.or_false, Bool.false_or, Bool.or_true, Bool.true_or, beq_self_eq_true, Option.isSome_some, Option.isSome_none, d__law_is_word, encW, hb1], fun q => by cases q⟩
  | true =>
    obtain ⟨l1, l2, l3⟩ := hb2 rfl
    have hso := law_sounds_ok n h w.1 (by omega)
    cases hs : snd t w.1 with
    | none => exact ⟨false, by simp (disch := (first | assumption | omega | exact rcv_str _ _ | with_unfolding_all rfl | (simp only [List.length_map]; unfold big; omega))) only [exL, List.set_cons_succ, List.set_cons_zero, ↓len_tup2, if_true, if_false, Bool.false_eq_true, id, Option.map_some, Bool.not_true, Bool.not_false, Bool.and_true, Bool.true_and, Bool.and_false, Bool.false_and, Bool.or_false, Bool.false_or, Bool.or_true, Bool.true_or, beq_self_eq_true, Option.isSome_some, Option.isSome_none, d__law_is_word, encW, hb1, hso, hs, optS], fun q => by cases q⟩
    | some m =>
      refine ⟨decide (1 ≤ w.2) && decide (w.2 ≤ if ((m.filter isV).length : Int) < 3 then ((m.filter isV).length : Int) else 3), ?_, fun q => ?_⟩
      · have hmin : ∀ j : Int, b2D .min (.int 3) (.int j) = ok (.int (if j < 3 then j else 3)) := fun j => rfl
        simp (disch := (first | assumption | omega | exact rcv_str _ _ | with_unfolding_all rfl | (simp only [List.length_map]; unfold big; omega))) only [exL, List.set_cons_succ, List.set_cons_zero, ↓len_tup2, if_true, if_false, Bool.false_eq_true, id, Option.map_some, Bool.not_true, Bool.not_false, Bool.and_true, Bool.true_and, Bool.and_false, Bool.false_and, Bool.or_false, Bool.false_or, Bool.or_true, Bool.true_or, beq_self_eq_true, Option.isSome_some, Option.isSome_none, d__law_is_word, encW, hb1, hso, hs, optS]
        rw [lc_filter (enc := chD) (p := isV) (g := chD)]
        · simp (disch := (first | assumption | omega | exact rcv_str _ _ | with_unfolding_all rfl | (simp only [List.length_map]; unfold big; omega))) only [exL, List.set_cons_succ, List.set_cons_zero, ↓len_tup2, if_true, if_false, Bool.false_eq_true, id, Option.map_some, Bool.not_true, Bool.not_false, Bool.and_true, Bool.true_and, Bool.and_false, Bool.false_and, Bool.or_false, Bool.false_or, Bool.or_true, Bool.true_or, beq_self_eq_true, Option.isSome_some, Option.isSome_none, List.length_map, hmin]
        · intro c _
          simp (disch := (first | assumption | omega | exact rcv_str _ _ | with_unfolding_all rfl | (simp only [List.length_map]; unfold big; omega))) only [exL, List.set_cons_succ, List.set_cons_zero, ↓len_tup2, if_true, if_false, Bool.false_eq_true, id, Option.map_some, Bool.not_true, Bool.not_false, Bool.and_true, Bool.true_and, Bool.and_false, Bool.false_and, Bool.or_false, Bool.false_or, Bool.or_true, Bool.true_or, beq_self_eq_true, Option.isSome_some, Option.isSome_none, chD]
          rfl
      · rw [Bool.and_eq_true, decide_eq_true_eq, decide_eq_true_eq] at q
        have q2 := q.2
        refine ⟨l1, by omega, l3, q.1, ?_, m, hs, ?_⟩
        · split at q2 <;> omega
        · rw [vowN_len]
          split at q2 <;> omega

def lt1 : List St := [[], [115], [115, 116], [98], [103], [108], [116, 116], [110], [110, 103, 97]]
def lt2 : List St := [[97], [101], [111], [101, 97], [111, 111], [111, 110, 101], [97, 101]]
def lt3 : List St := [[], [110], [110, 103], [115, 116], [108, 108], [116], [108]]
def lt4 : List St := [[], [], [], [], [97], [101, 110], [111, 115, 116]]
theorem lt1_len : ∀ s ∈ lt1, s.length ≤ 3 := by decide
theorem lt2_len : ∀ s ∈ lt2, s.length ≤ 3 := by decide
theorem lt3_len : ∀ s ∈ lt3, s.length ≤ 2 := by decide
theorem lt4_len : ∀ s ∈ lt4, s.length ≤ 3 := by decide
theorem pick_at {l : List St} {i : Int} (h0 : 0 ≤ i) (h1 : i < l.length) : ∃ s ∈ l, ixD (.lst (l.map D.str)) (.int i) = ok (.str s) :=
  ⟨l.getD i.toNat [], getD_mem (by omega), ix_map [] h0 h1⟩
structure IsBook (t : Tab) (b : List (St × Int)) : Prop where
  srt : (b.map (·.1)).Pairwise (· < ·)
  wd : ∀ w ∈ b, IsWord t w
def int7 : List Int := [1, 1, 1, 1, 2, 2, 3]
structure BOK (t : Tab) (d : List (St × (St × Int))) : Prop where
  nd : (d.map (·.1)).Nodup
  ok : ∀ r ∈ d, r.2.1 = r.1 ∧ IsWord t r.2
def IsLine (t : Tab) (l : List (St × Int)) : Prop := 1 ≤ l.length ∧ l.length ≤ 6 ∧ ∀ w ∈ l, IsWord t w
theorem is_line_of_ok (n : Nat) {t : Tab} (hg : Good t) {l : List (St × Int)} (hl : IsLine t l) : run G (n+4) 10 [encT t, .tup (l.map encW)] = ok (.bl true) := by
  have e : run G (n+4) 10 [encT t, .tup (l.map encW)] = (exSs (run G (n+3)) d_is_line_of.body [some (encT t), some (.tup (l.map encW)), none]).res := rfl
  have i1 : decide ((1 : Int) ≤ l.length) = true := decide_eq_true (by have := hl.1; omega)
  have i2 : decide ((l.length : Int) ≤ 6) = true := decide_eq_true (by have := hl.2.1; omega)
  have ha : (List.all l fun x => true) = true := by simp
  rw [e]
  simp (disch := (first | assumption | omega | exact rcv_str _ _ | with_unfolding_all rfl | (simp only [List.length_map]; unfold big; omega))) only [exL, List.set_cons_succ, List.set_cons_zero, ↓len_tup2, if_true, if_false, Bool.false_eq_true, id, Option.map_some, Bool.not_true, Bool.not_false, Bool.and_true, Bool.true_and, Bool.and_false, Bool.false_and, Bool.or_false, Bool.false_or, Bool.or_true, Bool.true_or, beq_self_eq_true, Option.isSome_some, Option.isSome_none, d_is_line_of, List.length_map, i1, i2]
  rw [lc_map (enc := encW) (g := fun _ => .bl true)]
  · simp (disch := (first | assumption | omega | exact rcv_str _ _ | with_unfolding_all rfl | (simp only [List.length_map]; unfold big; omega))) only [exL, List.set_cons_succ, List.set_cons_zero, ↓len_tup2, if_true, if_false, Bool.false_eq_true, id, Option.map_some, Bool.not_true, Bool.not_false, Bool.and_true, Bool.true_and, Bool.and_false, Bool.false_and, Bool.or_false, Bool.false_or, Bool.or_true, Bool.true_or, beq_self_eq_true, Option.isSome_some, Option.isSome_none, ha]
  · intro w hw
    simp (disch := (first | assumption | omega | exact rcv_str _ _ | with_unfolding_all rfl | (simp only [List.length_map]; unfold big; omega))) only [exL, List.set_cons_succ, List.set_cons_zero, ↓len_tup2, if_true, if_false, Bool.false_eq_true, id, Option.map_some, Bool.not_true, Bool.not_false, Bool.and_true, Bool.true_and, Bool.and_false, Bool.false_and, Bool.or_false, Bool.false_or, Bool.or_true, Bool.true_or, beq_self_eq_true, Option.isSome_some, Option.isSome_none, is_word_of_ok n hg (hl.2.2 w hw)]
theorem is_line_ok (n : Nat) {t : Tab} (hg : Good t) {l : List (St × Int)} (hl : IsLine t l) : run G (n+5) 11 [encT t, .tup (l.map encW)] = ok (.bl true) := by
  have e : run G (n+5) 11 [encT t, .tup (l.map encW)] = (exSs (run G (n+4)) d_is_line.body [some (encT t), some (.tup (l.map encW))]).res := rfl
  rw [e]
  simp (disch := (first | assumption | omega | exact rcv_str _ _ | with_unfolding_all rfl | (simp only [List.length_map]; unfold big; omega))) only [exL, List.set_cons_succ, List.set_cons_zero, ↓len_tup2, if_true, if_false, Bool.false_eq_true, id, Option.map_some, Bool.not_true, Bool.not_false, Bool.and_true, Bool.true_and, Bool.and_false, Bool.false_and, Bool.or_false, Bool.false_or, Bool.or_true, Bool.true_or, beq_self_eq_true, Option.isSome_some, Option.isSome_none, d_is_line, look_table_ok n hg, is_line_of_ok n hg hl]
theorem look_line_ok (n : Nat) {t : Tab} (hg : Good t) {l : List (St × Int)} (hl : IsLine t l) : run G (n+6) 12 [encT t, .tup (l.map encW)] = ok .non := by
  have e : run G (n+6) 12 [encT t, .tup (l.map encW)] = (exSs (run G (n+5)) d_look_line.body [some (encT t), some (.tup (l.map encW))]).res := rfl
  rw [e]
  simp (disch := (first | assumption | omega | exact rcv_str _ _ | with_unfolding_all rfl | (simp only [List.length_map]; unfold big; omega))) only [exL, List.set_cons_succ, List.set_cons_zero, ↓len_tup2, if_true, if_false, Bool.false_eq_true, id, Option.map_some, Bool.not_true, Bool.not_false, Bool.and_true, Bool.true_and, Bool.and_false, Bool.false_and, Bool.or_false, Bool.false_or, Bool.or_true, Bool.true_or, beq_self_eq_true, Option.isSome_some, Option.isSome_none, d_look_line, is_line_ok n hg hl]
def metS : St := [47, 45, 63]
def IsMetre (m : St) : Prop := 1 ≤ m.length ∧ m.length ≤ 16 ∧ ∀ c ∈ m, c ∈ metS
theorem is_metre_ok (n : Nat) {m : St} (hm : IsMetre m) : run G (n+1) 13 [.str m] = ok (.bl true) := by
  have e : run G (n+1) 13 [.str m] = (exSs (run G n) d_is_metre.body [some (.str m), none]).res := rfl
  have i1 : decide ((1 : Int) ≤ m.length) = true := decide_eq_true (by have := hm.1; omega)
  have i2 : decide ((m.length : Int) ≤ 16) = true := decide_eq_true (by have := hm.2.1; omega)
  have ha : (m.all fun c => decide (c ∈ metS)) = true := by rw [List.all_eq_true]; exact fun c hc => decide_eq_true (hm.2.2 c hc)
  rw [e]
  simp (disch := (first | assumption | omega | exact rcv_str _ _ | with_unfolding_all rfl | (simp only [List.length_map]; unfold big; omega))) only [exL, List.set_cons_succ, List.set_cons_zero, ↓len_tup2, if_true, if_false, Bool.false_eq_true, id, Option.map_some, Bool.not_true, Bool.not_false, Bool.and_true, Bool.true_and, Bool.and_false, Bool.false_and, Bool.or_false, Bool.false_or, Bool.or_true, Bool.true_or, beq_self_eq_true, Option.isSome_some, Option.isSome_none, d_is_metre, i1, i2]
  rw [lc_map (enc := chD) (g := fun c => .bl (decide (c ∈ metS)))]
  · simp (disch := (first | assumption | omega | exact rcv_str _ _ | with_unfolding_all rfl | (simp only [List.length_map]; unfold big; omega))) only [exL, List.set_cons_succ, List.set_cons_zero, ↓len_tup2, if_true, if_false, Bool.false_eq_true, id, Option.map_some, Bool.not_true, Bool.not_false, Bool.and_true, Bool.true_and, Bool.and_false, Bool.false_and, Bool.or_false, Bool.false_or, Bool.or_true, Bool.true_or, beq_self_eq_true, Option.isSome_some, Option.isSome_none, ha]
  · intro c _; rfl
theorem op_muls {a : St} {k : Int} (h1 : a.length * k.toNat ≤ big) (h2 : k < 2 ^ 62) (h3 : -(2 ^ 62) ≤ k) : opD .mul (.str a) (.int k) = ok (.str (rep k.toNat a)) := if_pos ⟨h1, h2, h3⟩
theorem rep_one (c : Nat) (k : Nat) : rep k [c] = List.replicate k c := by
  induction k with
  | zero => rfl
  | succ k ih =>
    have : rep (k + 1) [c] = c :: rep k [c] := by simp [rep, List.replicate_succ]
    rw [this, ih]
    rfl
/-- a word's signs -/
def wb (t : Tab) (w : St × Int) : St := rep (((vowN 0 (sndW t w.1)).length : Int) - w.2).toNat [45] ++ [47] ++ rep (w.2 - 1).toNat [45]
theorem wb_len {t : Tab} (hg : Good t) {w : St × Int} (hw : IsWord t w) : 1 ≤ (wb t w).length ∧ (wb t w).length ≤ 30 := by
  have h1 := snd_len hg hw
  have h2 : (vowN 0 (sndW t w.1)).length ≤ 20 := by rw [vowN_len]; exact Nat.le_trans (List.length_filter_le _ _) h1
  have h3 := hw.s3
  have h4 := hw.s1
  unfold wb
  rw [rep_one, rep_one]
  simp only [List.length_append, List.length_replicate, List.length_cons, List.length_nil]
  omega
theorem wb_sign {t : Tab} {w : St × Int} : ∀ c ∈ wb t w, c = 45 ∨ c = 47 := fun c hc => by
  unfold wb at hc
  rw [rep_one, rep_one] at hc
  rcases List.mem_append.mp hc with q | q
  · rcases List.mem_append.mp q with q | q
    · exact .inl (List.eq_of_mem_replicate q)
    · exact .inr (List.mem_singleton.mp q)
  · exact .inl (List.eq_of_mem_replicate q)
theorem wb_eval {t : Tab} (hg : Good t) {w : St × Int} (hw : IsWord t w) : k2 (opD .add) (k2 (opD .add) (opD .mul (.str [45]) (.int (((vowN 0 (sndW t w.1)).length : Int) - w.2))) (ok (.str [47]))) (opD .mul (.str [45]) (.int (w.2 - 1))) = ok (.str (wb t w)) := by
  have h1 := snd_len hg hw
  have h2 : (vowN 0 (sndW t w.1)).length ≤ 20 := by rw [vowN_len]; exact Nat.le_trans (List.length_filter_le _ _) h1
  have h3 := hw.s3
  have h4 := hw.s1
  have hb := (wb_len hg hw).2
  rw [op_muls (by simp only [List.length_cons, List.length_nil]; unfold big; omega) (by omega) (by omega), op_muls (by simp only [List.length_cons, List.length_nil]; unfold big; omega) (by omega) (by omega), k2_ok, op_adds (by
    rw [rep_one]; simp only [List.length_replicate, List.length_cons, List.length_nil]; unfold big; omega), k2_ok, op_adds (by
    rw [rep_one, rep_one]; simp only [List.length_append, List.length_replicate, List.length_cons, List.length_nil]; unfold big; omega)]
  rfl
theorem word_beats_ok (n : Nat) {t : Tab} (hg : Good t) {w : St × Int} (hw : IsWord t w) : run G (n+3) 14 [encT t, encW w] = ok (.str (wb t w)) := by
  have e : run G (n+3) 14 [encT t, encW w] = (exSs (run G (n+2)) d_word_beats.body [some (encT t), some (encW w), none]).res := rfl
  obtain ⟨hm, hs⟩ := hw.sw
  rw [e]
  simp (disch := (first | assumption | omega | exact rcv_str _ _ | with_unfolding_all rfl | (simp only [List.length_map]; unfold big; omega))) only [exL, List.set_cons_succ, List.set_cons_zero, ↓len_tup2, if_true, if_false, Bool.false_eq_true, id, Option.map_some, Bool.not_true, Bool.not_false, Bool.and_true, Bool.true_and, Bool.and_false, Bool.false_and, Bool.or_false, Bool.false_or, Bool.or_true, Bool.true_or, beq_self_eq_true, Option.isSome_some, Option.isSome_none, d_word_beats, encW, sounds_of_ok n hg w.1 (by have := hw.l2; omega), hm, optS, vowels_in_ok, List.length_map, vows_len, wb_eval hg hw]
/-- a line's signs -/
def lb (t : Tab) (l : List (St × Int)) : St := (l.map (wb t)).flatten
theorem join_wb {t : Tab} (hg : Good t) {l : List (St × Int)} (hl : IsLine t l) : m1D .join (.str []) (.lst (l.map fun w => .str (wb t w))) = ok (.str (lb t l)) := by
  have hs : ∀ l : List (St × Int), (∀ w ∈ l, IsWord t w) → (l.map fun w => (wb t w).length).sum ≤ 30 * l.length := fun l h => by
    induction l with
    | nil => simp
    | cons w r ih =>
      have h1 := ih fun x hx => h x (List.mem_cons_of_mem _ hx)
      have h2 := (wb_len hg (h w List.mem_cons_self)).2
      simp only [List.map_cons, List.sum_cons, List.length_cons]
      omega
  have h1 := hs l hl.2.2
  have h2 := hl.2.1
  rw [m_join [] l (wb t) (by simp only [List.length_nil]; unfold big; omega), join_nil]
  rfl
theorem lc_beats (n : Nat) {t : Tab} (hg : Good t) {l : List (St × Int)} (hl : IsLine t l) (j : Nat) (ρ : Env) (h0 : ∀ x, Env.get (ρ.set j (some x)) 0 = ok (encT t)) (hj : ∀ x, Env.get (ρ.set j (some x)) j = ok x) : lcGo (lcF (run G (n+3)) (Tg.nm j) Eo.no (.call 14 (.cons (.v 0) (.cons (.v j) .nil))) ρ) (l.map encW) = ok (l.map fun w => .str (wb t w)) := by
  apply lc_map
  intro w hw
  simp (disch := (first | assumption | omega | exact rcv_str _ _ | with_unfolding_all rfl | (simp only [List.length_map]; unfold big; omega))) only [exL, List.set_cons_succ, List.set_cons_zero, ↓len_tup2, if_true, if_false, Bool.false_eq_true, id, Option.map_some, Bool.not_true, Bool.not_false, Bool.and_true, Bool.true_and, Bool.and_false, Bool.false_and, Bool.or_false, Bool.false_or, Bool.or_true, Bool.true_or, beq_self_eq_true, Option.isSome_some, Option.isSome_none, h0, hj, word_beats_ok n hg (hl.2.2 w hw)]
theorem beats_ok (n : Nat) {t : Tab} (hg : Good t) {l : List (St × Int)} (hl : IsLine t l) : run G (n+7) 15 [encT t, .tup (l.map encW)] = ok (.str (lb t l)) := by
  have e : run G (n+7) 15 [encT t, .tup (l.map encW)] = (exSs (run G (n+6)) d_beats.body [some (encT t), some (.tup (l.map encW)), none]).res := rfl
  have hlc : lcGo (lcF (run G (n+6)) (Tg.nm 2) Eo.no (.call 14 (.cons (.v 0) (.cons (.v 2) .nil))) [some (encT t), some (.tup (l.map encW)), none]) (l.map encW) = ok (l.map fun w => .str (wb t w)) := lc_beats (n+3) hg hl 2 _ (fun _ => rfl) (fun _ => rfl)
  rw [e]
  simp (disch := (first | assumption | omega | exact rcv_str _ _ | with_unfolding_all rfl | (simp only [List.length_map]; unfold big; omega))) only [exL, List.set_cons_succ, List.set_cons_zero, ↓len_tup2, if_true, if_false, Bool.false_eq_true, id, Option.map_some, Bool.not_true, Bool.not_false, Bool.and_true, Bool.true_and, Bool.and_false, Bool.false_and, Bool.or_false, Bool.false_or, Bool.or_true, Bool.true_or, beq_self_eq_true, Option.isSome_some, Option.isSome_none, d_beats, look_line_ok n hg hl, hlc, join_wb hg hl]
def suitB (a b : St) : Bool := (a.length == b.length) && (a.zip b).all fun p => decide ([p.1] ∈ ([[p.2], [63]] : List St)) || ([p.2] == ([63] : St))
theorem zipL_ch : ∀ a b : St, zipL (a.map chD) (b.map chD) = (a.zip b).map fun p => .tup [.str [p.1], .str [p.2]]
  | [], b => by simp [zipL]
  | x :: r, [] => by simp [zipL]
  | x :: r, y :: q => by simp only [List.map_cons, zipL, List.zip_cons_cons, zipL_ch r q]; rfl
theorem len_beq (a b : St) : ((a.length : Int) == (b.length : Int)) = (a.length == b.length) := by
  rw [Bool.eq_iff_iff]
  simp only [beq_iff_eq]
  omega
theorem suits_ok (n : Nat) (a b : St) : run G (n+1) 16 [.str a, .str b] = ok (.bl (suitB a b)) := by
  have e : run G (n+1) 16 [.str a, .str b] = (exSs (run G n) d_suits.body [some (.str a), some (.str b), none, none]).res := rfl
  rw [e]
  simp (disch := (first | assumption | omega | exact rcv_str _ _ | with_unfolding_all rfl | (simp only [List.length_map]; unfold big; omega))) only [exL, List.set_cons_succ, List.set_cons_zero, ↓len_tup2, if_true, if_false, Bool.false_eq_true, id, Option.map_some, Bool.not_true, Bool.not_false, Bool.and_true, Bool.true_and, Bool.and_false, Bool.false_and, Bool.or_false, Bool.false_or, Bool.or_true, Bool.true_or, beq_self_eq_true, Option.isSome_some, Option.isSome_none, d_suits, zipL_ch, len_beq]
  rw [lc_map (enc := fun p : Nat × Nat => .tup [.str [p.1], .str [p.2]]) (g := fun p => .bl (decide ([p.1] ∈ ([[p.2], [63]] : List St)) || ([p.2] == ([63] : St))))]
  · simp (disch := (first | assumption | omega | exact rcv_str _ _ | with_unfolding_all rfl | (simp only [List.length_map]; unfold big; omega))) only [exL, List.set_cons_succ, List.set_cons_zero, ↓len_tup2, if_true, if_false, Bool.false_eq_true, id, Option.map_some, Bool.not_true, Bool.not_false, Bool.and_true, Bool.true_and, Bool.and_false, Bool.false_and, Bool.or_false, Bool.false_or, Bool.or_true, Bool.true_or, beq_self_eq_true, Option.isSome_some, Option.isSome_none]
    rfl
  · intro p _
    have := any_strT [p.1] [[p.2], [63]]
    simp only [List.map_cons, List.map_nil] at this
    simp (disch := (first | assumption | omega | exact rcv_str _ _ | with_unfolding_all rfl | (simp only [List.length_map]; unfold big; omega))) only [exL, List.set_cons_succ, List.set_cons_zero, ↓len_tup2, if_true, if_false, Bool.false_eq_true, id, Option.map_some, Bool.not_true, Bool.not_false, Bool.and_true, Bool.true_and, Bool.and_false, Bool.false_and, Bool.or_false, Bool.false_or, Bool.or_true, Bool.true_or, beq_self_eq_true, Option.isSome_some, Option.isSome_none, this]
theorem lb_sign {t : Tab} {l : List (St × Int)} : ∀ c ∈ lb t l, c = 45 ∨ c = 47 := fun c hc => by
  unfold lb at hc
  obtain ⟨s, hs, hcs⟩ := List.mem_flatten.mp hc
  obtain ⟨w, _, rfl⟩ := List.mem_map.mp hs
  exact wb_sign c hcs

theorem is_scheme_loop (n : Nat) (S0 : D) (s : St) (o : Option D) (k : Nat) (hk : k ≤ 8) (h : isSch k s = true) : ∃ o1 o2, forGo (bdy (run G n) (.nm 2) b_is_scheme_1) (s.map chD) [some S0, some (.int k), o] = .next [some S0, o1, o2] := by
  induction s generalizing k o with
  | nil => exact ⟨_, _, rfl⟩
  | cons c r ih =>
    rw [isSch] at h
    split at h
    · rename_i hc
      have hc8 : c ∈ grt8 := List.mem_of_mem_take hc
      have hcut : cut grt8 none (some ((k : Int) + 1)) = grt8.take (k + 1) := by
        have e : (k : Int) + 1 = ((k + 1 : Nat) : Int) := by omega
        rw [e, cut_hi]
      have hf : findAt c grt8 0 = some (grt8.idxOf c) := by
        have : ∀ c ∈ grt8, findAt c grt8 0 = some (grt8.idxOf c) := by decide
        exact this c hc8
      have hmi : m1D .index (.str grt8) (.str [c]) = ok (.int (grt8.idxOf c : Nat)) := by
        simp only [m1D, sign, ofO_some, bind_ok, hf, Option.map_some]
      have hmx : b2D .max (.int (k : Int)) (.int ((grt8.idxOf c : Nat) + 1 : Int)) = ok (.int (max k (grt8.idxOf c + 1) : Nat)) := by
        simp only [b2D]
        congr 2
        split <;> omega
      have hi8 : grt8.idxOf c < 8 := List.idxOf_lt_length_of_mem hc8
      obtain ⟨o1, o2, hr⟩ := ih (some (.str [c])) (max k (grt8.idxOf c + 1)) (by omega) h
      refine ⟨o1, o2, ?_⟩
      unfold grt8 at hcut hmi hc
      have hin : decide (c ∈ List.take (k + 1) [65, 66, 67, 68, 69, 70, 71, 72]) = true := decide_eq_true hc
      have hstep : bdy (run G n) (.nm 2) b_is_scheme_1 (chD c) [some S0, some (.int k), o] = .next [some S0, some (.int (max k (grt8.idxOf c + 1) : Nat)), some (.str [c])] := by
        unfold grt8 at hmx ⊢
        simp (disch := (first | assumption | omega | exact rcv_str _ _ | with_unfolding_all rfl | (simp only [List.length_map]; unfold big; omega))) only [exL, List.set_cons_succ, List.set_cons_zero, ↓len_tup2, if_true, if_false, Bool.false_eq_true, id, Option.map_some, Bool.not_true, Bool.not_false, Bool.and_true, Bool.true_and, Bool.and_false, Bool.false_and, Bool.or_false, Bool.false_or, Bool.or_true, Bool.true_or, beq_self_eq_true, Option.isSome_some, Option.isSome_none, b_is_scheme_1, chD, hcut, hin, hmi, hmx]
      rw [List.map_cons, forGo, hstep]
      exact hr
    · cases h
theorem is_scheme_ok (n : Nat) (s : St) (h1 : 1 ≤ s.length) (h8 : s.length ≤ 8) (h : isSch 0 s = true) : run G (n+1) 17 [.str s] = ok (.bl true) := by
  have e : run G (n+1) 17 [.str s] = (exSs (run G n) d_is_scheme.body [some (.str s), none, none]).res := rfl
  have i1 : decide ((1 : Int) ≤ s.length) = true := decide_eq_true (by omega)
  have i2 : decide ((s.length : Int) ≤ 8) = true := decide_eq_true (by omega)
  obtain ⟨o1, o2, hl⟩ := is_scheme_loop n (.str s) s none 0 (by omega) h
  rw [e]
  simp (disch := (first | assumption | omega | exact rcv_str _ _ | with_unfolding_all rfl | (simp only [List.length_map]; unfold big; omega))) only [exL, List.set_cons_succ, List.set_cons_zero, ↓len_tup2, if_true, if_false, Bool.false_eq_true, id, Option.map_some, Bool.not_true, Bool.not_false, Bool.and_true, Bool.true_and, Bool.and_false, Bool.false_and, Bool.or_false, Bool.false_or, Bool.or_true, Bool.true_or, beq_self_eq_true, Option.isSome_some, Option.isSome_none, d_is_scheme, i1, i2]
  have hl' : forGo (bdy (run G n) (Tg.nm 2) b_is_scheme_1) (List.map chD s) [some (D.str s), some (D.int 0), none] = .next [some (.str s), o1, o2] := hl
  simp (disch := (first | assumption | omega | exact rcv_str _ _ | with_unfolding_all rfl | (simp only [List.length_map]; unfold big; omega))) only [exL, List.set_cons_succ, List.set_cons_zero, ↓len_tup2, if_true, if_false, Bool.false_eq_true, id, Option.map_some, Bool.not_true, Bool.not_false, Bool.and_true, Bool.true_and, Bool.and_false, Bool.false_and, Bool.or_false, Bool.false_or, Bool.or_true, Bool.true_or, beq_self_eq_true, Option.isSome_some, Option.isSome_none, hl']
theorem law_signs_ok (n : Nat) {t : Tab} (hg : Good t) {w : St × Int} (hw : IsWord t w) : run G (n+3) 33 [encT t, encW w] = ok (.str (wb t w)) := by
  have e : run G (n+3) 33 [encT t, encW w] = (exSs (run G (n+2)) d__law_signs.body [some (encT t), some (encW w), none, none]).res := rfl
  obtain ⟨hm, hs⟩ := hw.sw
  rw [e]
  simp (disch := (first | assumption | omega | exact rcv_str _ _ | with_unfolding_all rfl | (simp only [List.length_map]; unfold big; omega))) only [exL, List.set_cons_succ, List.set_cons_zero, ↓len_tup2, if_true, if_false, Bool.false_eq_true, id, Option.map_some, Bool.not_true, Bool.not_false, Bool.and_true, Bool.true_and, Bool.and_false, Bool.false_and, Bool.or_false, Bool.false_or, Bool.or_true, Bool.true_or, beq_self_eq_true, Option.isSome_some, Option.isSome_none, d__law_signs, encW, law_sounds_ok n hg w.1 (by have := hw.l2; omega), hm, optS]
  rw [lc_filter (enc := chD) (p := isV) (g := chD)]
  · have e2 : ((List.filter isV (sndW t w.1)).length) = (vowN 0 (sndW t w.1)).length := (vowN_len _ _).symm
    simp (disch := (first | assumption | omega | exact rcv_str _ _ | with_unfolding_all rfl | (simp only [List.length_map]; unfold big; omega))) only [exL, List.set_cons_succ, List.set_cons_zero, ↓len_tup2, if_true, if_false, Bool.false_eq_true, id, Option.map_some, Bool.not_true, Bool.not_false, Bool.and_true, Bool.true_and, Bool.and_false, Bool.false_and, Bool.or_false, Bool.false_or, Bool.or_true, Bool.true_or, beq_self_eq_true, Option.isSome_some, Option.isSome_none, List.length_map, e2, wb_eval hg hw]
  · intro c _
    simp (disch := (first | assumption | omega | exact rcv_str _ _ | with_unfolding_all rfl | (simp only [List.length_map]; unfold big; omega))) only [exL, List.set_cons_succ, List.set_cons_zero, ↓len_tup2, if_true, if_false, Bool.false_eq_true, id, Option.map_some, Bool.not_true, Bool.not_false, Bool.and_true, Bool.true_and, Bool.and_false, Bool.false_and, Bool.or_false, Bool.false_or, Bool.or_true, Bool.true_or, beq_self_eq_true, Option.isSome_some, Option.isSome_none, chD]
    rfl
def suitL (a b : St) : Bool := (a.length == b.length) && (List.range a.length).all fun k => !((!([b.getD k 0] == ([63] : St))) && !([b.getD k 0] == [a.getD k 0]))
theorem law_suits_ok (n : Nat) (a b : St) (hb : (a.length : Int) ≤ 4000000) : run G (n+1) 34 [.str a, .str b] = ok (.bl (suitL a b)) := by
  have e : run G (n+1) 34 [.str a, .str b] = (exSs (run G n) d__law_suits.body [some (.str a), some (.str b), none]).res := rfl
  rw [e]
  unfold suitL
  cases hl : (a.length == b.length) with
  | false => simp (disch := (first | assumption | omega | exact rcv_str _ _ | with_unfolding_all rfl | (simp only [List.length_map]; unfold big; omega))) only [exL, List.set_cons_succ, List.set_cons_zero, ↓len_tup2, if_true, if_false, Bool.false_eq_true, id, Option.map_some, Bool.not_true, Bool.not_false, Bool.and_true, Bool.true_and, Bool.and_false, Bool.false_and, Bool.or_false, Bool.false_or, Bool.or_true, Bool.true_or, beq_self_eq_true, Option.isSome_some, Option.isSome_none, d__law_suits, len_beq, hl]
  | true =>
    have hl' : a.length = b.length := by simpa using hl
    have hr : rangeL 0 ((a.length : Int)).toNat = (List.range a.length).map fun i : Nat => D.int (0 + (i : Int)) := by rw [Int.toNat_natCast]; rfl
    simp (disch := (first | assumption | omega | exact rcv_str _ _ | with_unfolding_all rfl | (simp only [List.length_map]; unfold big; omega))) only [exL, List.set_cons_succ, List.set_cons_zero, ↓len_tup2, if_true, if_false, Bool.false_eq_true, id, Option.map_some, Bool.not_true, Bool.not_false, Bool.and_true, Bool.true_and, Bool.and_false, Bool.false_and, Bool.or_false, Bool.false_or, Bool.or_true, Bool.true_or, beq_self_eq_true, Option.isSome_some, Option.isSome_none, d__law_suits, len_beq, hl, hr]
    rw [lc_filter (p := fun i : Nat => (!([b.getD i 0] == ([63] : St))) && !([b.getD i 0] == [a.getD i 0])) (g := fun i : Nat => D.int (0 + (i : Int)))]
    · have e3 : ((List.range a.length).filter fun i : Nat => (!([b.getD i 0] == ([63] : St))) && !([b.getD i 0] == [a.getD i 0])).map (fun i : Nat => D.int (0 + (i : Int))) = (((List.range a.length).filter fun i : Nat => (!([b.getD i 0] == ([63] : St))) && !([b.getD i 0] == [a.getD i 0])).map fun i : Nat => (0 + (i : Int))).map D.int := by rw [List.map_map]; rfl
      simp (disch := (first | assumption | omega | exact rcv_str _ _ | with_unfolding_all rfl | (simp only [List.length_map]; unfold big; omega))) only [exL, List.set_cons_succ, List.set_cons_zero, ↓len_tup2, if_true, if_false, Bool.false_eq_true, id, Option.map_some, Bool.not_true, Bool.not_false, Bool.and_true, Bool.true_and, Bool.and_false, Bool.false_and, Bool.or_false, Bool.false_or, Bool.or_true, Bool.true_or, beq_self_eq_true, Option.isSome_some, Option.isSome_none, e3, eq_ints_nil]
      congr 2
      rw [Bool.eq_iff_iff]
      simp only [List.isEmpty_iff, List.map_eq_nil_iff, List.filter_eq_nil_iff, List.all_eq_true, Bool.not_eq_true', Bool.not_eq_true]
    · intro i hi
      have hi' := List.mem_range.mp hi
      have x1 : ixD (.str a) (.int (0 + (i : Int))) = ok (.str [a.getD i 0]) := by rw [ix_sign (by omega) (by omega)]; congr 4; omega
      have x2 : ixD (.str b) (.int (0 + (i : Int))) = ok (.str [b.getD i 0]) := by rw [ix_sign (by omega) (by omega)]; congr 4; omega
      simp (disch := (first | assumption | omega | exact rcv_str _ _ | with_unfolding_all rfl | (simp only [List.length_map]; unfold big; omega))) only [exL, List.set_cons_succ, List.set_cons_zero, ↓len_tup2, if_true, if_false, Bool.false_eq_true, id, Option.map_some, Bool.not_true, Bool.not_false, Bool.and_true, Bool.true_and, Bool.and_false, Bool.false_and, Bool.or_false, Bool.false_or, Bool.or_true, Bool.true_or, beq_self_eq_true, Option.isSome_some, Option.isSome_none, x1, x2]
theorem suit_same {a b : St} (h : ∀ c ∈ a, c = 45 ∨ c = 47) : suitB a b = suitL a b := by
  unfold suitB suitL
  cases hl : (a.length == b.length) with
  | false => rfl
  | true =>
    have hl' : a.length = b.length := by simpa using hl
    rw [Bool.true_and, Bool.true_and, Bool.eq_iff_iff, List.all_eq_true, List.all_eq_true]
    have key : ∀ i, i < a.length → ((decide ([a.getD i 0] ∈ ([[b.getD i 0], [63]] : List St)) || ([b.getD i 0] == ([63] : St))) = true ↔ (!((!([b.getD i 0] == ([63] : St))) && !([b.getD i 0] == [a.getD i 0]))) = true) := fun i hi => by
      have hs := h _ (getD_mem (l := a) (z := 0) hi)
      have hn : ¬ a.getD i 0 = 63 := by omega
      simp only [List.mem_cons, List.cons.injEq, and_true, List.not_mem_nil, or_false, hn, Bool.or_eq_true, decide_eq_true_eq, beq_iff_eq, Bool.not_and, Bool.not_not]
      constructor
      · rintro (q | q)
        · exact .inr q.symm
        · exact .inl q
      · rintro (q | q)
        · exact .inr q
        · exact .inl q.symm
    have zg : ∀ i, i < a.length → (a.zip b)[i]? = some (a.getD i 0, b.getD i 0) := fun i hi => by
      rw [List.getElem?_zip_eq_some]
      simp only [List.getD_eq_getElem?_getD]
      rw [List.getElem?_eq_getElem hi, List.getElem?_eq_getElem (show i < b.length by omega)]
      exact ⟨rfl, rfl⟩
    constructor
    · intro q i hi
      have hi' := List.mem_range.mp hi
      exact (key i hi').mp (q _ (List.mem_of_getElem? (zg i hi')))
    · intro q p hp
      obtain ⟨i, hi⟩ := List.mem_iff_getElem?.mp hp
      have hlt : i < a.length := by
        have := (List.getElem?_eq_some_iff.mp hi).1
        rw [List.length_zip] at this
        omega
      rw [zg i hlt] at hi
      cases hi
      exact (key i hlt).mpr (q i (List.mem_range.mpr hlt))
theorem mem_cut {α : Type} {s : List α} {lo hi : Option Int} {c : α} (h : c ∈ cut s lo hi) : c ∈ s := by
  unfold cut at h
  exact List.mem_of_mem_drop (List.mem_of_mem_take h)
def rowsP (p : List (List Wd)) : List Wd := p.map fun l => l.getLastD ([], 0)
def encLnP (l : List Wd) : D := .tup (l.map encW)
def encPm (p : List (List Wd)) : D := .tup (p.map encLnP)
structure IsPoem (t : Tab) (p : List (List Wd)) : Prop where
  l1 : 1 ≤ p.length
  l8 : p.length ≤ 8
  ln : ∀ l ∈ p, IsLine t l
structure IsForm (s : St) (ms : List St) : Prop where
  l1 : 1 ≤ s.length
  l8 : s.length ≤ 8
  sc : isSch 0 s = true
  ml : ms.length = s.length
  ok : ∀ m ∈ ms, IsMetre m
def encFm (s : St) (ms : List St) : D := .tup [.str s, .tup (ms.map D.str)]
theorem look_poem_ok (n : Nat) {t : Tab} (hg : Good t) {p : List (List Wd)} (hp : IsPoem t p) : run G (n+5) 18 [encT t, encPm p] = ok .non := by
  have e : run G (n+5) 18 [encT t, encPm p] = (exSs (run G (n+4)) d_look_poem.body [some (encT t), some (.tup (p.map encLnP)), none]).res := rfl
  have i1 : decide ((1 : Int) ≤ p.length) = true := decide_eq_true (by have := hp.l1; omega)
  have i2 : decide ((p.length : Int) ≤ 8) = true := decide_eq_true (by have := hp.l8; omega)
  rw [e]
  simp (disch := (first | assumption | omega | exact rcv_str _ _ | with_unfolding_all rfl | (simp only [List.length_map]; unfold big; omega))) only [exL, List.set_cons_succ, List.set_cons_zero, ↓len_tup2, if_true, if_false, Bool.false_eq_true, id, Option.map_some, Bool.not_true, Bool.not_false, Bool.and_true, Bool.true_and, Bool.and_false, Bool.false_and, Bool.or_false, Bool.false_or, Bool.or_true, Bool.true_or, beq_self_eq_true, Option.isSome_some, Option.isSome_none, d_look_poem, look_table_ok n hg, List.length_map, i1, i2]
  rw [lc_map (enc := encLnP) (g := fun _ => .bl true)]
  · have ha : b1D .all (.lst (p.map fun _ => .bl true)) = ok (.bl true) := by rw [all_lst p (fun _ => true)]; simp
    simp (disch := (first | assumption | omega | exact rcv_str _ _ | with_unfolding_all rfl | (simp only [List.length_map]; unfold big; omega))) only [exL, List.set_cons_succ, List.set_cons_zero, ↓len_tup2, if_true, if_false, Bool.false_eq_true, id, Option.map_some, Bool.not_true, Bool.not_false, Bool.and_true, Bool.true_and, Bool.and_false, Bool.false_and, Bool.or_false, Bool.false_or, Bool.or_true, Bool.true_or, beq_self_eq_true, Option.isSome_some, Option.isSome_none, ha]
  · intro l hl
    have q : run G (n+4) 10 [encT t, encLnP l] = ok (.bl true) := is_line_of_ok n hg (hp.ln l hl)
    simp (disch := (first | assumption | omega | exact rcv_str _ _ | with_unfolding_all rfl | (simp only [List.length_map]; unfold big; omega))) only [exL, List.set_cons_succ, List.set_cons_zero, ↓len_tup2, if_true, if_false, Bool.false_eq_true, id, Option.map_some, Bool.not_true, Bool.not_false, Bool.and_true, Bool.true_and, Bool.and_false, Bool.false_and, Bool.or_false, Bool.false_or, Bool.or_true, Bool.true_or, beq_self_eq_true, Option.isSome_some, Option.isSome_none, q]
theorem is_form_ok (n : Nat) {s : St} {ms : List St} (h : IsForm s ms) : run G (n+2) 19 [encFm s ms] = ok (.bl true) := by
  have e : run G (n+2) 19 [encFm s ms] = (exSs (run G (n+1)) d_is_form.body [some (encFm s ms), none]).res := rfl
  have i2 : ((ms.length : Int) == (s.length : Int)) = true := by rw [h.ml]; simp
  rw [e]
  simp (disch := (first | assumption | omega | exact rcv_str _ _ | with_unfolding_all rfl | (simp only [List.length_map]; unfold big; omega))) only [exL, List.set_cons_succ, List.set_cons_zero, ↓len_tup2, if_true, if_false, Bool.false_eq_true, id, Option.map_some, Bool.not_true, Bool.not_false, Bool.and_true, Bool.true_and, Bool.and_false, Bool.false_and, Bool.or_false, Bool.false_or, Bool.or_true, Bool.true_or, beq_self_eq_true, Option.isSome_some, Option.isSome_none, d_is_form, encFm, is_scheme_ok n s h.l1 h.l8 h.sc, List.length_map, i2]
  rw [lc_map (enc := D.str) (g := fun _ => .bl true)]
  · have ha : b1D .all (.lst (ms.map fun _ => .bl true)) = ok (.bl true) := by rw [all_lst ms (fun _ => true)]; simp
    simp (disch := (first | assumption | omega | exact rcv_str _ _ | with_unfolding_all rfl | (simp only [List.length_map]; unfold big; omega))) only [exL, List.set_cons_succ, List.set_cons_zero, ↓len_tup2, if_true, if_false, Bool.false_eq_true, id, Option.map_some, Bool.not_true, Bool.not_false, Bool.and_true, Bool.true_and, Bool.and_false, Bool.false_and, Bool.or_false, Bool.false_or, Bool.or_true, Bool.true_or, beq_self_eq_true, Option.isSome_some, Option.isSome_none, ha]
  · intro m hm
    simp (disch := (first | assumption | omega | exact rcv_str _ _ | with_unfolding_all rfl | (simp only [List.length_map]; unfold big; omega))) only [exL, List.set_cons_succ, List.set_cons_zero, ↓len_tup2, if_true, if_false, Bool.false_eq_true, id, Option.map_some, Bool.not_true, Bool.not_false, Bool.and_true, Bool.true_and, Bool.and_false, Bool.false_and, Bool.or_false, Bool.false_or, Bool.or_true, Bool.true_or, beq_self_eq_true, Option.isSome_some, Option.isSome_none, is_metre_ok n (h.ok m hm)]
theorem look_form_ok (n : Nat) {s : St} {ms : List St} (h : IsForm s ms) : run G (n+3) 20 [encFm s ms] = ok .non := by
  have e : run G (n+3) 20 [encFm s ms] = (exSs (run G (n+2)) d_look_form.body [some (encFm s ms)]).res := rfl
  rw [e]
  simp (disch := (first | assumption | omega | exact rcv_str _ _ | with_unfolding_all rfl | (simp only [List.length_map]; unfold big; omega))) only [exL, List.set_cons_succ, List.set_cons_zero, ↓len_tup2, if_true, if_false, Bool.false_eq_true, id, Option.map_some, Bool.not_true, Bool.not_false, Bool.and_true, Bool.true_and, Bool.and_false, Bool.false_and, Bool.or_false, Bool.false_or, Bool.or_true, Bool.true_or, beq_self_eq_true, Option.isSome_some, Option.isSome_none, d_look_form, is_form_ok n h]
theorem ix_lastP {l : List Wd} (h : 1 ≤ l.length) : ixD (encLnP l) (.int (-1)) = ok (encW (l.getLastD ([], 0))) := by
  have hne : l ≠ [] := fun z => by rw [z] at h; simp at h
  have e : ixD (encLnP l) (.int (-1)) = ofO (atI (l.map encW) (-1)) := rfl
  have e2 : ixN (l.map encW).length (-1) = some (l.length - 1) := by
    rw [List.length_map]
    unfold ixN
    rw [if_neg (by omega), if_pos (by omega)]
    congr 1
    omega
  rw [e, atI, e2, Option.bind_some, List.getElem?_map, ← List.getLast?_eq_getElem?, List.getLastD_eq_getLast?, List.getLast?_eq_some_getLast hne]
  rfl
theorem neg1 (cf : Nat → List D → Res D) (ρ : Env) : ev cf (.neg (.c (.int 1))) ρ = ok (.int (-1)) := by
  simp only [ev]
  rfl
theorem end_words_ok (n : Nat) {t : Tab} (hg : Good t) {p : List (List Wd)} (hp : IsPoem t p) : run G (n+6) 21 [encT t, encPm p] = ok (.lst ((rowsP p).map encW)) := by
  have e : run G (n+6) 21 [encT t, encPm p] = (exSs (run G (n+5)) d_end_words.body [some (encT t), some (encPm p), none]).res := rfl
  have hkb : itemsOf (encPm p) = some (p.map encLnP) := rfl
  rw [e]
  simp (disch := (first | assumption | omega | exact rcv_str _ _ | with_unfolding_all rfl | (simp only [List.length_map]; unfold big; omega))) only [exL, List.set_cons_succ, List.set_cons_zero, ↓len_tup2, if_true, if_false, Bool.false_eq_true, id, Option.map_some, Bool.not_true, Bool.not_false, Bool.and_true, Bool.true_and, Bool.and_false, Bool.false_and, Bool.or_false, Bool.false_or, Bool.or_true, Bool.true_or, beq_self_eq_true, Option.isSome_some, Option.isSome_none, d_end_words, look_poem_ok n hg hp, hkb]
  rw [lc_map (enc := encLnP) (g := fun l => encW (l.getLastD ([], 0)))]
  · simp (disch := (first | assumption | omega | exact rcv_str _ _ | with_unfolding_all rfl | (simp only [List.length_map]; unfold big; omega))) only [exL, List.set_cons_succ, List.set_cons_zero, ↓len_tup2, if_true, if_false, Bool.false_eq_true, id, Option.map_some, Bool.not_true, Bool.not_false, Bool.and_true, Bool.true_and, Bool.and_false, Bool.false_and, Bool.or_false, Bool.false_or, Bool.or_true, Bool.true_or, beq_self_eq_true, Option.isSome_some, Option.isSome_none]
    unfold rowsP
    rw [List.map_map]
    rfl
  · intro l hl
    simp (disch := (first | assumption | omega | exact rcv_str _ _ | with_unfolding_all rfl | (simp only [List.length_map]; unfold big; omega))) only [exL, List.set_cons_succ, List.set_cons_zero, ↓len_tup2, if_true, if_false, Bool.false_eq_true, id, Option.map_some, Bool.not_true, Bool.not_false, Bool.and_true, Bool.true_and, Bool.and_false, Bool.false_and, Bool.or_false, Bool.false_or, Bool.or_true, Bool.true_or, beq_self_eq_true, Option.isSome_some, Option.isSome_none, neg1, ix_lastP (hp.ln l hl).1]

def encSW (p : Nat × Wd) : D := .tup [.str [p.1], encW p.2]
theorem zipL_SW : ∀ (s : St) (rows : List Wd), zipL (s.map chD) (rows.map encW) = (s.zip rows).map encSW
  | [], rows => by simp [zipL]
  | c :: s, [] => by simp [zipL]
  | c :: s, w :: rows => by simp only [List.map_cons, zipL, List.zip_cons_cons, zipL_SW s rows]; rfl
def sgn (s : St) (k : Nat) : Nat := s.getD k 0
def wdAt (rows : List Wd) (k : Nat) : Wd := rows.getD k ([], 0)
def ahd (s : St) (rows : List Wd) (k : Nat) : List (Nat × Wd) := (s.zip rows).take k
def agnB (s : St) (rows : List Wd) (k : Nat) : Bool := (ahd s rows k).any fun p => p.2.1 == (wdAt rows k).1
def rhyB (t : Tab) (s : St) (rows : List Wd) (k : Nat) : Bool := (ahd s rows k).any fun p => ([p.1] == [sgn s k]) && !(tailW t p.2 == tailW t (wdAt rows k))
def claB (t : Tab) (s : St) (rows : List Wd) (k : Nat) : Bool := (ahd s rows k).any fun p => !([p.1] == [sgn s k]) && (tailW t p.2 == tailW t (wdAt rows k))
def againS : St := [97, 103, 97, 105, 110]
def rhymeS : St := [114, 104, 121, 109, 101]
def clashS : St := [99, 108, 97, 115, 104]
def endF (t : Tab) (s : St) (rows : List Wd) (k : Nat) : Option St := if agnB s rows k = true then some againS else if rhyB t s rows k = true then some rhymeS else if claB t s rows k = true then some clashS else none
theorem end_fault_ok (n : Nat) {t : Tab} (hg : Good t) {rows : List Wd} (hr : ∀ w ∈ rows, IsWord t w) (s : St) (k : Nat) (hk : k < rows.length) (hs : k < s.length) : run G (n+4) 22 [encT t, .str s, .lst (rows.map encW), .int (k : Int)] = ok (optS (endF t s rows k)) := by
  have e : run G (n+4) 22 [encT t, .str s, .lst (rows.map encW), .int (k : Int)] = (exSs (run G (n+3)) d_end_fault.body [some (encT t), some (.str s), some (.lst (rows.map encW)), some (.int (k : Int)), none, none, none, none, none]).res := rfl
  have hw : IsWord t (wdAt rows k) := hr _ (getD_mem hk)
  have hix : ixD (.lst (rows.map encW)) (.int (k : Int)) = ok (encW (wdAt rows k)) := by
    rw [ix_map (f := encW) ([], 0) (by omega) (by omega), Int.toNat_natCast]
    rfl
  have hsx : ixD (.str s) (.int (k : Int)) = ok (.str [sgn s k]) := by
    rw [ix_sign (by omega) (by omega), Int.toNat_natCast]
    rfl
  have hcut : cut ((s.zip rows).map encSW) none (some (k : Int)) = (ahd s rows k).map encSW := by
    rw [cut_hi, ← List.map_take]
    rfl
  have hmem : ∀ p ∈ ahd s rows k, IsWord t p.2 := fun p hp => hr _ (List.of_mem_zip (List.mem_of_mem_take hp)).2
  have ix0 : ∀ w : Wd, ixD (encW w) (.int 0) = ok (.str w.1) := fun w => rfl
  have ht := tail_of_ok n hg hw
  have l1 : ∀ (ρ : Env), Env.get ρ 4 = ok (encW (wdAt rows k)) → ρ.length = 9 → True := fun _ _ _ => trivial
  rw [e]
  simp (disch := (first | assumption | omega | exact rcv_str _ _ | with_unfolding_all rfl | (simp only [List.length_map]; unfold big; omega))) only [exL, List.set_cons_succ, List.set_cons_zero, ↓len_tup2, if_true, if_false, Bool.false_eq_true, id, Option.map_some, Bool.not_true, Bool.not_false, Bool.and_true, Bool.true_and, Bool.and_false, Bool.false_and, Bool.or_false, Bool.false_or, Bool.or_true, Bool.true_or, beq_self_eq_true, Option.isSome_some, Option.isSome_none, d_end_fault, hix, zipL_SW, hcut]
  rw [lc_map (enc := encSW) (g := fun p => .bl (p.2.1 == (wdAt rows k).1))]
  · have h1 : b1D .any (.lst ((ahd s rows k).map fun p => .bl (p.2.1 == (wdAt rows k).1))) = ok (.bl (agnB s rows k)) := any_lst _ _
    unfold endF
    cases ha : agnB s rows k with
    | true =>
      rw [ha] at h1
      simp (disch := (first | assumption | omega | exact rcv_str _ _ | with_unfolding_all rfl | (simp only [List.length_map]; unfold big; omega))) only [exL, List.set_cons_succ, List.set_cons_zero, ↓len_tup2, if_true, if_false, Bool.false_eq_true, id, Option.map_some, Bool.not_true, Bool.not_false, Bool.and_true, Bool.true_and, Bool.and_false, Bool.false_and, Bool.or_false, Bool.false_or, Bool.or_true, Bool.true_or, beq_self_eq_true, Option.isSome_some, Option.isSome_none, h1]
      rfl
    | false =>
      rw [ha] at h1
      simp (disch := (first | assumption | omega | exact rcv_str _ _ | with_unfolding_all rfl | (simp only [List.length_map]; unfold big; omega))) only [exL, List.set_cons_succ, List.set_cons_zero, ↓len_tup2, if_true, if_false, Bool.false_eq_true, id, Option.map_some, Bool.not_true, Bool.not_false, Bool.and_true, Bool.true_and, Bool.and_false, Bool.false_and, Bool.or_false, Bool.false_or, Bool.or_true, Bool.true_or, beq_self_eq_true, Option.isSome_some, Option.isSome_none, h1, ht]
      rw [lc_map (enc := encSW) (g := fun p => .bl (([p.1] == [sgn s k]) && !(tailW t p.2 == tailW t (wdAt rows k))))]
      · have h2 : b1D .any (.lst ((ahd s rows k).map fun p => .bl (([p.1] == [sgn s k]) && !(tailW t p.2 == tailW t (wdAt rows k))))) = ok (.bl (rhyB t s rows k)) := any_lst _ _
        cases hb : rhyB t s rows k with
        | true =>
          rw [hb] at h2
          simp (disch := (first | assumption | omega | exact rcv_str _ _ | with_unfolding_all rfl | (simp only [List.length_map]; unfold big; omega))) only [exL, List.set_cons_succ, List.set_cons_zero, ↓len_tup2, if_true, if_false, Bool.false_eq_true, id, Option.map_some, Bool.not_true, Bool.not_false, Bool.and_true, Bool.true_and, Bool.and_false, Bool.false_and, Bool.or_false, Bool.false_or, Bool.or_true, Bool.true_or, beq_self_eq_true, Option.isSome_some, Option.isSome_none, h2]
          rfl
        | false =>
          rw [hb] at h2
          simp (disch := (first | assumption | omega | exact rcv_str _ _ | with_unfolding_all rfl | (simp only [List.length_map]; unfold big; omega))) only [exL, List.set_cons_succ, List.set_cons_zero, ↓len_tup2, if_true, if_false, Bool.false_eq_true, id, Option.map_some, Bool.not_true, Bool.not_false, Bool.and_true, Bool.true_and, Bool.and_false, Bool.false_and, Bool.or_false, Bool.false_or, Bool.or_true, Bool.true_or, beq_self_eq_true, Option.isSome_some, Option.isSome_none, h2]
          rw [lc_map (enc := encSW) (g := fun p => .bl (!([p.1] == [sgn s k]) && (tailW t p.2 == tailW t (wdAt rows k))))]
          · have h3 : b1D .any (.lst ((ahd s rows k).map fun p => .bl (!([p.1] == [sgn s k]) && (tailW t p.2 == tailW t (wdAt rows k))))) = ok (.bl (claB t s rows k)) := any_lst _ _
            cases hc : claB t s rows k with
            | true =>
              rw [hc] at h3
              simp (disch := (first | assumption | omega | exact rcv_str _ _ | with_unfolding_all rfl | (simp only [List.length_map]; unfold big; omega))) only [exL, List.set_cons_succ, List.set_cons_zero, ↓len_tup2, if_true, if_false, Bool.false_eq_true, id, Option.map_some, Bool.not_true, Bool.not_false, Bool.and_true, Bool.true_and, Bool.and_false, Bool.false_and, Bool.or_false, Bool.false_or, Bool.or_true, Bool.true_or, beq_self_eq_true, Option.isSome_some, Option.isSome_none, h3]
              rfl
            | false =>
              rw [hc] at h3
              simp (disch := (first | assumption | omega | exact rcv_str _ _ | with_unfolding_all rfl | (simp only [List.length_map]; unfold big; omega))) only [exL, List.set_cons_succ, List.set_cons_zero, ↓len_tup2, if_true, if_false, Bool.false_eq_true, id, Option.map_some, Bool.not_true, Bool.not_false, Bool.and_true, Bool.true_and, Bool.and_false, Bool.false_and, Bool.or_false, Bool.false_or, Bool.or_true, Bool.true_or, beq_self_eq_true, Option.isSome_some, Option.isSome_none, h3]
              rfl
          · intro p hp
            have hx : encSW p = .tup [.str [p.1], encW p.2] := rfl
            rw [hx]
            cases hq : ([p.1] == [sgn s k]) <;> simp (disch := (first | assumption | omega | exact rcv_str _ _ | with_unfolding_all rfl | (simp only [List.length_map]; unfold big; omega))) only [exL, List.set_cons_succ, List.set_cons_zero, ↓len_tup2, if_true, if_false, Bool.false_eq_true, id, Option.map_some, Bool.not_true, Bool.not_false, Bool.and_true, Bool.true_and, Bool.and_false, Bool.false_and, Bool.or_false, Bool.false_or, Bool.or_true, Bool.true_or, beq_self_eq_true, Option.isSome_some, Option.isSome_none, hsx, tail_of_ok n hg (hmem p hp), hq]
      · intro p hp
        have hx : encSW p = .tup [.str [p.1], encW p.2] := rfl
        rw [hx]
        cases hq : ([p.1] == [sgn s k]) <;> simp (disch := (first | assumption | omega | exact rcv_str _ _ | with_unfolding_all rfl | (simp only [List.length_map]; unfold big; omega))) only [exL, List.set_cons_succ, List.set_cons_zero, ↓len_tup2, if_true, if_false, Bool.false_eq_true, id, Option.map_some, Bool.not_true, Bool.not_false, Bool.and_true, Bool.true_and, Bool.and_false, Bool.false_and, Bool.or_false, Bool.false_or, Bool.or_true, Bool.true_or, beq_self_eq_true, Option.isSome_some, Option.isSome_none, hsx, tail_of_ok n hg (hmem p hp), hq]
  · intro p hp
    have hx : encSW p = .tup [.str [p.1], encW p.2] := rfl
    rw [hx]
    simp (disch := (first | assumption | omega | exact rcv_str _ _ | with_unfolding_all rfl | (simp only [List.length_map]; unfold big; omega))) only [exL, List.set_cons_succ, List.set_cons_zero, ↓len_tup2, if_true, if_false, Bool.false_eq_true, id, Option.map_some, Bool.not_true, Bool.not_false, Bool.and_true, Bool.true_and, Bool.and_false, Bool.false_and, Bool.or_false, Bool.false_or, Bool.or_true, Bool.true_or, beq_self_eq_true, Option.isSome_some, Option.isSome_none, ix0]

def encFt (x : Nat × St) : D := .tup [.int (x.1 : Int), .str x.2]
theorem plain_Ft : ∀ L : List (Nat × St), plains (L.map encFt) = true
  | [] => by simp [plains]
  | x :: r => by simp [plains, plain, encFt, plain_Ft r]
theorem deeps_Ft : ∀ L : List (Nat × St), deeps (L.map encFt) ≤ 1
  | [] => by simp [deeps]
  | x :: r => by have := deeps_Ft r; simp [deeps, deep, encFt]; omega
theorem eqv_Ft (a b : Nat × St) : eqv (encFt a) (encFt b) = decide (a = b) := by
  simp only [encFt, eqv, eqvs, Bool.and_true]
  obtain ⟨a1, a2⟩ := a
  obtain ⟨b1, b2⟩ := b
  simp only [Prod.mk.injEq]
  rw [Bool.eq_iff_iff]
  simp
  intro _
  exact ⟨fun h => by omega, fun h => by omega⟩
theorem eqvs_Ft : ∀ l m : List (Nat × St), eqvs (l.map encFt) (m.map encFt) = decide (l = m)
  | [], [] => by simp [eqvs]
  | [], _ :: _ => by simp [eqvs]
  | _ :: _, [] => by simp [eqvs]
  | x :: r, y :: q => by
    simp only [List.map_cons, eqvs, eqv_Ft, eqvs_Ft r q, List.cons.injEq]
    rw [Bool.eq_iff_iff]
    simp
theorem eq_Fts (l m : List (Nat × St)) : eqD (.lst (l.map encFt)) (.lst (m.map encFt)) = ok (decide (l = m)) := by
  have h : eqD (.lst (l.map encFt)) (.lst (m.map encFt)) = if plain (.lst (l.map encFt)) && plain (.lst (m.map encFt)) && decide (min (deep (.lst (l.map encFt))) (deep (.lst (m.map encFt))) ≤ 60) then ok (eqv (.lst (l.map encFt)) (.lst (m.map encFt))) else bad := rfl
  have d1 : deep (.lst (l.map encFt)) ≤ 2 := by have := deeps_Ft l; simp only [deep]; omega
  rw [h, if_pos, eqv, eqvs_Ft]
  rw [decide_eq_true (by omega)]
  simp [plain, plain_Ft]
theorem eq_Ft_nil (l : List (Nat × St)) : eqD (.lst (l.map encFt)) (.lst []) = ok l.isEmpty := by
  have := eq_Fts l []
  rw [List.map_nil] at this
  rw [this]
  cases l <;> rfl
def metreS : St := [109, 101, 116, 114, 101]
def endL (o : Option St) (k : Nat) : List (Nat × St) := match o with
  | none => []
  | some w => [(k, w)]
def fltK (t : Tab) (s : St) (ms : List St) (p : List (List Wd)) (k : Nat) : List (Nat × St) := (if suitB (lb t (p.getD k [])) (ms.getD k []) = true then [] else [(k, metreS)]) ++ endL (endF t s (rowsP p) k) k
def flt (t : Tab) (s : St) (ms : List St) (p : List (List Wd)) : List (Nat × St) := (List.range p.length).flatMap (fltK t s ms p)
theorem rowsP_len (p : List (List Wd)) : (rowsP p).length = p.length := by simp [rowsP]
theorem rowsP_word {t : Tab} {p : List (List Wd)} (hp : IsPoem t p) : ∀ w ∈ rowsP p, IsWord t w := fun w hw => by
  obtain ⟨l, hl, rfl⟩ := List.mem_map.mp hw
  have h1 := (hp.ln l hl).1
  refine (hp.ln l hl).2.2 _ ?_
  have hne : l ≠ [] := fun z => by rw [z] at h1; simp at h1
  rw [List.getLastD_eq_getLast?, List.getLast?_eq_some_getLast hne]
  exact List.getLast_mem hne
theorem faults_1 (n : Nat) {t : Tab} (hg : Good t) {p : List (List Wd)} (hp : IsPoem t p) {s : St} {ms : List St} (hf : IsForm s ms) (hl : p.length = s.length) (e1 e2 : Option D) : ∀ (l2 l1 : List (List Wd)) (L : List (Nat × St)) (o7 o8 o9 : Option D), p = l1 ++ l2 → L.length + 2 * l2.length < 1000 →
    ∃ o7' o8' o9', forGo (bdy (run G (n+7)) (.tp [7, 8]) b_faults_1) (enumL l1.length (l2.map encLnP)) [some (encT t), e1, e2, some (.lst ((rowsP p).map encW)), some (.lst (L.map encFt)), some (.str s), some (.tup (ms.map D.str)), o7, o8, o9]
      = .next [some (encT t), e1, e2, some (.lst ((rowsP p).map encW)), some (.lst ((L ++ (List.range' l1.length l2.length).flatMap (fltK t s ms p)).map encFt)), some (.str s), some (.tup (ms.map D.str)), o7', o8', o9']
  | [], l1, L, o7, o8, o9, _, _ => ⟨o7, o8, o9, by simp [enumL, forGo]⟩
  | l :: l2, l1, L, o7, o8, o9, hx, hL => by
    rw [List.length_cons] at hL
    have hlen : l1.length < p.length := by rw [hx]; simp
    have hln : IsLine t l := hp.ln l (by rw [hx]; simp)
    have hpl : p.getD l1.length [] = l := by rw [hx]; simp
    have hbt := beats_ok n hg hln
    have hsu := suits_ok (n+6) (lb t l) (ms.getD l1.length [])
    have hmx : ixD (.tup (ms.map D.str)) (.int (l1.length : Int)) = ok (.str (ms.getD l1.length [])) := by
      rw [ix_mapT (f := D.str) [] (by omega) (by have := hf.ml; omega), Int.toNat_natCast]
    have hef := end_fault_ok (n+3) hg (rowsP_word hp) s l1.length (by rw [rowsP_len]; exact hlen) (by omega)
    have hb1 : ∀ (S0 : Ss) (ρ : Env), bdy (run G (n+7)) (.tp [7, 8]) S0 (.tup [.int (l1.length : Int), encLnP l]) ρ = exSs (run G (n+7)) S0 ((ρ.set 7 (some (.int (l1.length : Int)))).set 8 (some (.tup (l.map encW)))) := fun S0 ρ => rfl
    have hbl : (L.map encFt).length < big := by rw [List.length_map]; unfold big; omega
    have hbl2 : ((L ++ [(l1.length, ([109, 101, 116, 114, 101] : St))]).map encFt).length < big := by rw [List.length_map, List.length_append, List.length_singleton]; unfold big; omega
    have ee : ∀ w : St, (.tup [.int (l1.length : Int), .str w] : D) = encFt (l1.length, w) := fun w => rfl
    have am : ∀ (L : List (Nat × St)) x, L.map encFt ++ [encFt x] = (L ++ [x]).map encFt := fun L x => by rw [List.map_append]; rfl
    have hk : fltK t s ms p l1.length = (if suitB (lb t l) (ms.getD l1.length []) = true then [] else [(l1.length, metreS)]) ++ endL (endF t s (rowsP p) l1.length) l1.length := by
      unfold fltK
      rw [hpl]
    obtain ⟨a7, a8, a9, q⟩ := faults_1 n hg hp hf hl e1 e2 l2 (l1 ++ [l]) (L ++ fltK t s ms p l1.length) (some (.int (l1.length : Int))) (some (.tup (l.map encW))) (some (optS (endF t s (rowsP p) l1.length))) (by rw [hx]; simp) (by
      have h1 : (fltK t s ms p l1.length).length ≤ 2 := by
        rw [hk, List.length_append]
        have : (endL (endF t s (rowsP p) l1.length) l1.length).length ≤ 1 := by cases endF t s (rowsP p) l1.length <;> simp [endL]
        split <;> simp <;> omega
      rw [List.length_append]
      omega)
    refine ⟨a7, a8, a9, ?_⟩
    have hb2 : bdy (run G (n+7)) (.tp [7, 8]) b_faults_1 (.tup [.int (l1.length : Int), encLnP l]) [some (encT t), e1, e2, some (.lst ((rowsP p).map encW)), some (.lst (L.map encFt)), some (.str s), some (.tup (ms.map D.str)), o7, o8, o9] = .next [some (encT t), e1, e2, some (.lst ((rowsP p).map encW)), some (.lst ((L ++ fltK t s ms p l1.length).map encFt)), some (.str s), some (.tup (ms.map D.str)), some (.int (l1.length : Int)), some (.tup (l.map encW)), some (optS (endF t s (rowsP p) l1.length))] := by
      rw [hk]
      cases hs : suitB (lb t l) (ms.getD l1.length []) with
      | true =>
        rw [hs] at hsu
        cases hE : endF t s (rowsP p) l1.length with
        | none =>
          rw [hE] at hef
          simp (disch := (first | assumption | omega | exact rcv_str _ _ | with_unfolding_all rfl | (simp only [List.length_map]; unfold big; omega))) only [exL, List.set_cons_succ, List.set_cons_zero, ↓len_tup2, if_true, if_false, Bool.false_eq_true, id, Option.map_some, Bool.not_true, Bool.not_false, Bool.and_true, Bool.true_and, Bool.and_false, Bool.false_and, Bool.or_false, Bool.false_or, Bool.or_true, Bool.true_or, beq_self_eq_true, Option.isSome_some, Option.isSome_none, hb1, b_faults_1, hbt, hmx, hsu, hef, optS, endL, List.append_nil]
        | some w =>
          rw [hE] at hef
          simp (disch := (first | assumption | omega | exact rcv_str _ _ | with_unfolding_all rfl | (simp only [List.length_map]; unfold big; omega))) only [exL, List.set_cons_succ, List.set_cons_zero, ↓len_tup2, if_true, if_false, Bool.false_eq_true, id, Option.map_some, Bool.not_true, Bool.not_false, Bool.and_true, Bool.true_and, Bool.and_false, Bool.false_and, Bool.or_false, Bool.false_or, Bool.or_true, Bool.true_or, beq_self_eq_true, Option.isSome_some, Option.isSome_none, hb1, b_faults_1, hbt, hmx, hsu, hef, optS, ee, hbl, am, endL, List.nil_append]
      | false =>
        rw [hs] at hsu
        cases hE : endF t s (rowsP p) l1.length with
        | none =>
          rw [hE] at hef
          simp (disch := (first | assumption | omega | exact rcv_str _ _ | with_unfolding_all rfl | (simp only [List.length_map]; unfold big; omega))) only [exL, List.set_cons_succ, List.set_cons_zero, ↓len_tup2, if_true, if_false, Bool.false_eq_true, id, Option.map_some, Bool.not_true, Bool.not_false, Bool.and_true, Bool.true_and, Bool.and_false, Bool.false_and, Bool.or_false, Bool.false_or, Bool.or_true, Bool.true_or, beq_self_eq_true, Option.isSome_some, Option.isSome_none, hb1, b_faults_1, hbt, hmx, hsu, hef, optS, ee, hbl, am, endL, List.append_nil]
          rfl
        | some w =>
          rw [hE] at hef
          simp (disch := (first | assumption | omega | exact rcv_str _ _ | with_unfolding_all rfl | (simp only [List.length_map]; unfold big; omega))) only [exL, List.set_cons_succ, List.set_cons_zero, ↓len_tup2, if_true, if_false, Bool.false_eq_true, id, Option.map_some, Bool.not_true, Bool.not_false, Bool.and_true, Bool.true_and, Bool.and_false, Bool.false_and, Bool.or_false, Bool.false_or, Bool.or_true, Bool.true_or, beq_self_eq_true, Option.isSome_some, Option.isSome_none, hb1, b_faults_1, hbt, hmx, hsu, hef, optS, ee, hbl, hbl2, am, endL]
          rw [← List.append_assoc]
          rfl
    rw [List.map_cons, enumL, forGo, hb2]
    rw [List.length_append, List.length_singleton] at q
    have er : (List.range' l1.length (l :: l2).length) = l1.length :: List.range' (l1.length + 1) l2.length := by rw [List.length_cons, List.range'_succ]
    rw [er, List.flatMap_cons, ← List.append_assoc]
    exact q
theorem faults_ok (n : Nat) {t : Tab} (hg : Good t) {p : List (List Wd)} (hp : IsPoem t p) {s : St} {ms : List St} (hf : IsForm s ms) (hl : p.length = s.length) : run G (n+8) 23 [encT t, encPm p, encFm s ms] = ok (.lst ((flt t s ms p).map encFt)) := by
  have e : run G (n+8) 23 [encT t, encPm p, encFm s ms] = (exSs (run G (n+7)) d_faults.body [some (encT t), some (.tup (p.map encLnP)), some (.tup [.str s, .tup (ms.map D.str)]), none, none, none, none, none, none, none]).res := rfl
  have q1 : run G (n+7) 18 [encT t, .tup (p.map encLnP)] = ok .non := look_poem_ok (n+2) hg hp
  have q2 : run G (n+7) 20 [.tup [.str s, .tup (ms.map D.str)]] = ok .non := look_form_ok (n+4) hf
  obtain ⟨o7, o8, o9, q⟩ := faults_1 n hg hp hf hl (some (.tup (p.map encLnP))) (some (.tup [.str s, .tup (ms.map D.str)])) p [] [] none none none rfl (by have := hp.l8; simp only [List.length_nil]; omega)
  have i2 : ((p.length : Int) == (s.length : Int)) = true := by rw [hl]; simp
  have q' : ∀ o8, ∃ o7' o8' o9', forGo (bdy (run G (n+7)) (.tp [7, 8]) b_faults_1) (enumL 0 (p.map encLnP)) [some (encT t), some (.tup (p.map encLnP)), some (.tup [.str s, .tup (ms.map D.str)]), some (.lst ((rowsP p).map encW)), some (.lst []), some (.str s), some (.tup (ms.map D.str)), none, o8, none] = .next [some (encT t), some (.tup (p.map encLnP)), some (.tup [.str s, .tup (ms.map D.str)]), some (.lst ((rowsP p).map encW)), some (.lst ((flt t s ms p).map encFt)), some (.str s), some (.tup (ms.map D.str)), o7', o8', o9'] := fun o8 => by
    obtain ⟨o7, o8, o9, q⟩ := faults_1 n hg hp hf hl (some (.tup (p.map encLnP))) (some (.tup [.str s, .tup (ms.map D.str)])) p [] [] none o8 none rfl (by have := hp.l8; simp only [List.length_nil]; omega)
    refine ⟨o7, o8, o9, ?_⟩
    rw [List.nil_append, show (([] : List (List Wd)).length) = 0 from rfl, ← List.range_eq_range'] at q
    exact q
  obtain ⟨a7, a8, a9, qq⟩ := q' none
  rw [e]
  simp (disch := (first | assumption | omega | exact rcv_str _ _ | with_unfolding_all rfl | (simp only [List.length_map]; unfold big; omega))) only [exL, List.set_cons_succ, List.set_cons_zero, ↓len_tup2, if_true, if_false, Bool.false_eq_true, id, Option.map_some, Bool.not_true, Bool.not_false, Bool.and_true, Bool.true_and, Bool.and_false, Bool.false_and, Bool.or_false, Bool.false_or, Bool.or_true, Bool.true_or, beq_self_eq_true, Option.isSome_some, Option.isSome_none, d_faults, q1, q2, List.length_map, i2]
  rw [lc_map (enc := encLnP) (g := fun l => encW (l.getLastD ([], 0)))]
  · have er : p.map (fun l => encW (l.getLastD ([], 0))) = (rowsP p).map encW := by unfold rowsP; rw [List.map_map]; rfl
    rw [er]
    simp (disch := (first | assumption | omega | exact rcv_str _ _ | with_unfolding_all rfl | (simp only [List.length_map]; unfold big; omega))) only [exL, List.set_cons_succ, List.set_cons_zero, ↓len_tup2, if_true, if_false, Bool.false_eq_true, id, Option.map_some, Bool.not_true, Bool.not_false, Bool.and_true, Bool.true_and, Bool.and_false, Bool.false_and, Bool.or_false, Bool.false_or, Bool.or_true, Bool.true_or, beq_self_eq_true, Option.isSome_some, Option.isSome_none, qq]
  · intro l hl
    simp (disch := (first | assumption | omega | exact rcv_str _ _ | with_unfolding_all rfl | (simp only [List.length_map]; unfold big; omega))) only [exL, List.set_cons_succ, List.set_cons_zero, ↓len_tup2, if_true, if_false, Bool.false_eq_true, id, Option.map_some, Bool.not_true, Bool.not_false, Bool.and_true, Bool.true_and, Bool.and_false, Bool.false_and, Bool.or_false, Bool.false_or, Bool.or_true, Bool.true_or, beq_self_eq_true, Option.isSome_some, Option.isSome_none, neg1, ix_lastP (hp.ln l hl).1]
theorem fits_ok (n : Nat) {t : Tab} (hg : Good t) {p : List (List Wd)} (hp : IsPoem t p) {s : St} {ms : List St} (hf : IsForm s ms) (hl : p.length = s.length) : run G (n+9) 24 [encT t, encPm p, encFm s ms] = ok (.bl (flt t s ms p).isEmpty) := by
  have e : run G (n+9) 24 [encT t, encPm p, encFm s ms] = (exSs (run G (n+8)) d_fits.body [some (encT t), some (encPm p), some (encFm s ms)]).res := rfl
  rw [e]
  simp (disch := (first | assumption | omega | exact rcv_str _ _ | with_unfolding_all rfl | (simp only [List.length_map]; unfold big; omega))) only [exL, List.set_cons_succ, List.set_cons_zero, ↓len_tup2, if_true, if_false, Bool.false_eq_true, id, Option.map_some, Bool.not_true, Bool.not_false, Bool.and_true, Bool.true_and, Bool.and_false, Bool.false_and, Bool.or_false, Bool.false_or, Bool.or_true, Bool.true_or, beq_self_eq_true, Option.isSome_some, Option.isSome_none, d_fits, faults_ok n hg hp hf hl, eq_Ft_nil]

def rimes : List St := [[97], [101], [111], [97, 110], [101, 110]]
def onsets : List St := [[], [115], [98], [103], [108], [110], [116], [115, 97]]
structure ROK (t : Tab) (d : List (St × (St × Int))) : Prop where
  nd : (d.map (·.1)).Nodup
  ok : ∀ r ∈ d, r.2.1 = r.1 ∧ IsWord t r.2 ∧ r.1.length ≤ 4
theorem rich_loop (n : Nat) (ns : List Int) (a : Int) (ha : 0 ≤ a) {t : Tab} (hg : Good t) (M : D) (j : Nat) (hj : j ≤ 1000) : ∃ (d : List (St × (St × Int))) (o5 o6 o7 o8 : Option D), forGo (bdy (run G (n+3)) (.nm 5) b__law_rich_book_1) (rangeL 0 j) [some (.scr ns), some (.int a), some (encT t), some M, some (dicG encW []), none, none, none, none]
    = .next [some (.scr ns), some (.int a), some (encT t), some M, some (dicG encW d), o5, o6, o7, o8] ∧ ROK t d ∧ d.length ≤ j := by
  obtain ⟨ρ', q1, s, o5, o6, o7, o8, rfl, q2, q3⟩ := for_ofl (enc := fun i : Nat => D.int (0 + (i : Int))) (f := bdy (run G (n+3)) (.nm 5) b__law_rich_book_1) (l := List.range j)
    (R := fun l1 ρ => ∃ (d : List (St × (St × Int))) (o5 o6 o7 o8 : Option D), ρ = [some (.scr ns), some (.int a), some (encT t), some M, some (dicG encW d), o5, o6, o7, o8] ∧ ROK t d ∧ d.length ≤ l1.length)
    (ρ := [some (.scr ns), some (.int a), some (encT t), some M, some (dicG encW []), none, none, none, none]) (by
      rintro l1 i l2 ρ hx ⟨d, o5, o6, o7, o8, rfl, h1, h2⟩
      have hll : l1.length ≤ 1000 := by
        have := congrArg List.length hx
        rw [List.length_append, List.length_range] at this
        omega
      have m0 : 0 ≤ (pk ns a 5 + pk ns (a + 1 + (0 + (i : Int))) 2) % 5 := Int.emod_nonneg _ (by decide)
      have m1 : (pk ns a 5 + pk ns (a + 1 + (0 + (i : Int))) 2) % 5 < rimes.length := Int.emod_lt_of_pos _ (by decide)
      have hi1 : ixD (D.lst (rimes.map D.str)) (.int ((pk ns a 5 + pk ns (a + 1 + (0 + (i : Int))) 2) % 5)) = _ := ix_map [] m0 m1
      have hr2 : ∀ c ∈ rimes, c.length ≤ 2 := by decide +kernel
      have hrl := hr2 _ (getD_mem (l := rimes) (i := ((pk ns a 5 + pk ns (a + 1 + (0 + (i : Int))) 2) % 5).toNat) (z := []) (by omega))
      generalize rimes.getD ((pk ns a 5 + pk ns (a + 1 + (0 + (i : Int))) 2) % 5).toNat [] = R1 at hi1 hrl
      simp only [rimes, List.map_cons, List.map_nil] at hi1
      have p0 := pk_nn (ns := ns) (k := a + 20 + (0 + (i : Int))) (m := 8) (by decide)
      have p1 := pk_lt (ns := ns) (k := a + 20 + (0 + (i : Int))) (m := 8) (by decide)
      have hi2 : ixD (D.lst (onsets.map D.str)) (.int (pk ns (a + 20 + (0 + (i : Int))) 8)) = _ := ix_map [] p0 p1
      have ho2 : ∀ c ∈ onsets, c.length ≤ 2 := by decide +kernel
      have hol := ho2 _ (getD_mem (l := onsets) (i := (pk ns (a + 20 + (0 + (i : Int))) 8).toNat) (z := []) (by show _ < 8; omega))
      generalize onsets.getD (pk ns (a + 20 + (0 + (i : Int))) 8).toNat [] = O1 at hi2 hol
      simp only [onsets, List.map_cons, List.map_nil] at hi2
      have hadd : opD .add (.str O1) (.str R1) = ok (.str (O1 ++ R1)) := op_adds (by unfold big; omega)
      have hint : ∀ k : Bool, b1D .int (.bl k) = ok (.int (if k = true then 1 else 0)) := fun k => rfl
      generalize hK : (1 : Int) + (if (pk ns (a + 40 + (0 + (i : Int))) 6 == 0) = true then 1 else 0) = K
      obtain ⟨b, hb1, hb2⟩ := law_is_word_ok n hg (O1 ++ R1, K)
      unfold encW at hb1
      simp only at hb1
      have hsl : d.length < big := by unfold big; omega
      have hput : ∀ ρ i, kPut (ok (.tup [.str (O1 ++ R1), .int K])) (ok (dicG encW d)) (ok (.str (O1 ++ R1))) ρ i = .next (ρ.set i (some (dicG encW (putT (O1 ++ R1) (O1 ++ R1, K) d)))) := fun ρ i => put_G (f := encW) (v := (O1 ++ R1, K)) hsl
      have pk5 := pick_ok (n+1) ns a 5 ha (by decide)
      have pk2 := pick_ok (n+1) ns (a + 1 + (0 + (i : Int))) 2 (by omega) (by decide)
      have pk8 := pick_ok (n+1) ns (a + 20 + (0 + (i : Int))) 8 (by omega) (by decide)
      have pk6 := pick_ok (n+1) ns (a + 40 + (0 + (i : Int))) 6 (by omega) (by decide)
      cases b with
      | false =>
        refine ⟨_, by
          simp (disch := (first | assumption | omega | exact rcv_str _ _ | with_unfolding_all rfl | (simp only [List.length_map]; unfold big; omega))) only [exL, List.set_cons_succ, List.set_cons_zero, ↓len_tup2, if_true, if_false, Bool.false_eq_true, id, Option.map_some, Bool.not_true, Bool.not_false, Bool.and_true, Bool.true_and, Bool.and_false, Bool.false_and, Bool.or_false, Bool.false_or, Bool.or_true, Bool.true_or, beq_self_eq_true, Option.isSome_some, Option.isSome_none, b__law_rich_book_1, pk5, pk2, pk8, pk6, op_mod, hi1, hi2, hadd, hint, hK, hb1]; rfl, d, _, _, _, _, rfl, h1, by rw [List.length_append]; omega⟩
      | true =>
        refine ⟨_, by
          simp (disch := (first | assumption | omega | exact rcv_str _ _ | with_unfolding_all rfl | (simp only [List.length_map]; unfold big; omega))) only [exL, List.set_cons_succ, List.set_cons_zero, ↓len_tup2, if_true, if_false, Bool.false_eq_true, id, Option.map_some, Bool.not_true, Bool.not_false, Bool.and_true, Bool.true_and, Bool.and_false, Bool.false_and, Bool.or_false, Bool.false_or, Bool.or_true, Bool.true_or, beq_self_eq_true, Option.isSome_some, Option.isSome_none, b__law_rich_book_1, pk5, pk2, pk8, pk6, op_mod, hi1, hi2, hadd, hint, hK, hb1, hput]; rfl, putT (O1 ++ R1) (O1 ++ R1, K) d, _, _, _, _, rfl, ⟨putT_nodup h1.nd, fun r hr => ?_⟩, ?_⟩
        · rcases putT_mem hr with e | e
          · rw [e]; exact ⟨rfl, hb2 rfl, by show (O1 ++ R1).length ≤ 4; rw [List.length_append]; omega⟩
          · exact h1.ok r e
        · have := putT_len (O1 ++ R1) (O1 ++ R1, K) d
          rw [List.length_append]
          simp only [List.length_cons, List.length_nil]
          omega) ⟨[], none, none, none, none, rfl, ⟨List.nodup_nil, fun r hr => by cases hr⟩, Nat.le_refl _⟩
  refine ⟨s, o5, o6, o7, o8, q1, q2, ?_⟩
  rw [List.length_range] at q3
  exact q3
theorem rich_book_ok (n : Nat) (ns : List Int) (a : Int) (m : Nat) (ha : 0 ≤ a) (hm2 : m ≤ 50) {t : Tab} (hg : Good t) : ∃ b, IsBook t b ∧ b.length ≤ m ∧ (∀ w ∈ b, w.1.length ≤ 4) ∧ run G (n+4) 32 [.scr ns, .int a, encT t, .int (m : Int)] = ok (encB b) := by
  have e : run G (n+4) 32 [.scr ns, .int a, encT t, .int (m : Int)] = (exSs (run G (n+3)) d__law_rich_book.body [some (.scr ns), some (.int a), some (encT t), some (.int (m : Int)), none, none, none, none, none]).res := rfl
  obtain ⟨d, o5, o6, o7, o8, h1, h2, h3⟩ := rich_loop n ns a ha hg (.int (m : Int)) m (by omega)
  have e0 : D.dic [] [] = dicG encW [] := rfl
  have hr : rangeL 0 ((m : Int)).toNat = rangeL 0 m := by rw [Int.toNat_natCast]
  have nd := isort_strictS h2.nd
  have hmem : ∀ k ∈ isort leS (d.map (·.1)), ∃ v, lookT d k = some v ∧ v.1 = k ∧ IsWord t v := fun k hk => by
    have : k ∈ d.map (·.1) := (isort_permS _).mem_iff.mp hk
    obtain ⟨v, hv⟩ := Option.isSome_iff_exists.mp (lookT_isSome.mpr this)
    have q := h2.ok _ (lookT_mem hv)
    exact ⟨v, hv, q.1, q.2.1⟩
  have hkeys : ((sortT ([], 0) d).map fun r => r.2).map (·.1) = isort leS (d.map (·.1)) := by
    unfold sortT
    rw [List.map_map, List.map_map]
    conv => rhs; rw [← List.map_id (isort leS (d.map (·.1)))]
    apply List.map_congr_left
    intro k hk
    obtain ⟨v, hv, e1, _⟩ := hmem k hk
    show ((lookT d k).getD ([], 0)).1 = k
    rw [hv]
    exact e1
  refine ⟨(sortT ([], 0) d).map fun r => r.2, ⟨?_, fun w hw => ?_⟩, ?_, fun w hw => ?_, ?_⟩
  · rw [hkeys]; exact nd
  · obtain ⟨r, hr, rfl⟩ := List.mem_map.mp hw
    exact (h2.ok r (sortT_mem hr)).2.1
  · rw [List.length_map, sortT_len]; omega
  · obtain ⟨r, hr, rfl⟩ := List.mem_map.mp hw
    have q := h2.ok r (sortT_mem hr)
    rw [q.1]; exact q.2.2
  · rw [e]
    simp (disch := (first | assumption | omega | exact rcv_str _ _ | with_unfolding_all rfl | (simp only [List.length_map]; unfold big; omega))) only [exL, List.set_cons_succ, List.set_cons_zero, ↓len_tup2, if_true, if_false, Bool.false_eq_true, id, Option.map_some, Bool.not_true, Bool.not_false, Bool.and_true, Bool.true_and, Bool.and_false, Bool.false_and, Bool.or_false, Bool.false_or, Bool.or_true, Bool.true_or, beq_self_eq_true, Option.isSome_some, Option.isSome_none, d__law_rich_book, e0, asgo_G, hr, h1, sorted_dic encW d (by omega)]
    rw [lc_map (enc := D.str) (g := fun k => encW ((lookT d k).getD ([], 0)))]
    · simp (disch := (first | assumption | omega | exact rcv_str _ _ | with_unfolding_all rfl | (simp only [List.length_map]; unfold big; omega))) only [exL, List.set_cons_succ, List.set_cons_zero, ↓len_tup2, if_true, if_false, Bool.false_eq_true, id, Option.map_some, Bool.not_true, Bool.not_false, Bool.and_true, Bool.true_and, Bool.and_false, Bool.false_and, Bool.or_false, Bool.false_or, Bool.or_true, Bool.true_or, beq_self_eq_true, Option.isSome_some, Option.isSome_none, encB, sortT, List.map_map]
      rfl
    · intro k hk
      obtain ⟨v, hv, _, _⟩ := hmem k hk
      simp (disch := (first | assumption | omega | exact rcv_str _ _ | with_unfolding_all rfl | (simp only [List.length_map]; unfold big; omega))) only [exL, List.set_cons_succ, List.set_cons_zero, ↓len_tup2, if_true, if_false, Bool.false_eq_true, id, Option.map_some, Bool.not_true, Bool.not_false, Bool.and_true, Bool.true_and, Bool.and_false, Bool.false_and, Bool.or_false, Bool.false_or, Bool.or_true, Bool.true_or, beq_self_eq_true, Option.isSome_some, Option.isSome_none, ix_G hv, hv, Option.getD_some]

def cntV (m : St) (a : Nat) : Int := (((m.drop a).filter isV).length : Nat)
theorem cntV_step {m : St} {a : Nat} (h : a < m.length) : cntV m a = cntV m (a + 1) + (if isV (m.getD a 0) = true then 1 else 0) := by
  have e : m.getD a 0 = m[a] := by rw [List.getD_eq_getElem?_getD, List.getElem?_eq_getElem h]; rfl
  unfold cntV
  rw [List.drop_eq_getElem_cons h, List.filter_cons, e]
  split
  · rw [List.length_cons]; omega
  · omega
theorem cntV_mono {m : St} {a : Nat} : ∀ d : Nat, cntV m (a + d) ≤ cntV m a
  | 0 => Int.le_refl _
  | d + 1 => by
    have ih := cntV_mono (m := m) (a := a) d
    by_cases h : a + d < m.length
    · have := cntV_step h
      have e : a + d + 1 = a + (d + 1) := by omega
      rw [e] at this
      split at this <;> omega
    · have : cntV m (a + (d + 1)) = 0 := by unfold cntV; rw [List.drop_eq_nil_of_le (by omega)]; rfl
      have h0 : 0 ≤ cntV m a := by unfold cntV; omega
      omega
theorem tail_loop (n : Nat) (m : St) (pos : Nat) (s : Int) (hp : pos < m.length) (hv : isV (m.getD pos 0) = true) (hc : cntV m pos = s) (e0 e1 o3 o4 o7 : Option D) : ∀ (d K : Nat), d < K → pos + d ≤ m.length →
    kWh (run G n) (.cmp .gt (.v 5) (.c (.int 0))) b__law_tail_1 K [e0, e1, some (.str m), o3, o4, some (.int (s - cntV m (pos + d))), some (.int ((pos + d : Nat) : Int)), o7] = .next [e0, e1, some (.str m), o3, o4, some (.int 0), some (.int (pos : Int)), o7]
  | 0, K, hK, hl => by
    obtain ⟨K, rfl⟩ : ∃ k, K = k + 1 := ⟨K - 1, by omega⟩
    have e : s - cntV m (pos + 0) = 0 := by rw [Nat.add_zero, hc]; omega
    rw [e]
    have h0 : decide ((0 : Int) < 0) = false := by decide
    rw [wh_end _ (by simp (disch := (first | assumption | omega | exact rcv_str _ _ | with_unfolding_all rfl | (simp only [List.length_map]; unfold big; omega))) only [exL, List.set_cons_succ, List.set_cons_zero, ↓len_tup2, if_true, if_false, Bool.false_eq_true, id, Option.map_some, Bool.not_true, Bool.not_false, Bool.and_true, Bool.true_and, Bool.and_false, Bool.false_and, Bool.or_false, Bool.false_or, Bool.or_true, Bool.true_or, beq_self_eq_true, Option.isSome_some, Option.isSome_none, h0])]
    rfl
  | d + 1, K, hK, hl => by
    obtain ⟨K, rfl⟩ : ∃ k, K = k + 1 := ⟨K - 1, by omega⟩
    have h1 := cntV_mono (m := m) (a := pos + 1) d
    have h2 := cntV_step hp
    rw [if_pos hv] at h2
    have e1' : pos + 1 + d = pos + (d + 1) := by omega
    rw [e1'] at h1
    have hpos : decide ((0 : Int) < s - cntV m (pos + (d + 1))) = true := decide_eq_true (by omega)
    have e2 : ((pos + (d + 1) : Nat) : Int) - 1 = ((pos + d : Nat) : Int) := by omega
    have hix : ixD (.str m) (.int ((pos + d : Nat) : Int)) = ok (.str [m.getD (pos + d) 0]) := by rw [ix_sign (by omega) (by omega), Int.toNat_natCast]
    have hin : inD (.str [m.getD (pos + d) 0]) (.str [65, 69, 73, 79, 85]) = ok (isV (m.getD (pos + d) 0)) := rfl
    have hint : ∀ k : Bool, b1D .int (.bl k) = ok (.int (if k = true then 1 else 0)) := fun k => rfl
    have h3 := cntV_step (m := m) (a := pos + d) (by omega)
    have e3 : s - cntV m (pos + (d + 1)) - (if isV (m.getD (pos + d) 0) = true then 1 else 0) = s - cntV m (pos + d) := by
      have : pos + d + 1 = pos + (d + 1) := by omega
      rw [this] at h3
      omega
    rw [wh_next _ (by simp (disch := (first | assumption | omega | exact rcv_str _ _ | with_unfolding_all rfl | (simp only [List.length_map]; unfold big; omega))) only [exL, List.set_cons_succ, List.set_cons_zero, ↓len_tup2, if_true, if_false, Bool.false_eq_true, id, Option.map_some, Bool.not_true, Bool.not_false, Bool.and_true, Bool.true_and, Bool.and_false, Bool.false_and, Bool.or_false, Bool.false_or, Bool.or_true, Bool.true_or, beq_self_eq_true, Option.isSome_some, Option.isSome_none, hpos]) (by simp (disch := (first | assumption | omega | exact rcv_str _ _ | with_unfolding_all rfl | (simp only [List.length_map]; unfold big; omega))) only [exL, List.set_cons_succ, List.set_cons_zero, ↓len_tup2, if_true, if_false, Bool.false_eq_true, id, Option.map_some, Bool.not_true, Bool.not_false, Bool.and_true, Bool.true_and, Bool.and_false, Bool.false_and, Bool.or_false, Bool.false_or, Bool.or_true, Bool.true_or, beq_self_eq_true, Option.isSome_some, Option.isSome_none, b__law_tail_1, e2, hix, hin, hint, e3]; rfl)]
    exact tail_loop n m pos s hp hv hc e0 e1 o3 o4 o7 d K (by omega) (by omega)
theorem max_ints (x : Int) (l : List Int) : ∃ y, b1D .max (.lst ((x :: l).map D.int)) = ok (.int y) := by
  have hb : ∀ (l : List Int) (x : Int), ∃ y, best ltD (.int x) (l.map D.int) = .int y := fun l => by
    induction l with
    | nil => intro x; exact ⟨x, rfl⟩
    | cons z r ih =>
      intro x
      simp only [List.map_cons, best]
      split
      · exact ih z
      · exact ih x
  obtain ⟨y, hy⟩ := hb l x
  refine ⟨y, ?_⟩
  have : b1D .max (.lst ((x :: l).map D.int)) = if sortable ((x :: l).map D.int) then ok (best ltD (.int x) (l.map D.int)) else bad := rfl
  rw [this, if_pos (sortable_int _), hy]
theorem law_tail_ok (n : Nat) {t : Tab} (hg : Good t) {w : Wd} (hw : IsWord t w) : ∃ h : St, run G (n+3) 37 [encT t, encW w] = ok (.tup [.str (tailW t w), .str h]) := by
  have e : run G (n+3) 37 [encT t, encW w] = (exSs (run G (n+2)) d__law_tail.body [some (encT t), some (.tup [.str w.1, .int w.2]), none, none, none, none, none, none]).res := rfl
  obtain ⟨hm, hs⟩ := hw.sw
  obtain ⟨hat, hp, hmem⟩ := pos_at hw.s1 hs
  have hsl := snd_len hg hw
  obtain ⟨hcn, _⟩ := vowN_behind hat
  have hs1 := hw.s1
  have hc : cntV (sndW t w.1) (posOf (sndW t w.1) w.2) = w.2 := by
    unfold cntV
    rw [Nat.sub_zero] at hcn
    rw [hcn]
    omega
  have hv : isV ((sndW t w.1).getD (posOf (sndW t w.1) w.2) 0) = true := by
    obtain ⟨_, c, q1, q2⟩ := vowN_mem.mp hmem
    rw [Nat.sub_zero] at q1
    rw [List.getD_eq_getElem?_getD, q1]
    exact q2
  have hso : run G (n+2) 29 [encT t, .str w.1] = ok (optS (snd t w.1)) := law_sounds_ok n hg w.1 (by have := hw.l2; omega)
  rw [hm] at hso
  have hlen0 : cntV (sndW t w.1) (sndW t w.1).length = 0 := by unfold cntV; rw [List.drop_eq_nil_of_le (Nat.le_refl _)]; rfl
  have hlp := tail_loop (n+2) (sndW t w.1) (posOf (sndW t w.1) w.2) w.2 hp hv hc (some (encT t)) (some (.tup [.str w.1, .int w.2])) none none none ((sndW t w.1).length - posOf (sndW t w.1) w.2) whileMax (by unfold whileMax; omega) (by omega)
  rw [show posOf (sndW t w.1) w.2 + ((sndW t w.1).length - posOf (sndW t w.1) w.2) = (sndW t w.1).length by omega, hlen0, Int.sub_zero] at hlp
  have hcut : cut (sndW t w.1) (some ((posOf (sndW t w.1) w.2 : Nat) : Int)) none = tailW t w := cut_lo _ _ (by omega)
  have hcu2 : cut (sndW t w.1) none (some ((posOf (sndW t w.1) w.2 : Nat) : Int)) = (sndW t w.1).take (posOf (sndW t w.1) w.2) := cut_hi _ _
  have hAl : ((sndW t w.1).take (posOf (sndW t w.1) w.2)).length ≤ 20 := by rw [List.length_take]; omega
  generalize (sndW t w.1).take (posOf (sndW t w.1) w.2) = A at hcu2 hAl
  have hr : rangeL 0 ((A.length : Int)).toNat = (List.range A.length).map fun i : Nat => D.int (0 + (i : Int)) := by rw [Int.toNat_natCast]; rfl
  have hlc : ∀ o6, lcGo (lcF (run G (n+2)) (.nm 7) (.yes (.cmp .inn (.ix (.v 3) (.v 7)) (.c (.str [65, 69, 73, 79, 85])))) (.bin .add (.v 7) (.c (.int 1))) [some (encT t), some (.tup [.str w.1, .int w.2]), some (.str (sndW t w.1)), some (.str A), none, some (.int 0), o6, none]) ((List.range A.length).map fun i : Nat => D.int (0 + (i : Int))) = ok ((((List.range A.length).filter fun i => isV (A.getD i 0)).map fun i : Nat => 0 + (i : Int) + 1).map D.int) := fun o6 => by
    rw [List.map_map]
    apply lc_filter
    intro i hi
    have hi' := List.mem_range.mp hi
    have hix : ixD (.str A) (.int (0 + (i : Int))) = ok (.str [A.getD i 0]) := by rw [ix_sign (by omega) (by omega)]; congr 4; omega
    have hin : inD (.str [A.getD i 0]) (.str [65, 69, 73, 79, 85]) = ok (isV (A.getD i 0)) := rfl
    simp (disch := (first | assumption | omega | exact rcv_str _ _ | with_unfolding_all rfl | (simp only [List.length_map]; unfold big; omega))) only [exL, List.set_cons_succ, List.set_cons_zero, ↓len_tup2, if_true, if_false, Bool.false_eq_true, id, Option.map_some, Bool.not_true, Bool.not_false, Bool.and_true, Bool.true_and, Bool.and_false, Bool.false_and, Bool.or_false, Bool.false_or, Bool.or_true, Bool.true_or, beq_self_eq_true, Option.isSome_some, Option.isSome_none, hix, hin]
    rfl
  have hll : (((List.range A.length).filter fun i => isV (A.getD i 0)).map fun i : Nat => 0 + (i : Int) + 1).length ≤ A.length := by
    rw [List.length_map]
    have := List.length_filter_le (fun i => isV (A.getD i 0)) (List.range A.length)
    rw [List.length_range] at this
    exact this
  generalize ((List.range A.length).filter fun i => isV (A.getD i 0)).map (fun i : Nat => 0 + (i : Int) + 1) = Z at hlc hll
  obtain ⟨y, hy⟩ := max_ints 0 Z
  have hal : opD .add (.lst [.int 0]) (.lst (Z.map D.int)) = ok (.lst (.int 0 :: Z.map D.int)) := if_pos (by rw [List.length_map, List.length_singleton]; unfold big; omega)
  rw [List.map_cons] at hy
  have hAi : ((A.length : Int)) ≤ 4000000 := by omega
  refine ⟨cut A (some y) none, ?_⟩
  rw [e]
  simp (disch := (first | assumption | omega | exact rcv_str _ _ | with_unfolding_all rfl | (simp only [List.length_map]; unfold big; omega))) only [exL, List.set_cons_succ, List.set_cons_zero, ↓len_tup2, if_true, if_false, Bool.false_eq_true, id, Option.map_some, Bool.not_true, Bool.not_false, Bool.and_true, Bool.true_and, Bool.and_false, Bool.false_and, Bool.or_false, Bool.false_or, Bool.or_true, Bool.true_or, beq_self_eq_true, Option.isSome_some, Option.isSome_none, d__law_tail, hso, optS, hlp, hcu2, hr, hlc, hal, hy, hcut]

theorem ahd_map {s : St} {rows : List Wd} {k : Nat} (h1 : k ≤ s.length) (h2 : k ≤ rows.length) : ahd s rows k = (List.range k).map fun j => (sgn s j, wdAt rows j) := by
  apply List.ext_getElem?
  intro j
  unfold ahd
  by_cases hj : j < k
  · rw [List.getElem?_take_of_lt hj, List.getElem?_map, List.getElem?_range hj]
    have : (s.zip rows)[j]? = some (sgn s j, wdAt rows j) := by
      rw [List.getElem?_zip_eq_some]
      unfold sgn wdAt
      simp only [List.getD_eq_getElem?_getD]
      rw [List.getElem?_eq_getElem (show j < s.length by omega), List.getElem?_eq_getElem (show j < rows.length by omega)]
      exact ⟨rfl, rfl⟩
    rw [this]
    rfl
  · rw [List.getElem?_eq_none (by rw [List.length_take]; omega), List.getElem?_eq_none (by rw [List.length_map, List.length_range]; omega)]
theorem any_filter {α : Type} (p : α → Bool) : ∀ l : List α, (!(l.filter p).isEmpty) = l.any p
  | [] => rfl
  | x :: r => by
    rw [List.filter_cons, List.any_cons]
    cases h : p x with
    | true => simp
    | false =>
      simp only [Bool.false_eq_true, if_false, Bool.false_or]
      exact any_filter p r
theorem lc_ixs {l : List Nat} {p : Nat → Bool} {f : D → Res (Option D)} (h : ∀ j ∈ l, f (D.int (0 + (j : Int))) = ok (if p j = true then some (D.int (0 + (j : Int))) else none)) : lcGo f (l.map fun i : Nat => D.int (0 + (i : Int))) = ok (((l.filter p).map fun i : Nat => (0 + (i : Int))).map D.int) := by
  rw [lc_filter (enc := fun i : Nat => D.int (0 + (i : Int))) (g := fun i : Nat => D.int (0 + (i : Int))) (p := p) h, List.map_map]
  rfl
theorem wrong_1 (n : Nat) {t : Tab} (hg : Good t) {p : List (List Wd)} (hp : IsPoem t p) {s : St} {ms : List St} (hf : IsForm s ms) (hl : p.length = s.length) (e1 e2 : Option D) : ∀ (l2 l1 : List (List Wd)) (L : List (Nat × St)) (o8 o9 : Option D), p = l1 ++ l2 → L.length + 2 * l2.length < 1000 →
    ∃ o8' o9', forGo (bdy (run G (n+3)) (.tp [8, 9]) b__law_wrong_1) (enumL l1.length (l2.map encLnP)) [some (encT t), e1, e2, some (.lst (((rowsP p).map (tailW t)).map D.str)), some (.str s), some (.tup (ms.map D.str)), some (.lst ((rowsP p).map encW)), some (.lst (L.map encFt)), o8, o9, none, none]
      = .next [some (encT t), e1, e2, some (.lst (((rowsP p).map (tailW t)).map D.str)), some (.str s), some (.tup (ms.map D.str)), some (.lst ((rowsP p).map encW)), some (.lst ((L ++ (List.range' l1.length l2.length).flatMap (fltK t s ms p)).map encFt)), o8', o9', none, none]
  | [], l1, L, o8, o9, _, _ => ⟨o8, o9, by simp [enumL, forGo]⟩
  | l :: l2, l1, L, o8, o9, hx, hL => by
    rw [List.length_cons] at hL
    have hlen : l1.length < p.length := by rw [hx]; simp
    have hln : IsLine t l := hp.ln l (by rw [hx]; simp)
    have hpl : p.getD l1.length [] = l := by rw [hx]; simp
    have hrl := rowsP_len p
    have hmx : ixD (.tup (ms.map D.str)) (.int (l1.length : Int)) = ok (.str (ms.getD l1.length [])) := by
      rw [ix_mapT (f := D.str) [] (by omega) (by have := hf.ml; omega), Int.toNat_natCast]
    have hrx : ∀ j : Nat, j < p.length → ixD (.lst ((rowsP p).map encW)) (.int (j : Int)) = ok (encW (wdAt (rowsP p) j)) := fun j hj => by
      rw [ix_map (f := encW) ([], 0) (by omega) (by omega), Int.toNat_natCast]
      rfl
    have htx : ∀ j : Nat, j < p.length → ixD (.lst (((rowsP p).map (tailW t)).map D.str)) (.int (j : Int)) = ok (.str (tailW t (wdAt (rowsP p) j))) := fun j hj => by
      rw [List.map_map, ix_map (f := D.str ∘ tailW t) ([], 0) (by omega) (by omega), Int.toNat_natCast]
      rfl
    have hsx : ∀ j : Nat, j < p.length → ixD (.str s) (.int (j : Int)) = ok (.str [sgn s j]) := fun j hj => by
      rw [ix_sign (by omega) (by omega), Int.toNat_natCast]
      rfl
    have ix0 : ∀ w : Wd, ixD (encW w) (.int 0) = ok (.str w.1) := fun w => rfl
    have hlb : (lb t l).length ≤ 180 := by
      have hs : ∀ l : List (St × Int), (∀ w ∈ l, IsWord t w) → (lb t l).length ≤ 30 * l.length := fun l h => by
        induction l with
        | nil => simp [lb]
        | cons w r ih =>
          have h1 := ih fun x hx => h x (List.mem_cons_of_mem _ hx)
          have h2 := (wb_len hg (h w List.mem_cons_self)).2
          unfold lb at h1 ⊢
          rw [List.map_cons, List.flatten_cons, List.length_append, List.length_cons]
          omega
      have := hs l hln.2.2
      have h2 := hln.2.1
      omega
    have hsu : run G (n+3) 34 [.str (lb t l), .str (ms.getD l1.length [])] = ok (.bl (suitB (lb t l) (ms.getD l1.length []))) := by
      have := law_suits_ok (n+2) (lb t l) (ms.getD l1.length []) (by omega)
      rw [← suit_same lb_sign] at this
      exact this
    have hr : rangeL 0 ((l1.length : Int)).toNat = (List.range l1.length).map fun i : Nat => D.int (0 + (i : Int)) := by rw [Int.toNat_natCast]; rfl
    have hll8 : ((l1.length : Int)) ≤ 4000000 := by have := hp.l8; omega
    have a1 : agnB s (rowsP p) l1.length = (List.range l1.length).any fun j => (wdAt (rowsP p) j).1 == (wdAt (rowsP p) l1.length).1 := by
      unfold agnB
      rw [ahd_map (by omega) (by omega), List.any_map]
      rfl
    have a2 : rhyB t s (rowsP p) l1.length = (List.range l1.length).any fun j => ([sgn s j] == [sgn s l1.length]) && !(tailW t (wdAt (rowsP p) j) == tailW t (wdAt (rowsP p) l1.length)) := by
      unfold rhyB
      rw [ahd_map (by omega) (by omega), List.any_map]
      rfl
    have a3 : claB t s (rowsP p) l1.length = (List.range l1.length).any fun j => !([sgn s j] == [sgn s l1.length]) && (tailW t (wdAt (rowsP p) j) == tailW t (wdAt (rowsP p) l1.length)) := by
      unfold claB
      rw [ahd_map (by omega) (by omega), List.any_map]
      rfl
    have e0 : ∀ j : Nat, (0 : Int) + (j : Int) = (j : Int) := fun j => by omega
    have lcS : ∀ X : D, lcGo (lcF (run G (n+3)) (.nm 10) .no (.call 33 (.cons (.v 0) (.cons (.v 10) .nil))) [some (encT t), e1, e2, some (.lst (((rowsP p).map (tailW t)).map D.str)), some (.str s), some (.tup (ms.map D.str)), some (.lst ((rowsP p).map encW)), some X, some (.int (l1.length : Int)), some (.tup (l.map encW)), none, none]) (l.map encW) = ok (l.map fun w => .str (wb t w)) := fun X => by
      apply lc_map
      intro w hw
      simp (disch := (first | assumption | omega | exact rcv_str _ _ | with_unfolding_all rfl | (simp only [List.length_map]; unfold big; omega))) only [exL, List.set_cons_succ, List.set_cons_zero, ↓len_tup2, if_true, if_false, Bool.false_eq_true, id, Option.map_some, Bool.not_true, Bool.not_false, Bool.and_true, Bool.true_and, Bool.and_false, Bool.false_and, Bool.or_false, Bool.false_or, Bool.or_true, Bool.true_or, beq_self_eq_true, Option.isSome_some, Option.isSome_none, law_signs_ok n hg (hln.2.2 w hw)]
    have lc1 : ∀ X : D, lcGo (lcF (run G (n+3)) (.nm 11) (.yes (.cmp .eq (.ix (.ix (.v 6) (.v 11)) (.c (.int 0))) (.ix (.ix (.v 6) (.v 8)) (.c (.int 0))))) (.v 11) [some (encT t), e1, e2, some (.lst (((rowsP p).map (tailW t)).map D.str)), some (.str s), some (.tup (ms.map D.str)), some (.lst ((rowsP p).map encW)), some X, some (.int (l1.length : Int)), some (.tup (l.map encW)), none, none]) ((List.range l1.length).map fun i : Nat => D.int (0 + (i : Int))) = ok ((((List.range l1.length).filter fun j => (wdAt (rowsP p) j).1 == (wdAt (rowsP p) l1.length).1).map fun i : Nat => (0 + (i : Int))).map D.int) := fun X => by
      apply lc_ixs
      intro j hj
      have hj' := List.mem_range.mp hj
      have e0' := e0 j
      simp (disch := (first | assumption | omega | exact rcv_str _ _ | with_unfolding_all rfl | (simp only [List.length_map]; unfold big; omega))) only [exL, List.set_cons_succ, List.set_cons_zero, ↓len_tup2, if_true, if_false, Bool.false_eq_true, id, Option.map_some, Bool.not_true, Bool.not_false, Bool.and_true, Bool.true_and, Bool.and_false, Bool.false_and, Bool.or_false, Bool.false_or, Bool.or_true, Bool.true_or, beq_self_eq_true, Option.isSome_some, Option.isSome_none, e0', hrx j (by omega), hrx l1.length hlen, ix0]
    have lc2 : ∀ X : D, lcGo (lcF (run G (n+3)) (.nm 11) (.yes (.and (.cons (.cmp .eq (.ix (.v 4) (.v 11)) (.ix (.v 4) (.v 8))) (.cons (.cmp .ne (.ix (.v 3) (.v 11)) (.ix (.v 3) (.v 8))) .nil)))) (.v 11) [some (encT t), e1, e2, some (.lst (((rowsP p).map (tailW t)).map D.str)), some (.str s), some (.tup (ms.map D.str)), some (.lst ((rowsP p).map encW)), some X, some (.int (l1.length : Int)), some (.tup (l.map encW)), none, none]) ((List.range l1.length).map fun i : Nat => D.int (0 + (i : Int))) = ok ((((List.range l1.length).filter fun j => ([sgn s j] == [sgn s l1.length]) && !(tailW t (wdAt (rowsP p) j) == tailW t (wdAt (rowsP p) l1.length))).map fun i : Nat => (0 + (i : Int))).map D.int) := fun X => by
      apply lc_ixs
      intro j hj
      have hj' := List.mem_range.mp hj
      have e0' := e0 j
      cases hq : ([sgn s j] == [sgn s l1.length]) <;> simp (disch := (first | assumption | omega | exact rcv_str _ _ | with_unfolding_all rfl | (simp only [List.length_map]; unfold big; omega))) only [exL, List.set_cons_succ, List.set_cons_zero, ↓len_tup2, if_true, if_false, Bool.false_eq_true, id, Option.map_some, Bool.not_true, Bool.not_false, Bool.and_true, Bool.true_and, Bool.and_false, Bool.false_and, Bool.or_false, Bool.false_or, Bool.or_true, Bool.true_or, beq_self_eq_true, Option.isSome_some, Option.isSome_none, e0', hsx j (by omega), hsx l1.length hlen, htx j (by omega), htx l1.length hlen, hq] <;> rfl
    have lc3 : ∀ X : D, lcGo (lcF (run G (n+3)) (.nm 11) (.yes (.and (.cons (.cmp .ne (.ix (.v 4) (.v 11)) (.ix (.v 4) (.v 8))) (.cons (.cmp .eq (.ix (.v 3) (.v 11)) (.ix (.v 3) (.v 8))) .nil)))) (.v 11) [some (encT t), e1, e2, some (.lst (((rowsP p).map (tailW t)).map D.str)), some (.str s), some (.tup (ms.map D.str)), some (.lst ((rowsP p).map encW)), some X, some (.int (l1.length : Int)), some (.tup (l.map encW)), none, none]) ((List.range l1.length).map fun i : Nat => D.int (0 + (i : Int))) = ok ((((List.range l1.length).filter fun j => !([sgn s j] == [sgn s l1.length]) && (tailW t (wdAt (rowsP p) j) == tailW t (wdAt (rowsP p) l1.length))).map fun i : Nat => (0 + (i : Int))).map D.int) := fun X => by
      apply lc_ixs
      intro j hj
      have hj' := List.mem_range.mp hj
      have e0' := e0 j
      cases hq : ([sgn s j] == [sgn s l1.length]) <;> simp (disch := (first | assumption | omega | exact rcv_str _ _ | with_unfolding_all rfl | (simp only [List.length_map]; unfold big; omega))) only [exL, List.set_cons_succ, List.set_cons_zero, ↓len_tup2, if_true, if_false, Bool.false_eq_true, id, Option.map_some, Bool.not_true, Bool.not_false, Bool.and_true, Bool.true_and, Bool.and_false, Bool.false_and, Bool.or_false, Bool.false_or, Bool.or_true, Bool.true_or, beq_self_eq_true, Option.isSome_some, Option.isSome_none, e0', hsx j (by omega), hsx l1.length hlen, htx j (by omega), htx l1.length hlen, hq] <;> rfl
    have emp : ∀ q : Nat → Bool, eqD (.lst ((((List.range l1.length).filter q).map fun i : Nat => (0 + (i : Int))).map D.int)) (.lst []) = ok (!((List.range l1.length).any q)) := fun q => by
      rw [eq_ints_nil, List.isEmpty_map, ← any_filter, Bool.not_not]
    have em1 := emp fun j => (wdAt (rowsP p) j).1 == (wdAt (rowsP p) l1.length).1
    have em2 := emp fun j => ([sgn s j] == [sgn s l1.length]) && !(tailW t (wdAt (rowsP p) j) == tailW t (wdAt (rowsP p) l1.length))
    have em3 := emp fun j => !([sgn s j] == [sgn s l1.length]) && (tailW t (wdAt (rowsP p) j) == tailW t (wdAt (rowsP p) l1.length))
    rw [← a1] at em1
    rw [← a2] at em2
    rw [← a3] at em3
    have hjn := join_wb hg hln
    have hb1 : ∀ (S0 : Ss) (ρ : Env), bdy (run G (n+3)) (.tp [8, 9]) S0 (.tup [.int (l1.length : Int), encLnP l]) ρ = exSs (run G (n+3)) S0 ((ρ.set 8 (some (.int (l1.length : Int)))).set 9 (some (.tup (l.map encW)))) := fun S0 ρ => rfl
    have hbl : (L.map encFt).length < big := by rw [List.length_map]; unfold big; omega
    have hbl2 : ((L ++ [(l1.length, ([109, 101, 116, 114, 101] : St))]).map encFt).length < big := by rw [List.length_map, List.length_append, List.length_singleton]; unfold big; omega
    have ee : ∀ w : St, (.tup [.int (l1.length : Int), .str w] : D) = encFt (l1.length, w) := fun w => rfl
    have am : ∀ (L : List (Nat × St)) x, L.map encFt ++ [encFt x] = (L ++ [x]).map encFt := fun L x => by rw [List.map_append]; rfl
    have hk : fltK t s ms p l1.length = (if suitB (lb t l) (ms.getD l1.length []) = true then [] else [(l1.length, metreS)]) ++ endL (endF t s (rowsP p) l1.length) l1.length := by
      unfold fltK
      rw [hpl]
    obtain ⟨a8, a9, q⟩ := wrong_1 n hg hp hf hl e1 e2 l2 (l1 ++ [l]) (L ++ fltK t s ms p l1.length) (some (.int (l1.length : Int))) (some (.tup (l.map encW))) (by rw [hx]; simp) (by
      have h1 : (fltK t s ms p l1.length).length ≤ 2 := by
        rw [hk, List.length_append]
        have : (endL (endF t s (rowsP p) l1.length) l1.length).length ≤ 1 := by cases endF t s (rowsP p) l1.length <;> simp [endL]
        split <;> simp <;> omega
      rw [List.length_append]
      omega)
    refine ⟨a8, a9, ?_⟩
    have hb2 : bdy (run G (n+3)) (.tp [8, 9]) b__law_wrong_1 (.tup [.int (l1.length : Int), encLnP l]) [some (encT t), e1, e2, some (.lst (((rowsP p).map (tailW t)).map D.str)), some (.str s), some (.tup (ms.map D.str)), some (.lst ((rowsP p).map encW)), some (.lst (L.map encFt)), o8, o9, none, none] = .next [some (encT t), e1, e2, some (.lst (((rowsP p).map (tailW t)).map D.str)), some (.str s), some (.tup (ms.map D.str)), some (.lst ((rowsP p).map encW)), some (.lst ((L ++ fltK t s ms p l1.length).map encFt)), some (.int (l1.length : Int)), some (.tup (l.map encW)), none, none] := by
      rw [hk]
      unfold endF
      cases hs : suitB (lb t l) (ms.getD l1.length []) with
      | true =>
        rw [hs] at hsu
        cases h1 : agnB s (rowsP p) l1.length with
        | true =>
          rw [h1] at em1
          simp (disch := (first | assumption | omega | exact rcv_str _ _ | with_unfolding_all rfl | (simp only [List.length_map]; unfold big; omega))) only [exL, List.set_cons_succ, List.set_cons_zero, ↓len_tup2, if_true, if_false, Bool.false_eq_true, id, Option.map_some, Bool.not_true, Bool.not_false, Bool.and_true, Bool.true_and, Bool.and_false, Bool.false_and, Bool.or_false, Bool.false_or, Bool.or_true, Bool.true_or, beq_self_eq_true, Option.isSome_some, Option.isSome_none, hb1, b__law_wrong_1, lcS, hjn, hmx, hsu, hr, lc1, em1, ee, hbl, am, endL, List.nil_append]
          rfl
        | false =>
          rw [h1] at em1
          cases h2 : rhyB t s (rowsP p) l1.length with
          | true =>
            rw [h2] at em2
            simp (disch := (first | assumption | omega | exact rcv_str _ _ | with_unfolding_all rfl | (simp only [List.length_map]; unfold big; omega))) only [exL, List.set_cons_succ, List.set_cons_zero, ↓len_tup2, if_true, if_false, Bool.false_eq_true, id, Option.map_some, Bool.not_true, Bool.not_false, Bool.and_true, Bool.true_and, Bool.and_false, Bool.false_and, Bool.or_false, Bool.false_or, Bool.or_true, Bool.true_or, beq_self_eq_true, Option.isSome_some, Option.isSome_none, hb1, b__law_wrong_1, lcS, hjn, hmx, hsu, hr, lc1, em1, lc2, em2, ee, hbl, am, endL, List.nil_append]
            rfl
          | false =>
            rw [h2] at em2
            cases h3 : claB t s (rowsP p) l1.length with
            | true =>
              rw [h3] at em3
              simp (disch := (first | assumption | omega | exact rcv_str _ _ | with_unfolding_all rfl | (simp only [List.length_map]; unfold big; omega))) only [exL, List.set_cons_succ, List.set_cons_zero, ↓len_tup2, if_true, if_false, Bool.false_eq_true, id, Option.map_some, Bool.not_true, Bool.not_false, Bool.and_true, Bool.true_and, Bool.and_false, Bool.false_and, Bool.or_false, Bool.false_or, Bool.or_true, Bool.true_or, beq_self_eq_true, Option.isSome_some, Option.isSome_none, hb1, b__law_wrong_1, lcS, hjn, hmx, hsu, hr, lc1, em1, lc2, em2, lc3, em3, ee, hbl, am, endL, List.nil_append]
              rfl
            | false =>
              rw [h3] at em3
              simp (disch := (first | assumption | omega | exact rcv_str _ _ | with_unfolding_all rfl | (simp only [List.length_map]; unfold big; omega))) only [exL, List.set_cons_succ, List.set_cons_zero, ↓len_tup2, if_true, if_false, Bool.false_eq_true, id, Option.map_some, Bool.not_true, Bool.not_false, Bool.and_true, Bool.true_and, Bool.and_false, Bool.false_and, Bool.or_false, Bool.false_or, Bool.or_true, Bool.true_or, beq_self_eq_true, Option.isSome_some, Option.isSome_none, hb1, b__law_wrong_1, lcS, hjn, hmx, hsu, hr, lc1, em1, lc2, em2, lc3, em3, endL, List.append_nil]
      | false =>
        rw [hs] at hsu
        cases h1 : agnB s (rowsP p) l1.length with
        | true =>
          rw [h1] at em1
          simp (disch := (first | assumption | omega | exact rcv_str _ _ | with_unfolding_all rfl | (simp only [List.length_map]; unfold big; omega))) only [exL, List.set_cons_succ, List.set_cons_zero, ↓len_tup2, if_true, if_false, Bool.false_eq_true, id, Option.map_some, Bool.not_true, Bool.not_false, Bool.and_true, Bool.true_and, Bool.and_false, Bool.false_and, Bool.or_false, Bool.false_or, Bool.or_true, Bool.true_or, beq_self_eq_true, Option.isSome_some, Option.isSome_none, hb1, b__law_wrong_1, lcS, hjn, hmx, hsu, hr, lc1, em1, ee, hbl, hbl2, am, endL]
          rw [← List.append_assoc]
          rfl
        | false =>
          rw [h1] at em1
          cases h2 : rhyB t s (rowsP p) l1.length with
          | true =>
            rw [h2] at em2
            simp (disch := (first | assumption | omega | exact rcv_str _ _ | with_unfolding_all rfl | (simp only [List.length_map]; unfold big; omega))) only [exL, List.set_cons_succ, List.set_cons_zero, ↓len_tup2, if_true, if_false, Bool.false_eq_true, id, Option.map_some, Bool.not_true, Bool.not_false, Bool.and_true, Bool.true_and, Bool.and_false, Bool.false_and, Bool.or_false, Bool.false_or, Bool.or_true, Bool.true_or, beq_self_eq_true, Option.isSome_some, Option.isSome_none, hb1, b__law_wrong_1, lcS, hjn, hmx, hsu, hr, lc1, em1, lc2, em2, ee, hbl, hbl2, am, endL]
            rw [← List.append_assoc]
            rfl
          | false =>
            rw [h2] at em2
            cases h3 : claB t s (rowsP p) l1.length with
            | true =>
              rw [h3] at em3
              simp (disch := (first | assumption | omega | exact rcv_str _ _ | with_unfolding_all rfl | (simp only [List.length_map]; unfold big; omega))) only [exL, List.set_cons_succ, List.set_cons_zero, ↓len_tup2, if_true, if_false, Bool.false_eq_true, id, Option.map_some, Bool.not_true, Bool.not_false, Bool.and_true, Bool.true_and, Bool.and_false, Bool.false_and, Bool.or_false, Bool.false_or, Bool.or_true, Bool.true_or, beq_self_eq_true, Option.isSome_some, Option.isSome_none, hb1, b__law_wrong_1, lcS, hjn, hmx, hsu, hr, lc1, em1, lc2, em2, lc3, em3, ee, hbl, hbl2, am, endL]
              rw [← List.append_assoc]
              rfl
            | false =>
              rw [h3] at em3
              simp (disch := (first | assumption | omega | exact rcv_str _ _ | with_unfolding_all rfl | (simp only [List.length_map]; unfold big; omega))) only [exL, List.set_cons_succ, List.set_cons_zero, ↓len_tup2, if_true, if_false, Bool.false_eq_true, id, Option.map_some, Bool.not_true, Bool.not_false, Bool.and_true, Bool.true_and, Bool.and_false, Bool.false_and, Bool.or_false, Bool.false_or, Bool.or_true, Bool.true_or, beq_self_eq_true, Option.isSome_some, Option.isSome_none, hb1, b__law_wrong_1, lcS, hjn, hmx, hsu, hr, lc1, em1, lc2, em2, lc3, em3, ee, hbl, am, endL, List.append_nil]
              rfl
    rw [List.map_cons, enumL, forGo, hb2]
    rw [List.length_append, List.length_singleton] at q
    have er : (List.range' l1.length (l :: l2).length) = l1.length :: List.range' (l1.length + 1) l2.length := by rw [List.length_cons, List.range'_succ]
    rw [er, List.flatMap_cons, ← List.append_assoc]
    exact q

def linesS : St := [108, 105, 110, 101, 115]
def fltA (t : Tab) (s : St) (ms : List St) (p : List (List Wd)) : List (Nat × St) := if p.length = s.length then flt t s ms p else [(0, linesS)]
theorem faults_any (n : Nat) {t : Tab} (hg : Good t) {p : List (List Wd)} (hp : IsPoem t p) {s : St} {ms : List St} (hf : IsForm s ms) : run G (n+8) 23 [encT t, encPm p, encFm s ms] = ok (.lst ((fltA t s ms p).map encFt)) := by
  unfold fltA
  by_cases hl : p.length = s.length
  · rw [if_pos hl]
    exact faults_ok n hg hp hf hl
  · rw [if_neg hl]
    have e : run G (n+8) 23 [encT t, encPm p, encFm s ms] = (exSs (run G (n+7)) d_faults.body [some (encT t), some (.tup (p.map encLnP)), some (.tup [.str s, .tup (ms.map D.str)]), none, none, none, none, none, none, none]).res := rfl
    have q1 : run G (n+7) 18 [encT t, .tup (p.map encLnP)] = ok .non := look_poem_ok (n+2) hg hp
    have q2 : run G (n+7) 20 [.tup [.str s, .tup (ms.map D.str)]] = ok .non := look_form_ok (n+4) hf
    have i2 : ((p.length : Int) == (s.length : Int)) = false := beq_eq_false_iff_ne.mpr (by omega)
    rw [e]
    simp (disch := (first | assumption | omega | exact rcv_str _ _ | with_unfolding_all rfl | (simp only [List.length_map]; unfold big; omega))) only [exL, List.set_cons_succ, List.set_cons_zero, ↓len_tup2, if_true, if_false, Bool.false_eq_true, id, Option.map_some, Bool.not_true, Bool.not_false, Bool.and_true, Bool.true_and, Bool.and_false, Bool.false_and, Bool.or_false, Bool.false_or, Bool.or_true, Bool.true_or, beq_self_eq_true, Option.isSome_some, Option.isSome_none, d_faults, q1, q2, List.length_map, i2]
    rfl
theorem fits_any (n : Nat) {t : Tab} (hg : Good t) {p : List (List Wd)} (hp : IsPoem t p) {s : St} {ms : List St} (hf : IsForm s ms) : run G (n+9) 24 [encT t, encPm p, encFm s ms] = ok (.bl (fltA t s ms p).isEmpty) := by
  have e : run G (n+9) 24 [encT t, encPm p, encFm s ms] = (exSs (run G (n+8)) d_fits.body [some (encT t), some (encPm p), some (encFm s ms)]).res := rfl
  rw [e]
  simp (disch := (first | assumption | omega | exact rcv_str _ _ | with_unfolding_all rfl | (simp only [List.length_map]; unfold big; omega))) only [exL, List.set_cons_succ, List.set_cons_zero, ↓len_tup2, if_true, if_false, Bool.false_eq_true, id, Option.map_some, Bool.not_true, Bool.not_false, Bool.and_true, Bool.true_and, Bool.and_false, Bool.false_and, Bool.or_false, Bool.false_or, Bool.or_true, Bool.true_or, beq_self_eq_true, Option.isSome_some, Option.isSome_none, d_fits, faults_any n hg hp hf, eq_Ft_nil]
theorem law_wrong_ok (n : Nat) {t : Tab} (hg : Good t) {p : List (List Wd)} (hp : IsPoem t p) {s : St} {ms : List St} (hf : IsForm s ms) : run G (n+4) 41 [encT t, encPm p, encFm s ms] = ok (.lst ((fltA t s ms p).map encFt)) := by
  have e : run G (n+4) 41 [encT t, encPm p, encFm s ms] = (exSs (run G (n+3)) d__law_wrong.body [some (encT t), some (.tup (p.map encLnP)), some (.tup [.str s, .tup (ms.map D.str)]), none, none, none, none, none, none, none, none, none]).res := rfl
  unfold fltA
  by_cases hl : p.length = s.length
  · rw [if_pos hl]
    have i2 : ((p.length : Int) == (s.length : Int)) = true := by rw [hl]; simp
    obtain ⟨a8, a9, q⟩ := wrong_1 n hg hp hf hl (some (.tup (p.map encLnP))) (some (.tup [.str s, .tup (ms.map D.str)])) p [] [] none none rfl (by have := hp.l8; simp only [List.length_nil]; omega)
    rw [List.nil_append, show (([] : List (List Wd)).length) = 0 from rfl, ← List.range_eq_range'] at q
    have q' : forGo (bdy (run G (n+3)) (.tp [8, 9]) b__law_wrong_1) (enumL 0 (p.map encLnP)) [some (encT t), some (.tup (p.map encLnP)), some (.tup [.str s, .tup (ms.map D.str)]), some (.lst (((rowsP p).map (tailW t)).map D.str)), some (.str s), some (.tup (ms.map D.str)), some (.lst ((rowsP p).map encW)), some (.lst []), none, none, none, none] = .next [some (encT t), some (.tup (p.map encLnP)), some (.tup [.str s, .tup (ms.map D.str)]), some (.lst (((rowsP p).map (tailW t)).map D.str)), some (.str s), some (.tup (ms.map D.str)), some (.lst ((rowsP p).map encW)), some (.lst ((flt t s ms p).map encFt)), a8, a9, none, none] := q
    rw [e]
    simp (disch := (first | assumption | omega | exact rcv_str _ _ | with_unfolding_all rfl | (simp only [List.length_map]; unfold big; omega))) only [exL, List.set_cons_succ, List.set_cons_zero, ↓len_tup2, if_true, if_false, Bool.false_eq_true, id, Option.map_some, Bool.not_true, Bool.not_false, Bool.and_true, Bool.true_and, Bool.and_false, Bool.false_and, Bool.or_false, Bool.false_or, Bool.or_true, Bool.true_or, beq_self_eq_true, Option.isSome_some, Option.isSome_none, d__law_wrong, List.length_map, i2]
    rw [lc_map (enc := encLnP) (g := fun l => encW (l.getLastD ([], 0)))]
    · have er : p.map (fun l => encW (l.getLastD ([], 0))) = (rowsP p).map encW := by unfold rowsP; rw [List.map_map]; rfl
      rw [er]
      simp (disch := (first | assumption | omega | exact rcv_str _ _ | with_unfolding_all rfl | (simp only [List.length_map]; unfold big; omega))) only [exL, List.set_cons_succ, List.set_cons_zero, ↓len_tup2, if_true, if_false, Bool.false_eq_true, id, Option.map_some, Bool.not_true, Bool.not_false, Bool.and_true, Bool.true_and, Bool.and_false, Bool.false_and, Bool.or_false, Bool.false_or, Bool.or_true, Bool.true_or, beq_self_eq_true, Option.isSome_some, Option.isSome_none]
      rw [lc_map (enc := encW) (g := fun w => .str (tailW t w))]
      · have e2 : ((rowsP p).map fun w => D.str (tailW t w)) = ((rowsP p).map (tailW t)).map D.str := by rw [List.map_map]; rfl
        rw [e2]
        simp (disch := (first | assumption | omega | exact rcv_str _ _ | with_unfolding_all rfl | (simp only [List.length_map]; unfold big; omega))) only [exL, List.set_cons_succ, List.set_cons_zero, ↓len_tup2, if_true, if_false, Bool.false_eq_true, id, Option.map_some, Bool.not_true, Bool.not_false, Bool.and_true, Bool.true_and, Bool.and_false, Bool.false_and, Bool.or_false, Bool.false_or, Bool.or_true, Bool.true_or, beq_self_eq_true, Option.isSome_some, Option.isSome_none, q']
      · intro w hw
        obtain ⟨h, ht⟩ := law_tail_ok n hg (rowsP_word hp w hw)
        simp (disch := (first | assumption | omega | exact rcv_str _ _ | with_unfolding_all rfl | (simp only [List.length_map]; unfold big; omega))) only [exL, List.set_cons_succ, List.set_cons_zero, ↓len_tup2, if_true, if_false, Bool.false_eq_true, id, Option.map_some, Bool.not_true, Bool.not_false, Bool.and_true, Bool.true_and, Bool.and_false, Bool.false_and, Bool.or_false, Bool.false_or, Bool.or_true, Bool.true_or, beq_self_eq_true, Option.isSome_some, Option.isSome_none, ht]
    · intro l hl
      simp (disch := (first | assumption | omega | exact rcv_str _ _ | with_unfolding_all rfl | (simp only [List.length_map]; unfold big; omega))) only [exL, List.set_cons_succ, List.set_cons_zero, ↓len_tup2, if_true, if_false, Bool.false_eq_true, id, Option.map_some, Bool.not_true, Bool.not_false, Bool.and_true, Bool.true_and, Bool.and_false, Bool.false_and, Bool.or_false, Bool.false_or, Bool.or_true, Bool.true_or, beq_self_eq_true, Option.isSome_some, Option.isSome_none, neg1, ix_lastP (hp.ln l hl).1]
  · rw [if_neg hl]
    have i2 : ((p.length : Int) == (s.length : Int)) = false := beq_eq_false_iff_ne.mpr (by omega)
    rw [e]
    simp (disch := (first | assumption | omega | exact rcv_str _ _ | with_unfolding_all rfl | (simp only [List.length_map]; unfold big; omega))) only [exL, List.set_cons_succ, List.set_cons_zero, ↓len_tup2, if_true, if_false, Bool.false_eq_true, id, Option.map_some, Bool.not_true, Bool.not_false, Bool.and_true, Bool.true_and, Bool.and_false, Bool.false_and, Bool.or_false, Bool.false_or, Bool.or_true, Bool.true_or, beq_self_eq_true, Option.isSome_some, Option.isSome_none, d__law_wrong, List.length_map, i2]
    rfl

def schF : List St := [[65], [65, 65], [65, 66], [65, 65, 66], [65, 66, 65], [65, 66, 65, 66], [65, 65, 66, 66], [65, 66, 67, 66], [65, 65, 65], [65, 66, 66, 65]]
def metF : List St := [[47], [63], [47], [63, 47], [63, 63], [45, 47], [47], [47, 63]]
theorem schF_ok : ∀ s ∈ schF, 1 ≤ s.length ∧ s.length ≤ 4 ∧ isSch 0 s = true ∧ s.head? = some 65 := by decide +kernel
theorem metF_ok : ∀ m ∈ metF, 1 ≤ m.length ∧ m.length ≤ 16 ∧ (m.all fun c => decide (c ∈ metS)) = true := by decide +kernel
theorem law_form_ok (n : Nat) (ns : List Int) (a : Int) (ha : 0 ≤ a) (X Y : D) : ∃ s ms, IsForm s ms ∧ s.length ≤ 4 ∧ run G (n+3) 40 [.scr ns, .int a, X, Y] = ok (encFm s ms) := by
  have e : run G (n+3) 40 [.scr ns, .int a, X, Y] = (exSs (run G (n+2)) d__law_form.body [some (.scr ns), some (.int a), some X, some Y, none, none, none, none, none, none]).res := rfl
  have p0 := pk_nn (ns := ns) (k := a) (m := 10) (by decide)
  have p1 := pk_lt (ns := ns) (k := a) (m := 10) (by decide)
  have hi1 : ixD (.lst (schF.map D.str)) (.int (pk ns a 10)) = _ := ix_map [] p0 p1
  obtain ⟨s1, s4, ssc, _⟩ := schF_ok _ (getD_mem (l := schF) (i := (pk ns a 10).toNat) (z := []) (by show _ < 10; omega))
  generalize schF.getD (pk ns a 10).toNat [] = s at hi1 s1 s4 ssc
  simp only [schF, List.map_cons, List.map_nil] at hi1
  have r0 := pk_nn (ns := ns) (k := a + 1) (m := 2) (by decide)
  have r1 := pk_lt (ns := ns) (k := a + 1) (m := 2) (by decide)
  have hp10 := pick_ok n ns a 10 ha (by decide)
  have hp2 := pick_ok n ns (a + 1) 2 (by omega) (by decide)
  have hm4 : opD .mul (.int (pk ns (a + 1) 2)) (.int 4) = ok (.int (pk ns (a + 1) 2 * 4)) := op_mulr (by decide) (by decide)
  have hsh : 0 ≤ pk ns (a + 1) 2 * 4 ∧ pk ns (a + 1) 2 * 4 ≤ 4 := by omega
  generalize pk ns (a + 1) 2 * 4 = sh at hm4 hsh
  let f : Nat → Int := fun i => sh * (if (((0 : Int) + (i : Int)) % 2 == 0) = true then 1 else 0) + pk ns (a + 2 + (0 + (i : Int))) 4
  have f0 : ∀ i, 0 ≤ f i := fun i => by
    have q0 := pk_nn (ns := ns) (k := a + 2 + (0 + (i : Int))) (m := 4) (by decide)
    show 0 ≤ sh * (if (((0 : Int) + (i : Int)) % 2 == 0) = true then 1 else 0) + pk ns (a + 2 + (0 + (i : Int))) 4
    split <;> omega
  have f8 : ∀ i, f i < 8 := fun i => by
    have q1 := pk_lt (ns := ns) (k := a + 2 + (0 + (i : Int))) (m := 4) (by decide)
    show sh * (if (((0 : Int) + (i : Int)) % 2 == 0) = true then 1 else 0) + pk ns (a + 2 + (0 + (i : Int))) 4 < 8
    split <;> omega
  have hr : rangeL 0 ((s.length : Int)).toNat = (List.range s.length).map fun i : Nat => D.int (0 + (i : Int)) := by rw [Int.toNat_natCast]; rfl
  have hli : ((s.length : Int)) ≤ 4000000 := by omega
  have hint : ∀ k : Bool, b1D .int (.bl k) = ok (.int (if k = true then 1 else 0)) := fun k => rfl
  have hmd : ∀ i : Nat, opD .mod (.int (0 + (i : Int))) (.int 2) = ok (.int ((0 + (i : Int)) % 2)) := fun i => rfl
  have lc7 : ∀ M : D, lcGo (lcF (run G (n+2)) (.nm 8) .no (.bin .add (.bin .mul (.v 6) (.b1 .int (.cmp .eq (.bin .mod (.v 8) (.c (.int 2))) (.c (.int 0))))) (.call 26 (.cons (.v 0) (.cons (.bin .add (.bin .add (.v 1) (.c (.int 2))) (.v 8)) (.cons (.c (.int 4)) .nil))))) [some (.scr ns), some (.int a), some X, some Y, some (.str s), some M, some (.int sh), none, none, none]) ((List.range s.length).map fun i : Nat => D.int (0 + (i : Int))) = ok ((List.range s.length).map fun i => .int (f i)) := fun M => by
    apply lc_map
    intro i _
    have hmu : ∀ z : Int, opD .mul (.int sh) (.int z) = ok (.int (sh * z)) := fun z => op_mull (by omega) (by omega)
    simp (disch := (first | assumption | omega | exact rcv_str _ _ | with_unfolding_all rfl | (simp only [List.length_map]; unfold big; omega))) only [exL, List.set_cons_succ, List.set_cons_zero, ↓len_tup2, if_true, if_false, Bool.false_eq_true, id, Option.map_some, Bool.not_true, Bool.not_false, Bool.and_true, Bool.true_and, Bool.and_false, Bool.false_and, Bool.or_false, Bool.false_or, Bool.or_true, Bool.true_or, beq_self_eq_true, Option.isSome_some, Option.isSome_none, hmd, hint, hmu, pick_ok n ns (a + 2 + (0 + (i : Int))) 4 (by omega) (by decide)]
    rfl
  have lc9 : ∀ P : D, lcGo (lcF (run G (n+2)) (.nm 9) .no (.ix (.v 5) (.v 9)) [some (.scr ns), some (.int a), some X, some Y, some (.str s), some (.lst (metF.map D.str)), some (.int sh), some P, none, none]) ((List.range s.length).map fun i => .int (f i)) = ok (((List.range s.length).map fun i => metF.getD (f i).toNat []).map D.str) := fun P => by
    rw [List.map_map]
    apply lc_map
    intro i _
    have hix : ixD (.lst (metF.map D.str)) (.int (f i)) = ok (.str (metF.getD (f i).toNat [])) := ix_map [] (f0 i) (f8 i)
    simp (disch := (first | assumption | omega | exact rcv_str _ _ | with_unfolding_all rfl | (simp only [List.length_map]; unfold big; omega))) only [exL, List.set_cons_succ, List.set_cons_zero, ↓len_tup2, if_true, if_false, Bool.false_eq_true, id, Option.map_some, Bool.not_true, Bool.not_false, Bool.and_true, Bool.true_and, Bool.and_false, Bool.false_and, Bool.or_false, Bool.false_or, Bool.or_true, Bool.true_or, beq_self_eq_true, Option.isSome_some, Option.isSome_none, hix]
    rfl
  refine ⟨s, (List.range s.length).map fun i => metF.getD (f i).toNat [], ⟨s1, by omega, ssc, by simp, fun m hm => ?_⟩, s4, ?_⟩
  · obtain ⟨i, _, rfl⟩ := List.mem_map.mp hm
    obtain ⟨m1, m16, mc⟩ := metF_ok _ (getD_mem (l := metF) (i := (f i).toNat) (z := []) (by have := f0 i; have := f8 i; show _ < 8; omega))
    exact ⟨m1, m16, fun c hc => by simpa using List.all_eq_true.mp mc c hc⟩
  · simp only [metF, List.map_cons, List.map_nil] at lc9
    rw [e]
    simp (disch := (first | assumption | omega | exact rcv_str _ _ | with_unfolding_all rfl | (simp only [List.length_map]; unfold big; omega))) only [exL, List.set_cons_succ, List.set_cons_zero, ↓len_tup2, if_true, if_false, Bool.false_eq_true, id, Option.map_some, Bool.not_true, Bool.not_false, Bool.and_true, Bool.true_and, Bool.and_false, Bool.false_and, Bool.or_false, Bool.false_or, Bool.or_true, Bool.true_or, beq_self_eq_true, Option.isSome_some, Option.isSome_none, d__law_form, hp10, hi1, hp2, hm4, hr, lc7, lc9]
    rfl

theorem lc_none {f : D → Res (Option D)} : ∀ {l : List D}, (∀ x ∈ l, f x = ok none) → lcGo f l = ok []
  | [], _ => rfl
  | x :: r, h => by
    rw [lcGo, h x List.mem_cons_self, bind_ok, lc_none fun y hy => h y (List.mem_cons_of_mem _ hy)]
    rfl
theorem form_no_ty (n : Nat) (X : D) (h : isiD [.tuple] X = ok (.bl false)) : run G (n+1) 19 [X] = ok (.bl false) := by
  have e : run G (n+1) 19 [X] = (exSs (run G n) d_is_form.body [some X, none]).res := rfl
  have hs : ∀ r : Res D, kTst (ok (.bl true)) (ok (.bl true)) r = ok (.bl true) := fun r => rfl
  rw [e]
  simp only [d_is_form, xs_cons, x_ite, v_or, v_or2, v_not, v_isi, v_v, g_hit, g_next, k1_ok, h, kNot_ok, Bool.not_false, hs, kIte_t, x_ret, v_c, kRet_ok, sq_ret, res_ret]
theorem form_no_len (n : Nat) (xs : List D) (h : xs.length ≠ 2) : run G (n+1) 19 [.tup xs] = ok (.bl false) := by
  have e : run G (n+1) 19 [.tup xs] = (exSs (run G n) d_is_form.body [some (.tup xs), none]).res := rfl
  have i1 : ((xs.length : Int) == 2) = false := beq_eq_false_iff_ne.mpr (by omega)
  rw [e]
  simp (disch := (first | assumption | omega | exact rcv_str _ _ | with_unfolding_all rfl | (simp only [List.length_map]; unfold big; omega))) only [exL, List.set_cons_succ, List.set_cons_zero, ↓len_tup2, if_true, if_false, Bool.false_eq_true, id, Option.map_some, Bool.not_true, Bool.not_false, Bool.and_true, Bool.true_and, Bool.and_false, Bool.false_and, Bool.or_false, Bool.false_or, Bool.or_true, Bool.true_or, beq_self_eq_true, Option.isSome_some, Option.isSome_none, d_is_form, i1]
theorem form_no_b (ms : D) : run G 19 19 [.tup [.str [66], ms]] = ok (.bl false) := by
  have e : run G 19 19 [.tup [.str [66], ms]] = (exSs (run G 18) d_is_form.body [some (.tup [.str [66], ms]), none]).res := rfl
  have q : run G 18 17 [.str [66]] = ok (.bl false) := by rfl
  have i1 : (((2 : Nat) : Int) == 2) = true := rfl
  rw [e]
  simp (disch := (first | assumption | omega | exact rcv_str _ _ | with_unfolding_all rfl | (simp only [List.length_map]; unfold big; omega))) only [exL, List.set_cons_succ, List.set_cons_zero, ↓len_tup2, if_true, if_false, Bool.false_eq_true, id, Option.map_some, Bool.not_true, Bool.not_false, Bool.and_true, Bool.true_and, Bool.and_false, Bool.false_and, Bool.or_false, Bool.false_or, Bool.or_true, Bool.true_or, beq_self_eq_true, Option.isSome_some, Option.isSome_none, d_is_form, q]
theorem form_no_m (n : Nat) {s : St} (h1 : 1 ≤ s.length) (h8 : s.length ≤ 8) (hs : isSch 0 s = true) (xs : List D) : run G (n+2) 19 [.tup [.str s, .lst xs]] = ok (.bl false) := by
  have e : run G (n+2) 19 [.tup [.str s, .lst xs]] = (exSs (run G (n+1)) d_is_form.body [some (.tup [.str s, .lst xs]), none]).res := rfl
  have hi : isiD [.tuple] (.lst xs) = ok (.bl false) := rfl
  rw [e]
  simp (disch := (first | assumption | omega | exact rcv_str _ _ | with_unfolding_all rfl | (simp only [List.length_map]; unfold big; omega))) only [exL, List.set_cons_succ, List.set_cons_zero, ↓len_tup2, if_true, if_false, Bool.false_eq_true, id, Option.map_some, Bool.not_true, Bool.not_false, Bool.and_true, Bool.true_and, Bool.and_false, Bool.false_and, Bool.or_false, Bool.false_or, Bool.or_true, Bool.true_or, beq_self_eq_true, Option.isSome_some, Option.isSome_none, d_is_form, is_scheme_ok n s h1 h8 hs, hi]
theorem form_no_k (n : Nat) {s : St} (h1 : 1 ≤ s.length) (h8 : s.length ≤ 8) (hs : isSch 0 s = true) (xs : List D) (hx : xs.length ≠ s.length) : run G (n+2) 19 [.tup [.str s, .tup xs]] = ok (.bl false) := by
  have e : run G (n+2) 19 [.tup [.str s, .tup xs]] = (exSs (run G (n+1)) d_is_form.body [some (.tup [.str s, .tup xs]), none]).res := rfl
  have i1 : ((xs.length : Int) == (s.length : Int)) = false := beq_eq_false_iff_ne.mpr (by omega)
  rw [e]
  simp (disch := (first | assumption | omega | exact rcv_str _ _ | with_unfolding_all rfl | (simp only [List.length_map]; unfold big; omega))) only [exL, List.set_cons_succ, List.set_cons_zero, ↓len_tup2, if_true, if_false, Bool.false_eq_true, id, Option.map_some, Bool.not_true, Bool.not_false, Bool.and_true, Bool.true_and, Bool.and_false, Bool.false_and, Bool.or_false, Bool.false_or, Bool.or_true, Bool.true_or, beq_self_eq_true, Option.isSome_some, Option.isSome_none, d_is_form, is_scheme_ok n s h1 h8 hs, i1]
theorem poem_loop {t : Tab} {b : List Wd} (hbl : 0 < b.length) (ns : List Int) (J : Nat) (hJ : J ≤ 8) (e1 e3 e4 : Option D) : ∃ (p : List (List Wd)) (o6 o11 o12 : Option D), forGo (bdy (run G 19) (.nm 6) b_law_1) ((List.range J).map fun i : Nat => D.int (0 + (i : Int))) [some (.scr ns), e1, some (.tup (b.map encW)), e3, e4, some (.tup []), none, none, none, none, none, none, none, none, none, none, none]
    = .next [some (.scr ns), e1, some (.tup (b.map encW)), e3, e4, some (encPm p), o6, none, none, none, none, o11, o12, none, none, none, none] ∧ p.length = J ∧ ∀ l ∈ p, 1 ≤ l.length ∧ l.length ≤ 3 ∧ ∀ w ∈ l, w ∈ b := by
  obtain ⟨ρ', q1, p, o6, o11, o12, rfl, q2, q3⟩ := for_ofl (enc := fun i : Nat => D.int (0 + (i : Int))) (f := bdy (run G 19) (.nm 6) b_law_1) (l := List.range J)
    (R := fun l1 ρ => ∃ (p : List (List Wd)) (o6 o11 o12 : Option D), ρ = [some (.scr ns), e1, some (.tup (b.map encW)), e3, e4, some (encPm p), o6, none, none, none, none, o11, o12, none, none, none, none] ∧ p.length = l1.length ∧ ∀ l ∈ p, 1 ≤ l.length ∧ l.length ≤ 3 ∧ ∀ w ∈ l, w ∈ b)
    (ρ := [some (.scr ns), e1, some (.tup (b.map encW)), e3, e4, some (.tup []), none, none, none, none, none, none, none, none, none, none, none]) (by
      rintro l1 i l2 ρ hx ⟨p, o6, o11, o12, rfl, h1, h2⟩
      have hll : l1.length ≤ 8 := by
        have := congrArg List.length hx
        rw [List.length_append, List.length_range] at this
        omega
      have p0 := pk_nn (ns := ns) (k := 301 + (0 + (i : Int))) (m := 2) (by decide)
      have p1 := pk_lt (ns := ns) (k := 301 + (0 + (i : Int))) (m := 2) (by decide)
      have hpk := pick_ok 17 ns (301 + (0 + (i : Int))) 2 (by omega) (by decide)
      have hr : rangeL 0 (1 + pk ns (301 + (0 + (i : Int))) 2).toNat = (List.range (1 + (pk ns (301 + (0 + (i : Int))) 2).toNat)).map fun j : Nat => D.int (0 + (j : Int)) := by
        rw [show (1 + pk ns (301 + (0 + (i : Int))) 2).toNat = 1 + (pk ns (301 + (0 + (i : Int))) 2).toNat by omega]
        rfl
      let f : Nat → Int := fun j => pk ns (310 + 4 * (0 + (i : Int)) + (0 + (j : Int))) b.length
      have f0 : ∀ j, 0 ≤ f j := fun j => pk_nn (by omega)
      have f1 : ∀ j, f j < b.length := fun j => pk_lt (by omega)
      have hm4 : opD .mul (.int 4) (.int (0 + (i : Int))) = ok (.int (4 * (0 + (i : Int)))) := op_mull (by decide) (by decide)
      have hl9 : ∀ o5 o11 o12, lcGo (lcF (run G 19) (.nm 13) .no (.call 26 (.cons (.v 0) (.cons (.bin .add (.bin .add (.c (.int 310)) (.bin .mul (.c (.int 4)) (.v 6))) (.v 13)) (.cons (.b1 .len (.v 2)) .nil)))) [some (.scr ns), e1, some (.tup (b.map encW)), e3, e4, o5, some (.int (0 + (i : Int))), none, none, none, none, o11, o12, none, none, none, none]) ((List.range (1 + (pk ns (301 + (0 + (i : Int))) 2).toNat)).map fun j : Nat => D.int (0 + (j : Int))) = ok ((List.range (1 + (pk ns (301 + (0 + (i : Int))) 2).toNat)).map fun j => .int (f j)) := fun o5 o11 o12 => by
        apply lc_map
        intro j _
        simp (disch := (first | assumption | omega | exact rcv_str _ _ | with_unfolding_all rfl | (simp only [List.length_map]; unfold big; omega))) only [exL, List.set_cons_succ, List.set_cons_zero, ↓len_tup2, if_true, if_false, Bool.false_eq_true, id, Option.map_some, Bool.not_true, Bool.not_false, Bool.and_true, Bool.true_and, Bool.and_false, Bool.false_and, Bool.or_false, Bool.false_or, Bool.or_true, Bool.true_or, beq_self_eq_true, Option.isSome_some, Option.isSome_none, hm4, List.length_map, pick_ok 17 ns (310 + 4 * (0 + (i : Int)) + (0 + (j : Int))) b.length (by omega) (by omega)]
        rfl
      have hl12 : ∀ o5 o11 o12, lcGo (lcF (run G 19) (.nm 16) .no (.ix (.v 2) (.v 16)) [some (.scr ns), e1, some (.tup (b.map encW)), e3, e4, o5, some (.int (0 + (i : Int))), none, none, none, none, o11, o12, none, none, none, none]) ((List.range (1 + (pk ns (301 + (0 + (i : Int))) 2).toNat)).map fun j => .int (f j)) = ok (((List.range (1 + (pk ns (301 + (0 + (i : Int))) 2).toNat)).map fun j => b.getD (f j).toNat ([], 0)).map encW) := fun o5 o11 o12 => by
        rw [List.map_map]
        apply lc_map
        intro j _
        have hix : ixD (.tup (b.map encW)) (.int (f j)) = ok (encW (b.getD (f j).toNat ([], 0))) := ix_mapT _ (f0 j) (f1 j)
        simp (disch := (first | assumption | omega | exact rcv_str _ _ | with_unfolding_all rfl | (simp only [List.length_map]; unfold big; omega))) only [exL, List.set_cons_succ, List.set_cons_zero, ↓len_tup2, if_true, if_false, Bool.false_eq_true, id, Option.map_some, Bool.not_true, Bool.not_false, Bool.and_true, Bool.true_and, Bool.and_false, Bool.false_and, Bool.or_false, Bool.false_or, Bool.or_true, Bool.true_or, beq_self_eq_true, Option.isSome_some, Option.isSome_none, hix]
        rfl
      have hw : ∀ w ∈ (List.range (1 + (pk ns (301 + (0 + (i : Int))) 2).toNat)).map fun j => b.getD (f j).toNat ([], 0), w ∈ b := fun w hw => by
        obtain ⟨j, _, rfl⟩ := List.mem_map.mp hw
        exact getD_mem (by have := f0 j; have := f1 j; omega)
      have hl1 : 1 ≤ ((List.range (1 + (pk ns (301 + (0 + (i : Int))) 2).toNat)).map fun j => b.getD (f j).toNat ([], 0)).length := by simp
      have hl3 : ((List.range (1 + (pk ns (301 + (0 + (i : Int))) 2).toNat)).map fun j => b.getD (f j).toNat ([], 0)).length ≤ 3 := by rw [List.length_map, List.length_range]; omega
      generalize (List.range (1 + (pk ns (301 + (0 + (i : Int))) 2).toNat)).map (fun j => b.getD (f j).toNat ([], 0)) = L at hl12 hw hl1 hl3
      have hadd : opD .add (encPm p) (.tup [.tup (L.map encW)]) = ok (encPm (p ++ [L])) := by
        have : opD .add (encPm p) (.tup [.tup (L.map encW)]) = ok (.tup (p.map encLnP ++ [.tup (L.map encW)])) := if_pos (by rw [List.length_map, List.length_singleton]; unfold big; omega)
        rw [this]
        unfold encPm
        rw [List.map_append]
        rfl
      refine ⟨[some (.scr ns), e1, some (.tup (b.map encW)), e3, e4, some (encPm (p ++ [L])), some (.int (0 + (i : Int))), none, none, none, none, some (.int (1 + pk ns (301 + (0 + (i : Int))) 2)), some (.lst ((List.range (1 + (pk ns (301 + (0 + (i : Int))) 2).toNat)).map fun j => .int (f j))), none, none, none, none], ?_, p ++ [L], _, _, _, rfl, by simp [h1], fun l hl => ?_⟩
      · simp (disch := (first | assumption | omega | exact rcv_str _ _ | with_unfolding_all rfl | (simp only [List.length_map]; unfold big; omega))) only [exL, List.set_cons_succ, List.set_cons_zero, ↓len_tup2, if_true, if_false, Bool.false_eq_true, id, Option.map_some, Bool.not_true, Bool.not_false, Bool.and_true, Bool.true_and, Bool.and_false, Bool.false_and, Bool.or_false, Bool.false_or, Bool.or_true, Bool.true_or, beq_self_eq_true, Option.isSome_some, Option.isSome_none, b_law_1, hpk, hr, hl9, hl12, hadd]
      · rcases List.mem_append.mp hl with q | q
        · exact h2 l q
        · rw [List.mem_singleton.mp q]; exact ⟨hl1, hl3, hw⟩) ⟨[], none, none, none, rfl, rfl, fun l hl => by cases hl⟩
  refine ⟨p, o6, o11, o12, q1, ?_, q3⟩
  rw [q2, List.length_range]

theorem ix_lastL {p : List (List Wd)} (h : 1 ≤ p.length) : ixD (encPm p) (.int (-1)) = ok (encLnP (p.getLastD [])) := by
  have hne : p ≠ [] := fun z => by rw [z] at h; simp at h
  have e : ixD (encPm p) (.int (-1)) = ofO (atI (p.map encLnP) (-1)) := rfl
  have e2 : ixN (p.map encLnP).length (-1) = some (p.length - 1) := by
    rw [List.length_map]
    unfold ixN
    rw [if_neg (by omega), if_pos (by omega)]
    congr 1
    omega
  rw [e, atI, e2, Option.bind_some, List.getElem?_map, ← List.getLast?_eq_getElem?, List.getLastD_eq_getLast?, List.getLast?_eq_some_getLast hne]
  rfl
theorem runs (ns : List Int) (_ : ns.length ≤ 63) : run G 20 42 [.scr ns] = .ok (.bl true) := by
  have e : run G 20 42 [.scr ns] = (exSs (run G 19) d_law.body [some (.scr ns), none, none, none, none, none, none, none, none, none, none, none, none, none, none, none, none]).res := rfl
  obtain ⟨t, hg, ht⟩ := law_table_ok 16 ns 10 (by decide)
  obtain ⟨b, hb, hl9, h4, hbk⟩ := rich_book_ok 15 ns 100 8 (by decide) (by decide) hg
  have hbk' : run G 19 32 [.scr ns, .int 100, encT t, .int 8] = ok (.tup (b.map encW)) := hbk
  obtain ⟨s, ms, hf, s4, hfm⟩ := law_form_ok 16 ns 60 (by decide) (encT t) (.tup (b.map encW))
  have hfm' : run G 19 40 [.scr ns, .int 60, encT t, .tup (b.map encW)] = ok (.tup [.str s, .tup (ms.map D.str)]) := hfm
  have hif : run G 19 19 [.tup [.str s, .tup (ms.map D.str)]] = ok (.bl true) := is_form_ok 17 hf
  have hnil := eq_W_nil b
  rw [e]
  cases hbe : b.isEmpty with
  | true =>
    rw [hbe] at hnil
    simp (disch := (first | assumption | omega | exact rcv_str _ _ | with_unfolding_all rfl | (simp only [List.length_map]; unfold big; omega))) only [exL, List.set_cons_succ, List.set_cons_zero, ↓len_tup2, if_true, if_false, Bool.false_eq_true, id, Option.map_some, Bool.not_true, Bool.not_false, Bool.and_true, Bool.true_and, Bool.and_false, Bool.false_and, Bool.or_false, Bool.false_or, Bool.or_true, Bool.true_or, beq_self_eq_true, Option.isSome_some, Option.isSome_none, d_law, ht, hbk', hfm', hif, hnil]
  | false =>
    rw [hbe] at hnil
    have hbl : 0 < b.length := by
      cases b with
      | nil => cases hbe
      | cons x r => simp
    have s1 := hf.l1
    have hp300 := pick_ok 17 ns 300 6 (by decide) (by decide)
    have hint : ∀ k : Bool, b1D .int (.bl k) = ok (.int (if k = true then 1 else 0)) := fun k => rfl
    obtain ⟨J, hJ1, hJ8, hJ⟩ : ∃ J : Nat, 1 ≤ J ∧ J ≤ 5 ∧ (s.length : Int) + (if (pk ns 300 6 == 0) = true then 1 else 0) = (J : Int) := by
      by_cases h : (pk ns 300 6 == 0) = true
      · exact ⟨s.length + 1, by omega, by omega, by rw [if_pos h]; omega⟩
      · exact ⟨s.length, by omega, by omega, by rw [if_neg h]; omega⟩
    have hr : rangeL 0 ((J : Int)).toNat = (List.range J).map fun i : Nat => D.int (0 + (i : Int)) := by rw [Int.toNat_natCast]; rfl
    have hJi : ((J : Int)) ≤ 4000000 := by omega
    obtain ⟨p, o6, o11, o12, hlp, hpl, hpw⟩ := poem_loop (t := t) hbl ns J (by omega) (some (encT t)) (some (.tup [.str s, .tup (ms.map D.str)])) (some (.int (J : Int)))
    have hP : IsPoem t p := ⟨by omega, by omega, fun l hl => ⟨(hpw l hl).1, by have := (hpw l hl).2.1; omega, fun w hw => hb.wd w ((hpw l hl).2.2 w hw)⟩⟩
    have hlm : p.getLastD [] ∈ p := by
      have hne : p ≠ [] := fun z => by rw [z] at hpl; simp at hpl; omega
      rw [List.getLastD_eq_getLast?, List.getLast?_eq_some_getLast hne]
      exact List.getLast_mem hne
    have x1 := ix_lastL (p := p) (by omega)
    have x2 := ix_lastP (hpw _ hlm).1
    generalize (p.getLastD []).getLastD ([], 0) = w at x2
    generalize p.getLastD [] = ll at x1 x2
    have y0 : ixD (encW w) (.int 0) = ok (.str w.1) := rfl
    have y1 : ixD (encW w) (.int 1) = ok (.int w.2) := rfl
    obtain ⟨bb, hw1, hw2⟩ := law_is_word_ok 16 hg (w.1, 3 - w.2)
    have hw1' : run G 19 31 [encT t, .tup [.str w.1, .int (3 - w.2)]] = ok (.bl bb) := hw1
    have hn1 : ∀ ρ, ev (run G 19) (.neg (.c (.int 1))) ρ = ok (.int (-1)) := neg1 _
    have hlenP : b1D .len (encPm p) = ok (.int (p.length : Int)) := by simp [encPm, b1D]
    have hE : ∀ X : List (Nat × St), eqD (.lst (X.map encFt)) (.lst (X.map encFt)) = ok true := fun X => by rw [eq_Fts, decide_eq_true rfl]
    have hWs : ∀ l : List Wd, eqD (.lst (l.map encW)) (.lst (l.map encW)) = ok true := fun l => by rw [eq_Ws, decide_eq_true rfl]
    have hkb : ∀ q, itemsOf (encPm q) = some (q.map encLnP) := fun q => rfl
    have lcL : ∀ (q : List (List Wd)), IsPoem t q → ∀ a0 a1 a2 a3 a4 a5 a6 a7 a8 a9 a10 a11 a12 a13 a14 a15 a16 : Option D, lcGo (lcF (run G 19) (.nm 15) .no (.ix (.v 15) (.neg (.c (.int 1)))) [a0, a1, a2, a3, a4, a5, a6, a7, a8, a9, a10, a11, a12, a13, a14, a15, a16]) (q.map encLnP) = ok ((rowsP q).map encW) := by
      intro q hq
      intros
      unfold rowsP
      rw [List.map_map]
      apply lc_map
      intro l hl
      simp (disch := (first | assumption | omega | exact rcv_str _ _ | with_unfolding_all rfl | (simp only [List.length_map]; unfold big; omega))) only [exL, List.set_cons_succ, List.set_cons_zero, ↓len_tup2, if_true, if_false, Bool.false_eq_true, id, Option.map_some, Bool.not_true, Bool.not_false, Bool.and_true, Bool.true_and, Bool.and_false, Bool.false_and, Bool.or_false, Bool.false_or, Bool.or_true, Bool.true_or, beq_self_eq_true, Option.isSome_some, Option.isSome_none, neg1, ix_lastP (hq.ln l hl).1]
      rfl
    have o1 := form_no_ty 18 .non rfl
    have o2 := form_no_len 18 [.str s] (by simp)
    have o3 := form_no_k 17 hf.l1 hf.l8 hf.sc (ms.map D.str ++ [.str [47]]) (by have := hf.ml; rw [List.length_append, List.length_map]; simp; omega)
    have o4 := form_no_b (.tup (ms.map D.str))
    have o5 := form_no_ty 18 (.lst [.str s, .tup (ms.map D.str)]) rfl
    have o6' := form_no_m 17 hf.l1 hf.l8 hf.sc (ms.map D.str)
    have o7 := form_no_len 18 [.str s, .tup (ms.map D.str), .int 1] (by simp)
    have hadd1 : opD .add (.tup (ms.map D.str)) (.tup [.str [47]]) = ok (.tup (ms.map D.str ++ [.str [47]])) := if_pos (by rw [List.length_map, List.length_singleton]; have := hf.ml; have := hf.l8; unfold big; omega)
    have hadd2 : opD .add (.tup [.str s, .tup (ms.map D.str)]) (.tup [.int 1]) = ok (.tup [.str s, .tup (ms.map D.str), .int 1]) := rfl
    have hext : ∀ (a b c d e f g : D) (ρ : Env) (i : Nat), kExt (ok (.lst [a, b, c, d, e])) (ok (.lst [f, g])) ρ i = .next (ρ.set i (some (.lst [a, b, c, d, e, f, g]))) := fun a b c d e f g ρ i => rfl
    have lcO : ∀ a0 a1 a2 a3 a4 a5 a6 a7 a8 a9 a10 a11 a12 a13 a14 a15 a16 : Option D, lcGo (lcF (run G 19) (.nm 14) (.yes (.cmp .isnot (.call 19 (.cons (.v 14) .nil)) (.c (.bl false)))) (.v 14) [a0, a1, a2, a3, a4, a5, a6, a7, a8, a9, a10, a11, a12, a13, a14, a15, a16]) [.non, .tup [.str s], .tup [.str s, .tup (ms.map D.str ++ [.str [47]])], .tup [.str [66], .tup (ms.map D.str)], .lst [.str s, .tup (ms.map D.str)], .tup [.str s, .lst (ms.map D.str)], .tup [.str s, .tup (ms.map D.str), .int 1]] = ok [] := by
      intros
      apply lc_none
      intro x hx
      have hx' : x = .non ∨ x = .tup [.str s] ∨ x = .tup [.str s, .tup (ms.map D.str ++ [.str [47]])] ∨ x = .tup [.str [66], .tup (ms.map D.str)] ∨ x = .lst [.str s, .tup (ms.map D.str)] ∨ x = .tup [.str s, .lst (ms.map D.str)] ∨ x = .tup [.str s, .tup (ms.map D.str), .int 1] := by simpa using hx
      have hfx : run G 19 19 [x] = ok (.bl false) := by
        rcases hx' with rfl | rfl | rfl | rfl | rfl | rfl | rfl
        · exact o1
        · exact o2
        · exact o3
        · exact o4
        · exact o5
        · exact o6'
        · exact o7
      simp (disch := (first | assumption | omega | exact rcv_str _ _ | with_unfolding_all rfl | (simp only [List.length_map]; unfold big; omega))) only [exL, List.set_cons_succ, List.set_cons_zero, ↓len_tup2, if_true, if_false, Bool.false_eq_true, id, Option.map_some, Bool.not_true, Bool.not_false, Bool.and_true, Bool.true_and, Bool.and_false, Bool.false_and, Bool.or_false, Bool.false_or, Bool.or_true, Bool.true_or, beq_self_eq_true, Option.isSome_some, Option.isSome_none, hfx]
    cases bb with
    | false =>
      have qw : run G 19 41 [encT t, encPm p, .tup [.str s, .tup (ms.map D.str)]] = _ := law_wrong_ok 15 hg hP hf
      have qf : run G 19 23 [encT t, encPm p, .tup [.str s, .tup (ms.map D.str)]] = _ := faults_any 11 hg hP hf
      have qi : run G 19 24 [encT t, encPm p, .tup [.str s, .tup (ms.map D.str)]] = _ := fits_any 10 hg hP hf
      have qe := end_words_ok 13 hg hP
      have hN := eq_Ft_nil (fltA t s ms p)
      have lcl := lcL p hP
      have lln : eqD (.lst []) (.lst []) = ok true := rfl
      cases hem : (fltA t s ms p).isEmpty <;> rw [hem] at hN qi <;> simp (disch := (first | assumption | omega | exact rcv_str _ _ | with_unfolding_all rfl | (simp only [List.length_map]; unfold big; omega))) only [exL, List.set_cons_succ, List.set_cons_zero, ↓len_tup2, if_true, if_false, Bool.false_eq_true, id, Option.map_some, Bool.not_true, Bool.not_false, Bool.and_true, Bool.true_and, Bool.and_false, Bool.false_and, Bool.or_false, Bool.false_or, Bool.or_true, Bool.true_or, beq_self_eq_true, Option.isSome_some, Option.isSome_none, d_law, ht, hbk', hfm', hif, hnil, hp300, hint, hJ, hr, hlp, hn1, x1, x2, y0, y1, hw1', hlenP, qw, qf, hE, qe, hkb, lcl, hWs, hadd1, hadd2, hext, lcO, lln, hN, qi, List.cons_append, List.nil_append]
    | true =>
      by_cases h4' : p.length < 4
      · have hd : decide ((p.length : Int) < 4) = true := decide_eq_true (by omega)
        have hO := hw2 rfl
        have hP2 : IsPoem t (p ++ [[(w.1, 3 - w.2)]]) := ⟨by rw [List.length_append]; simp, by rw [List.length_append, List.length_singleton]; omega, fun l hl => by
          rcases List.mem_append.mp hl with q | q
          · exact hP.ln l q
          · rw [List.mem_singleton.mp q]
            exact ⟨by simp, by simp, fun x hx => by rw [List.mem_singleton.mp hx]; exact hO⟩⟩
        have hadd : opD .add (encPm p) (.tup [.tup [.tup [.str w.1, .int (3 - w.2)]]]) = ok (encPm (p ++ [[(w.1, 3 - w.2)]])) := by
          have : opD .add (encPm p) (.tup [.tup [.tup [.str w.1, .int (3 - w.2)]]]) = ok (.tup (p.map encLnP ++ [.tup [.tup [.str w.1, .int (3 - w.2)]]])) := if_pos (by rw [List.length_map, List.length_singleton]; unfold big; omega)
          rw [this]
          unfold encPm
          rw [List.map_append]
          rfl
        have qw : run G 19 41 [encT t, encPm (p ++ [[(w.1, 3 - w.2)]]), .tup [.str s, .tup (ms.map D.str)]] = _ := law_wrong_ok 15 hg hP2 hf
        have qf : run G 19 23 [encT t, encPm (p ++ [[(w.1, 3 - w.2)]]), .tup [.str s, .tup (ms.map D.str)]] = _ := faults_any 11 hg hP2 hf
        have qi : run G 19 24 [encT t, encPm (p ++ [[(w.1, 3 - w.2)]]), .tup [.str s, .tup (ms.map D.str)]] = _ := fits_any 10 hg hP2 hf
        have qe := end_words_ok 13 hg hP2
        have hN := eq_Ft_nil (fltA t s ms (p ++ [[(w.1, 3 - w.2)]]))
        have lcl := lcL (p ++ [[(w.1, 3 - w.2)]]) hP2
        have lln : eqD (.lst []) (.lst []) = ok true := rfl
        cases hem : (fltA t s ms (p ++ [[(w.1, 3 - w.2)]])).isEmpty <;> rw [hem] at hN qi <;> simp (disch := (first | assumption | omega | exact rcv_str _ _ | with_unfolding_all rfl | (simp only [List.length_map]; unfold big; omega))) only [exL, List.set_cons_succ, List.set_cons_zero, ↓len_tup2, if_true, if_false, Bool.false_eq_true, id, Option.map_some, Bool.not_true, Bool.not_false, Bool.and_true, Bool.true_and, Bool.and_false, Bool.false_and, Bool.or_false, Bool.false_or, Bool.or_true, Bool.true_or, beq_self_eq_true, Option.isSome_some, Option.isSome_none, d_law, ht, hbk', hfm', hif, hnil, hp300, hint, hJ, hr, hlp, hn1, x1, x2, y0, y1, hw1', hlenP, hd, hadd, qw, qf, hE, qe, hkb, lcl, hWs, hadd1, hadd2, hext, lcO, lln, hN, qi, List.cons_append, List.nil_append]
      · have hd : decide ((p.length : Int) < 4) = false := decide_eq_false (by omega)
        have qw : run G 19 41 [encT t, encPm p, .tup [.str s, .tup (ms.map D.str)]] = _ := law_wrong_ok 15 hg hP hf
        have qf : run G 19 23 [encT t, encPm p, .tup [.str s, .tup (ms.map D.str)]] = _ := faults_any 11 hg hP hf
        have qi : run G 19 24 [encT t, encPm p, .tup [.str s, .tup (ms.map D.str)]] = _ := fits_any 10 hg hP hf
        have qe := end_words_ok 13 hg hP
        have hN := eq_Ft_nil (fltA t s ms p)
        have lcl := lcL p hP
        have lln : eqD (.lst []) (.lst []) = ok true := rfl
        cases hem : (fltA t s ms p).isEmpty <;> rw [hem] at hN qi <;> simp (disch := (first | assumption | omega | exact rcv_str _ _ | with_unfolding_all rfl | (simp only [List.length_map]; unfold big; omega))) only [exL, List.set_cons_succ, List.set_cons_zero, ↓len_tup2, if_true, if_false, Bool.false_eq_true, id, Option.map_some, Bool.not_true, Bool.not_false, Bool.and_true, Bool.true_and, Bool.and_false, Bool.false_and, Bool.or_false, Bool.false_or, Bool.or_true, Bool.true_or, beq_self_eq_true, Option.isSome_some, Option.isSome_none, d_law, ht, hbk', hfm', hif, hnil, hp300, hint, hJ, hr, hlp, hn1, x1, x2, y0, y1, hw1', hlenP, hd, qw, qf, hE, qe, hkb, lcl, hWs, hadd1, hadd2, hext, lcO, lln, hN, qi, List.cons_append, List.nil_append]

end LW
namespace LW
open PySem PySem.Spec PyProof.Rows L2 VE
def top (i : Nat) : Stmt := PySem.Challenge.pw_verseends_k56_whole_faults.main.body.getD i (.Pass ⟨0, 0, 0, 0⟩)
def e_is_letters : Ent := { id := 0, nm := "is_letters", F := d_is_letters, N := ["thing", "least", "most", "sign"], st := top 13 }
def e_is_row : Ent := { id := 1, nm := "is_row", F := d_is_row, N := ["thing", "sign"], st := top 14 }
def e_is_table : Ent := { id := 2, nm := "is_table", F := d_is_table, N := ["thing", "some", "row"], st := top 15 }
def e_look_table : Ent := { id := 3, nm := "look_table", F := d_look_table, N := ["table"], st := top 16 }
def e_parts_of : Ent := { id := 4, nm := "parts_of", F := d_parts_of, N := ["table", "word", "book", "made", "at", "some", "long"], st := top 17 }
def e_sounds_of : Ent := { id := 5, nm := "sounds_of", F := d_sounds_of, N := ["table", "word", "some", "part"], st := top 18 }
def e_vowels_in : Ent := { id := 6, nm := "vowels_in", F := d_vowels_in, N := ["some", "place", "sign"], st := top 19 }
def e_is_word_of : Ent := { id := 7, nm := "is_word_of", F := d_is_word_of, N := ["table", "thing", "made"], st := top 20 }
def e_stress_at : Ent := { id := 8, nm := "stress_at", F := d_stress_at, N := ["made", "stress", "some"], st := top 22 }
def e_tail_of : Ent := { id := 9, nm := "tail_of", F := d_tail_of, N := ["table", "word", "made"], st := top 23 }
def e_is_line_of : Ent := { id := 10, nm := "is_line_of", F := d_is_line_of, N := ["table", "thing", "word"], st := top 30 }
def e_is_line : Ent := { id := 11, nm := "is_line", F := d_is_line, N := ["table", "thing"], st := top 31 }
def e_look_line : Ent := { id := 12, nm := "look_line", F := d_look_line, N := ["table", "line"], st := top 32 }
def e_is_metre : Ent := { id := 13, nm := "is_metre", F := d_is_metre, N := ["thing", "sign"], st := top 33 }
def e_word_beats : Ent := { id := 14, nm := "word_beats", F := d_word_beats, N := ["table", "word", "many"], st := top 34 }
def e_beats : Ent := { id := 15, nm := "beats", F := d_beats, N := ["table", "line", "word"], st := top 35 }
def e_suits : Ent := { id := 16, nm := "suits", F := d_suits, N := ["made", "metre", "one", "here"], st := top 36 }
def e_is_scheme : Ent := { id := 17, nm := "is_scheme", F := d_is_scheme, N := ["thing", "known", "sign"], st := top 40 }
def e_look_poem : Ent := { id := 18, nm := "look_poem", F := d_look_poem, N := ["table", "poem", "line"], st := top 43 }
def e_is_form : Ent := { id := 19, nm := "is_form", F := d_is_form, N := ["thing", "metre"], st := top 44 }
def e_look_form : Ent := { id := 20, nm := "look_form", F := d_look_form, N := ["form"], st := top 45 }
def e_end_words : Ent := { id := 21, nm := "end_words", F := d_end_words, N := ["table", "poem", "line"], st := top 46 }
def e_end_fault : Ent := { id := 22, nm := "end_fault", F := d_end_fault, N := ["table", "scheme", "rows", "number", "word", "ahead", "tail", "sign", "one"], st := top 47 }
def e_faults : Ent := { id := 23, nm := "faults", F := d_faults, N := ["table", "poem", "form", "rows", "made", "scheme", "metres", "number", "line", "word"], st := top 48 }
def e_fits : Ent := { id := 24, nm := "fits", F := d_fits, N := ["table", "poem", "form"], st := top 49 }
def e__law_cell : Ent := { id := 25, nm := "_law_cell", F := d__law_cell, N := ["script", "k"], st := top 51 }
def e__law_pick : Ent := { id := 26, nm := "_law_pick", F := d__law_pick, N := ["script", "k", "many", "drawn"], st := top 52 }
def e__law_table : Ent := { id := 27, nm := "_law_table", F := d__law_table, N := ["script", "at", "made", "k", "letter", "some", "letters"], st := top 53 }
def e__law_parts : Ent := { id := 28, nm := "_law_parts", F := d__law_parts, N := ["table", "word", "made", "some", "best", "row", "part"], st := top 54 }
def e__law_sounds : Ent := { id := 29, nm := "_law_sounds", F := d__law_sounds, N := ["table", "letters", "some", "part", "row"], st := top 55 }
def e__law_is_letters : Ent := { id := 30, nm := "_law_is_letters", F := d__law_is_letters, N := ["thing", "most", "sign"], st := top 56 }
def e__law_is_word : Ent := { id := 31, nm := "_law_is_word", F := d__law_is_word, N := ["table", "thing", "made", "sign"], st := top 57 }
def e__law_rich_book : Ent := { id := 32, nm := "_law_rich_book", F := d__law_rich_book, N := ["script", "at", "table", "most", "made", "k", "rime", "letters", "word"], st := top 58 }
def e__law_signs : Ent := { id := 33, nm := "_law_signs", F := d__law_signs, N := ["table", "word", "many", "sign"], st := top 59 }
def e__law_suits : Ent := { id := 34, nm := "_law_suits", F := d__law_suits, N := ["made", "metre", "k"], st := top 60 }
def e__law_lines : Ent := { id := 35, nm := "_law_lines", F := d__law_lines, N := ["table", "book", "metre", "signs", "again", "rows", "made", "longer", "word", "line", "place", "k", "goal"], st := top 61 }
def e__law_last : Ent := { id := 36, nm := "_law_last", F := d__law_last, N := ["rows", "book", "seen", "line", "word"], st := top 62 }
def e__law_tail : Ent := { id := 37, nm := "_law_tail", F := d__law_tail, N := ["table", "word", "made", "ahead", "first", "left", "at", "k"], st := top 63 }
def e__law_suit : Ent := { id := 38, nm := "_law_suit", F := d__law_suit, N := ["table", "scheme", "row", "tails", "k", "alike", "word", "tail", "sign"], st := top 64 }
def e__law_rows : Ent := { id := 39, nm := "_law_rows", F := d__law_rows, N := ["table", "scheme", "some", "rows", "k", "longer", "row", "word"], st := top 65 }
def e__law_form : Ent := { id := 40, nm := "_law_form", F := d__law_form, N := ["script", "at", "table", "book", "scheme", "some", "shift", "places", "k", "place"], st := top 66 }
def e__law_wrong : Ent := { id := 41, nm := "_law_wrong", F := d__law_wrong, N := ["table", "poem", "form", "tails", "scheme", "metres", "row", "made", "k", "line", "word", "j"], st := top 67 }
def e_law : Ent := { id := 42, nm := "law", F := d_law, N := ["script", "table", "book", "form", "many", "poem", "k", "last", "other", "due", "odd", "size", "places", "j", "one", "line", "at"], st := top 68 }
def V1 : Env1 where
  tab := [e_is_letters, e_is_row, e_is_table, e_look_table, e_parts_of, e_sounds_of, e_vowels_in, e_is_word_of, e_stress_at, e_tail_of, e_is_line_of, e_is_line] ++ [e_look_line, e_is_metre, e_word_beats, e_beats, e_suits, e_is_scheme, e_look_poem, e_is_form, e_look_form, e_end_words, e_end_fault, e_faults] ++ [e_fits, e__law_cell, e__law_pick, e__law_table, e__law_parts, e__law_sounds, e__law_is_letters, e__law_is_word, e__law_rich_book, e__law_signs, e__law_suits, e__law_lines] ++ [e__law_last, e__law_tail, e__law_suit, e__law_rows, e__law_form, e__law_wrong, e_law]
  FR := fun f => match G f with | some F => F.fresh | none => false
  exs := [("VerseError", 0), ("NoTable", 1), ("NoLine", 2), ("NoPoem", 3), ("NoForm", 4)]
  cst := [("SMALL", .inr [97, 98, 99, 100, 101, 102, 103, 104, 105, 106, 107, 108, 109, 110, 111, 112, 113, 114, 115, 116, 117, 118, 119, 120, 121, 122]), ("VOWELS", .inr [65, 69, 73, 79, 85]), ("OTHERS", .inr [66, 68, 70, 71, 75, 76, 77, 78, 80, 82, 83, 84, 86, 90]), ("MOST_ROWS", .inl 20), ("LONGEST", .inl 10), ("FARTHEST", .inl 3), ("MOST_IN_LINE", .inl 6), ("LONGEST_METRE", .inl 16), ("STRESSED", .inr [47]), ("PLAIN", .inr [45]), ("EITHER", .inr [63]), ("GREAT", .inr [65, 66, 67, 68, 69, 70, 71, 72]), ("MOST_LINES_schemes", .inl 8), ("MOST_LINES_poems", .inl 8)]
  tcs := []
theorem tabs : ∀ e ∈ V1.tab, G e.id = some e.F := by
  intro e he
  simp only [V1, List.cons_append, List.nil_append, List.mem_cons, List.not_mem_nil, or_false] at he
  rcases he with rfl | rfl | rfl | rfl | rfl | rfl | rfl | rfl | rfl | rfl | rfl | rfl | rfl | rfl | rfl | rfl | rfl | rfl | rfl | rfl | rfl | rfl | rfl | rfl | rfl | rfl | rfl | rfl | rfl | rfl | rfl | rfl | rfl | rfl | rfl | rfl | rfl | rfl | rfl | rfl | rfl | rfl | rfl <;> rfl
theorem chks : (V1.tab.all fun e => e.chk V1) = true := by decide +kernel
theorem exss : (V1.exs.all fun t => (V1.exs.map (·.1)).getD t.2 ("" : PySem.Str) == t.1) = true := by decide +kernel
theorem bnds : ∀ e ∈ V1.tab, ∀ (kV doc pm : Value) (an : Option Addr) (cdv ct : Value) (us : List Value), us.length = e.ps.length → bindArgs (PySem.W.fnOf e.nm e.nm (defArgs e.st) (defBody e.st) (defScope e.st) .none kV doc pm an cdv ct) ⟨us, []⟩ = pure (e.ps.zip us) := by
  intro e he kV doc pm an cdv ct us hl
  simp only [V1, List.cons_append, List.nil_append, List.mem_cons, List.not_mem_nil, or_false] at he
  rcases he with rfl | rfl | rfl | rfl | rfl | rfl | rfl | rfl | rfl | rfl | rfl | rfl | rfl | rfl | rfl | rfl | rfl | rfl | rfl | rfl | rfl | rfl | rfl | rfl | rfl | rfl | rfl | rfl | rfl | rfl | rfl | rfl | rfl | rfl | rfl | rfl | rfl | rfl | rfl | rfl | rfl | rfl | rfl
  · obtain ⟨a, b, c, rfl⟩ := len3 (hl.trans (by decide +kernel))
    rfl
  · obtain ⟨a, rfl⟩ := len1 (hl.trans (by decide +kernel))
    rfl
  · obtain ⟨a, rfl⟩ := len1 (hl.trans (by decide +kernel))
    rfl
  · obtain ⟨a, rfl⟩ := len1 (hl.trans (by decide +kernel))
    rfl
  · obtain ⟨a, b, rfl⟩ := len2 (hl.trans (by decide +kernel))
    rfl
  · obtain ⟨a, b, rfl⟩ := len2 (hl.trans (by decide +kernel))
    rfl
  · obtain ⟨a, rfl⟩ := len1 (hl.trans (by decide +kernel))
    rfl
  · obtain ⟨a, b, rfl⟩ := len2 (hl.trans (by decide +kernel))
    rfl
  · obtain ⟨a, b, rfl⟩ := len2 (hl.trans (by decide +kernel))
    rfl
  · obtain ⟨a, b, rfl⟩ := len2 (hl.trans (by decide +kernel))
    rfl
  · obtain ⟨a, b, rfl⟩ := len2 (hl.trans (by decide +kernel))
    rfl
  · obtain ⟨a, b, rfl⟩ := len2 (hl.trans (by decide +kernel))
    rfl
  · obtain ⟨a, b, rfl⟩ := len2 (hl.trans (by decide +kernel))
    rfl
  · obtain ⟨a, rfl⟩ := len1 (hl.trans (by decide +kernel))
    rfl
  · obtain ⟨a, b, rfl⟩ := len2 (hl.trans (by decide +kernel))
    rfl
  · obtain ⟨a, b, rfl⟩ := len2 (hl.trans (by decide +kernel))
    rfl
  · obtain ⟨a, b, rfl⟩ := len2 (hl.trans (by decide +kernel))
    rfl
  · obtain ⟨a, rfl⟩ := len1 (hl.trans (by decide +kernel))
    rfl
  · obtain ⟨a, b, rfl⟩ := len2 (hl.trans (by decide +kernel))
    rfl
  · obtain ⟨a, rfl⟩ := len1 (hl.trans (by decide +kernel))
    rfl
  · obtain ⟨a, rfl⟩ := len1 (hl.trans (by decide +kernel))
    rfl
  · obtain ⟨a, b, rfl⟩ := len2 (hl.trans (by decide +kernel))
    rfl
  · obtain ⟨a, b, c, d, rfl⟩ := len4 (hl.trans (by decide +kernel))
    rfl
  · obtain ⟨a, b, c, rfl⟩ := len3 (hl.trans (by decide +kernel))
    rfl
  · obtain ⟨a, b, c, rfl⟩ := len3 (hl.trans (by decide +kernel))
    rfl
  · obtain ⟨a, b, rfl⟩ := len2 (hl.trans (by decide +kernel))
    rfl
  · obtain ⟨a, b, c, rfl⟩ := len3 (hl.trans (by decide +kernel))
    rfl
  · obtain ⟨a, b, rfl⟩ := len2 (hl.trans (by decide +kernel))
    rfl
  · obtain ⟨a, b, rfl⟩ := len2 (hl.trans (by decide +kernel))
    rfl
  · obtain ⟨a, b, rfl⟩ := len2 (hl.trans (by decide +kernel))
    rfl
  · obtain ⟨a, b, rfl⟩ := len2 (hl.trans (by decide +kernel))
    rfl
  · obtain ⟨a, b, rfl⟩ := len2 (hl.trans (by decide +kernel))
    rfl
  · obtain ⟨a, b, c, d, rfl⟩ := len4 (hl.trans (by decide +kernel))
    rfl
  · obtain ⟨a, b, rfl⟩ := len2 (hl.trans (by decide +kernel))
    rfl
  · obtain ⟨a, b, rfl⟩ := len2 (hl.trans (by decide +kernel))
    rfl
  · obtain ⟨a, b, c, rfl⟩ := len3 (hl.trans (by decide +kernel))
    rfl
  · obtain ⟨a, b, rfl⟩ := len2 (hl.trans (by decide +kernel))
    rfl
  · obtain ⟨a, b, rfl⟩ := len2 (hl.trans (by decide +kernel))
    rfl
  · obtain ⟨a, b, c, rfl⟩ := len3 (hl.trans (by decide +kernel))
    rfl
  · obtain ⟨a, b, c, rfl⟩ := len3 (hl.trans (by decide +kernel))
    rfl
  · obtain ⟨a, b, c, d, rfl⟩ := len4 (hl.trans (by decide +kernel))
    rfl
  · obtain ⟨a, b, c, rfl⟩ := len3 (hl.trans (by decide +kernel))
    rfl
  · obtain ⟨a, rfl⟩ := len1 (hl.trans (by decide +kernel))
    rfl
def names : List PySem.Str := (["VerseError", "NoTable", "NoLine", "NoPoem", "NoForm", "SMALL", "VOWELS", "OTHERS", "MOST_ROWS", "LONGEST", "FARTHEST", "is_letters", "is_row", "is_table", "look_table", "parts_of", "sounds_of", "vowels_in", "is_word_of", "stress_at", "tail_of", "MOST_IN_LINE", "LONGEST_METRE", "STRESSED", "PLAIN", "EITHER", "is_line_of", "is_line", "look_line", "is_metre"] : List PySem.Str) ++ (["word_beats", "beats", "suits", "GREAT", "MOST_LINES_schemes", "is_scheme", "MOST_LINES_poems", "look_poem", "is_form", "look_form", "end_words", "end_fault", "faults", "fits", "_law_cell", "_law_pick", "_law_table", "_law_parts", "_law_sounds", "_law_is_letters", "_law_is_word", "_law_rich_book", "_law_signs", "_law_suits", "_law_lines", "_law_last", "_law_tail", "_law_suit", "_law_rows", "_law_form"] : List PySem.Str) ++ (["_law_wrong"] : List PySem.Str)
abbrev R : PySem.W.OpenRow := PySem.W.OpenLaw.row PySem.Challenge.rw_verseends_k56_whole_faults
abbrev hk : PySem.W.Hook := hookC 5 V1.fa V1.fn V1.ex
def ob (s : PySem.W.SharedT) : He.AlD × Bool := obsCG 5 V1.fa V1.fn V1.ex (HandSHeadRun.getT s)
theorem ob_eq (s : PySem.W.SharedT) : ob s = hk.obs s.abs := obsCG_eq (HandSHeadRun.getT_eq s)
theorem headRun (w : World) : HandSHeadRun.RunEq R (PySem.W.view R.prog [68]) hk ob 20000 names w := by
  intro os
  kernel_rfl
end LW
open PySem PySem.W PySem.Calls PyProof.Rows
theorem PySem.Challenge.cw_verseends_k56_whole_faults_holds : PySem.Challenge.rw_verseends_k56_whole_faults.Holds := by
  w_on; o_law
  refine HandSHeadRun.head_any (r := OpenLaw.row PySem.Challenge.rw_verseends_k56_whole_faults) (q := view (OpenLaw.row PySem.Challenge.rw_verseends_k56_whole_faults).prog [68]) (H := LW.hk) (ob := LW.ob) (M := 20000) (loose := LW.names) (d := HandSHeadRun.topDef (OpenLaw.row PySem.Challenge.rw_verseends_k56_whole_faults).prog 68) (kwd := []) LW.ob_eq
    (by kernel_rfl) (fun s => by kernel_rfl) LW.headRun (by kernel_rfl) (by kernel_rfl) (by kernel_rfl) (by rfl) (by first | assumption | decide +kernel) (by decide +kernel) ⟨rfl, rfl, rfl, rfl, rfl, by decide +kernel⟩ ?hw ?hc
  case hw => w_witness2
  case hc =>
    refine L2.walk_ofE (l := PySem.Challenge.rw_verseends_k56_whole_faults) (n := 63) (k := 20) (x := "script") (CX := L2.CX0) rfl (by decide) (by kernel_rfl) ⟨rfl, by decide, by decide⟩ ?F (fun _ _ _ _ z => z)
    case F =>
      intro w mg fa h Y G0 hmg0
      obtain ⟨K, KX, c, cx⟩ := Y
      have hmg : mg ("law" : PySem.Str) = some (.ref fa) := by
        have e : (HandSHeadRun.topDef (OpenLaw.row PySem.Challenge.rw_verseends_k56_whole_faults).prog 68).name = ("law" : PySem.Str) := by kernel_rfl
        rw [← e]
        exact hmg0
      have T := VE.top_of (Pg := (PySem.Challenge.rw_verseends_k56_whole_faults).prog) (w := w) KX G0 c cx LW.tabs LW.chks LW.exss LW.bnds
      have hf : fa = He.ga K "law" := by
        have q := hmg.symm.trans (T.glo LW.e_law (by simp [LW.V1]))
        cases q
        rfl
      subst hf
      obtain ⟨fd, h1, h2, h3⟩ := VE.law_all T (e := LW.e_law) (by simp [LW.V1]) rfl 20 LW.runs "script" rfl
      exact ⟨K, fd, (fun vs H Q _ => VE.spF K (LW.V1.cad K) LW.e_law.kps (LW.V1.FR LW.e_law.id) (VE.run LW.G 20 LW.e_law.id) vs H Q fun _ _ _ => False), KX, h1, h2, fun base _ _ => h3 base⟩


