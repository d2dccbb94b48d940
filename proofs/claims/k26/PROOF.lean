import PyProof.Rows.All
import Wide.All
import OpenK.AllK
import Wide.FinOn
import PyProof.EqAt
import PyProof.EqKinds
import PyProof.TupleCall
import KE.KDictZip
import KE.KItemsList
import HandS.ForMost
import KE.GoesZip
import KE.GoesMore
import HandS.Walk
import HandS.ForExc
import HandS.IsInst
import HandS.Defaults
import HandS.Style
import HandS.WideBits
import HandS.Wide
import HandS.Conv
import HandS.CallSlots
import HandS.Rev
import HandS.Codes
import KE.OsRunLaw
import PySem.Challenge.RW_pacehall_k26_wholes
set_option Elab.async false
set_option linter.all false
set_option maxRecDepth 100000
set_option maxHeartbeats 4000000
/-! list(zip(xs, ys)) of two lists of one length -/
namespace ZL
open PySem PySem.W PySem.Calls PyProof.Rows PyProof.V PySem.Spec
theorem zip_no_len : typeLookup (.type "zip") "__len__" = pure none := am_miss_of_fast (by decide +kernel)
theorem zip_no_hint : typeLookup (.type "zip") "__length_hint__" = pure none := am_miss_of_fast (by decide +kernel)
/-- the zip at z ahead of its i-th turn; S the list that takes what it gives -/
def ZSt (h : Heap) (z TI TO i1 i2 l1 l2 S : Addr) (i : Nat) : Prop :=
  ((IsZip h z TI TO .none ∧ ∃ a b, IsPair h TO a b) ∨ (∃ (T : Addr) (f : Bool) (oT : Obj), IsZipHeld h z TI TO T f ∧ h.get? T = some oT ∧ T ≠ z ∧ T ≠ i1 ∧ T ≠ i2 ∧ T ≠ S)) ∧
  IsPair h TI (.ref i1) (.ref i2) ∧ h.IsListIter i1 l1 i ∧ h.IsListIter i2 l2 i
theorem ZSt.keep {h h' : Heap} {z TI TO i1 i2 l1 l2 S : Addr} {i : Nat} (st : ZSt h z TI TO i1 i2 l1 l2 S i) (k : ∀ b o, b ≠ S → h.get? b = some o → h'.get? b = some o)
    (hz : z ≠ S) (hTI : TI ≠ S) (hTO : TO ≠ S) (h1 : i1 ≠ S) (h2 : i2 ≠ S) : ZSt h' z TI TO i1 i2 l1 l2 S i := by
  obtain ⟨a, b, c, d⟩ := st
  refine ⟨?_, k _ _ hTI b, c.at fun o e => k _ o h1 e, d.at fun o e => k _ o h2 e⟩
  rcases a with ⟨a1, x, y, a2⟩ | ⟨T, f, oT, a1, a2, t1, t2, t3, t4⟩
  · exact .inl ⟨k _ _ hz a1, x, y, k _ _ hTO a2⟩
  · exact .inr ⟨T, f, oT, k _ _ hz a1, k _ _ t4 a2, t1, t2, t3, t4⟩
section
variable {prog : Program} {w : World} {A : Around} {E : Value → Shared → Prop} {s : Shared}
theorem zl_item {z TI TO i1 i2 l1 l2 S : Addr} {i : Nat} {xs ys : Array Value} {x y : Value} {Q : Option Value → Shared → Prop} (D : ZipApart z TI TO i1 i2 l1 l2)
    (st : ZSt s.heap z TI TO i1 i2 l1 l2 S i) (hS : S < s.heap.objs.size) (hl1 : s.heap.IsList l1 xs) (hl2 : s.heap.IsList l2 ys) (hx : xs[i]? = some x) (hy : ys[i]? = some y)
    (hQ : ∀ h', ZSt h' z TI TO i1 i2 l1 l2 S (i + 1) → IsPair h' s.heap.objs.size x y → h'.objs.size = s.heap.objs.size + 1 →
      (∀ c o, c ≠ z → c ≠ TO → c ≠ i1 → c ≠ i2 → s.heap.get? c = some o → h'.get? c = some o) → Q (some (.ref s.heap.objs.size)) { s with heap := h' }) :
    wpAny (model prog w) A (pyNext (.ref z)) Q E s := by
  obtain ⟨a, hTI, h1, h2⟩ := st
  have n1 : s.heap.objs.size ≠ i1 := by obtain ⟨_, e, _⟩ := h1; exact Nat.ne_of_gt (Heap.lt_size e)
  have n2 : s.heap.objs.size ≠ i2 := by obtain ⟨_, e, _⟩ := h2; exact Nat.ne_of_gt (Heap.lt_size e)
  rcases a with ⟨hz, x0, y0, hTO⟩ | ⟨T, f, oT, hz, hT, t1, t2, t3, t4⟩
  · have nz : s.heap.objs.size ≠ z := Nat.ne_of_gt (Heap.lt_size hz)
    exact wpAny_pyNext_zip_item D hz hTI hTO h1 h2 hl1 hl2 hx hy fun h' a1 a2 a3 a4 a5 a6 a7 =>
      hQ h' ⟨.inr ⟨s.heap.objs.size, false, _, a1, a5, nz, n1, n2, Nat.ne_of_gt hS⟩, a7 _ _ D.TIz D.TITO D.TIi1 D.TIi2 hTI, a3, a4⟩ a5 a6 a7
  · exact wpAny_pyNext_zip_item_held D hz hT hTI h1 h2 hl1 hl2 hx hy fun h' a1 a3 a4 a5 a6 a7 =>
      hQ h' ⟨.inr ⟨T, true, oT, a1, a7 _ _ t1 t2 t3 hT, t1, t2, t3, t4⟩, a7 _ _ D.TIz D.TIi1 D.TIi2 hTI, a3, a4⟩ a5 a6 fun c o c1 _ c3 c4 e => a7 c o c1 c3 c4 e
theorem zl_done {z TI TO i1 i2 l1 l2 S : Addr} {i : Nat} {xs ys : Array Value} {Q : Option Value → Shared → Prop} (hh : A.handled = none) (D : ZipApart z TI TO i1 i2 l1 l2)
    (st : ZSt s.heap z TI TO i1 i2 l1 l2 S i) (hl1 : s.heap.IsList l1 xs) (hl2 : s.heap.IsList l2 ys) (hx : xs[i]? = none)
    (hQ : ∀ h', (∀ c o, c ≠ z → c ≠ TO → c ≠ i1 → c ≠ i2 → s.heap.get? c = some o → h'.get? c = some o) → Q none { s with heap := h' }) :
    wpAny (model prog w) A (pyNext (.ref z)) Q E s := by
  obtain ⟨a, hTI, h1, h2⟩ := st
  rcases a with ⟨hz, x0, y0, hTO⟩ | ⟨T, f, oT, hz, hT, t1, t2, t3, t4⟩
  · exact wpAny_pyNext_zip_end hh D hz hTI hTO h1 h2 hl1 hl2 (.inl hx) hQ
  · exact wpAny_pyNext_zip_end_held hh D hz hT hTI h1 h2 hl1 hl2 (.inl hx) fun h' k => hQ h' fun c o c1 _ c3 c4 e => k c o c1 c3 c4 e
end
structure ZG (xs ys : Array Value) (lo : Addr) (h : Heap) (as : List Addr) : Prop where
  rise : as.Pairwise (· < ·)
  above : ∀ a ∈ as, lo < a
  pairs : ∀ (j : Nat) (a : Addr), as[j]? = some a → ∃ x y, xs[j]? = some x ∧ ys[j]? = some y ∧ IsPair h a x y
theorem ZG.there {xs ys : Array Value} {lo : Addr} {h : Heap} {as : List Addr} (g : ZG xs ys lo h as) {a : Addr} (ha : a ∈ as) : a < h.objs.size := by
  obtain ⟨j, hj⟩ := List.mem_iff_getElem?.mp ha
  obtain ⟨_, _, _, _, e⟩ := g.pairs j a hj
  exact Heap.lt_size e
section
variable {prog : Program} {w : World} {A : Around} {s : Shared} {R : Result → Shared → Prop}
theorem zl_loop {z TI TO i1 i2 l1 l2 S : Addr} {xs ys : Array Value} (hh : A.handled = none) (D : ZipApart z TI TO i1 i2 l1 l2) (hz : z < S) (hTI : TI < S) (hTO : TO < S) (h1 : i1 < S) (h2 : i2 < S) (hl1S : l1 ≠ S) (hl2S : l2 ≠ S)
    (hn : xs.size ≤ sizeLine) (hxy : ys.size = xs.size) (res : Value) {h₁ : Heap}
    (hR : ∀ h' tk acc c as, (∀ b o, b ≠ S → b ≠ z → b ≠ TO → b ≠ i1 → b ≠ i2 → h₁.get? b = some o → h'.get? b = some o) → h'.get? S = some { cls := .type "list", dict := none, data := .seq acc c, slots := #[] } → as.length = xs.size → ZG xs ys S h' as →
      acc.toList = as.map Value.ref → R (.ok (.ret res)) { s with heap := h', toks := tk }) :
    ∀ (k i : Nat) (h : Heap) (tk c : Nat) (acc : Array Value) (as : List Addr), xs.size - i = k → i ≤ xs.size → ZSt h z TI TO i1 i2 l1 l2 S i → h.IsList l1 xs → h.IsList l2 ys →
      (∀ b o, b ≠ S → b ≠ z → b ≠ TO → b ≠ i1 → b ≠ i2 → h₁.get? b = some o → h.get? b = some o) →
      h.get? S = some { cls := .type "list", dict := none, data := .seq acc c, slots := #[] } → acc.toList = as.map Value.ref → as.length = i → ZG xs ys S h as →
      codeAny (model prog w) A (.builtin "list.extend.loop" ⟨[.ref S, .ref z, res], []⟩) R { s with heap := h, toks := tk } := by
  have nz : z ≠ S := Nat.ne_of_lt hz
  have nTI : TI ≠ S := Nat.ne_of_lt hTI
  have nTO : TO ≠ S := Nat.ne_of_lt hTO
  have n1 : i1 ≠ S := Nat.ne_of_lt h1
  have n2 : i2 ≠ S := Nat.ne_of_lt h2
  intro k
  induction k with
  | zero =>
    intro i h tk c acc as hk hi hst hL1 hL2 hkeep hS hacc hal hG
    have hin : i = xs.size := by omega
    refine codeAny_builtin PySem.F.entry_extend_loop ?_
    rw [Around.under_plainId PySem.F.plain_extend_loop _]
    show wpAny _ A.in1 (pyNext (.ref z) >>= _) _ _ _
    refine wpAny_bind (zl_done (s := { s with heap := h, toks := tk }) (A := A.in1) hh D hst hL1 hL2 (by subst hin; simp) fun h' he => ?_)
    refine wpAny_pure (hR h' tk acc c as (fun b o e1 e2 e3 e4 e5 e => he b o e2 e3 e4 e5 (hkeep b o e1 e2 e3 e4 e5 e)) (he S _ nz.symm nTO.symm n1.symm n2.symm hS) (by omega) ⟨hG.rise, hG.above, fun j a hj => ?_⟩ hacc)
    obtain ⟨x, y, ex, ey, e3⟩ := hG.pairs j a hj
    have ha := hG.above a (List.mem_of_getElem? hj)
    exact ⟨x, y, ex, ey, he a _ (Nat.ne_of_gt (Nat.lt_trans hz ha)) (Nat.ne_of_gt (Nat.lt_trans hTO ha)) (Nat.ne_of_gt (Nat.lt_trans h1 ha)) (Nat.ne_of_gt (Nat.lt_trans h2 ha)) e3⟩
  | succ k ih =>
    intro i h tk c acc as hk hi hst hL1 hL2 hkeep hS hacc hal hG
    have hlt : i < xs.size := by omega
    have hlt2 : i < ys.size := by omega
    have hsz : acc.size = i := by rw [← Array.length_toList, hacc, List.length_map, hal]
    have hSl : S < h.objs.size := Heap.lt_size hS
    refine codeAny_builtin PySem.F.entry_extend_loop ?_
    rw [Around.under_plainId PySem.F.plain_extend_loop _]
    show wpAny _ A.in1 (pyNext (.ref z) >>= _) _ _ _
    refine wpAny_bind (zl_item (s := { s with heap := h, toks := tk }) (S := S) D hst hSl hL1 hL2 (Array.getElem?_eq_getElem hlt) (Array.getElem?_eq_getElem hlt2) fun h' hst' ht hz' hkp => ?_)
    dsimp only at ht hz' hkp ⊢
    have hS' := hkp S _ nz.symm nTO.symm n1.symm n2.symm hS
    have up : ∀ b o, b ≠ S → h'.get? b = some o → (h'.update S (Obj.mapSeq (·.push (Value.ref h.objs.size)))).get? b = some o := fun b o hb e => (Heap.get?_update_other _ _ (Ne.symm hb)).trans e
    show wpAny _ A.in1 (updateSeq S (·.push (Value.ref h.objs.size)) >>= _) _ _ _
    refine wpAny_bind ?_
    refine wpAny_updateSeq hS' rfl (wpAny_pure ⟨plainId_quiet PySem.F.plain_extend_loop _, ih (i + 1) _ tk _ (acc.push (Value.ref h.objs.size)) (as ++ [h.objs.size]) (by omega) hlt (hst'.keep up nz nTI nTO n1 n2)
      (hL1.at fun o e => up _ o hl1S (hkp _ o D.l1z D.l1TO D.l1i1 D.l1i2 e)) (hL2.at fun o e => up _ o hl2S (hkp _ o D.l2z D.l2TO D.l2i1 D.l2i2 e))
      (fun b o e1 e2 e3 e4 e5 e => up b o e1 (hkp b o e2 e3 e4 e5 (hkeep b o e1 e2 e3 e4 e5 e))) (Heap.get?_update_self _ hS' rfl) (by rw [Array.toList_push, hacc, List.map_append]; rfl) (by rw [List.length_append, hal]; rfl) ⟨?_, ?_, ?_⟩⟩) (by rw [hsz]; omega) (by show (acc.push (Value.ref h.objs.size)).size ≤ sizeLine + 1; rw [Array.size_push, hsz]; omega)
    · refine List.pairwise_append.mpr ⟨hG.rise, List.pairwise_singleton _ _, fun a ha b hb => ?_⟩
      rw [List.mem_singleton.mp hb]
      exact hG.there ha
    · intro a ha
      rcases List.mem_append.mp ha with ha | ha
      · exact hG.above a ha
      · rw [List.mem_singleton.mp ha]; exact hSl
    · intro j b hj
      rcases Nat.lt_trichotomy j as.length with q1 | q1 | q1
      · rw [List.getElem?_append_left q1] at hj
        obtain ⟨x, y, ex, ey, e3⟩ := hG.pairs j b hj
        have hb := hG.above b (List.mem_of_getElem? hj)
        exact ⟨x, y, ex, ey, up b _ (Nat.ne_of_gt hb) (hkp b _ (Nat.ne_of_gt (Nat.lt_trans hz hb)) (Nat.ne_of_gt (Nat.lt_trans hTO hb)) (Nat.ne_of_gt (Nat.lt_trans h1 hb)) (Nat.ne_of_gt (Nat.lt_trans h2 hb)) e3)⟩
      · subst q1
        have hb : h.objs.size = b := by simpa using hj
        subst hb
        exact ⟨xs[i], ys[i], by rw [hal]; exact Array.getElem?_eq_getElem hlt, by rw [hal]; exact Array.getElem?_eq_getElem hlt2, up _ _ (Nat.ne_of_gt hSl) ht⟩
      · have hnone : (as ++ [h.objs.size])[j]? = none := List.getElem?_eq_none (by rw [List.length_append, List.length_singleton]; omega)
        rw [hnone] at hj; cases hj
end
section
variable {prog : Program} {w : World} {A : Around} {E : Value → Shared → Prop} {s : Shared}
theorem zl_call {z TI TO i1 i2 l1 l2 : Addr} {xs ys : Array Value} {a b : Value} {Q : Value → Shared → Prop} (hh : A.handled = none) (D : ZipApart z TI TO i1 i2 l1 l2)
    (hz : IsZip s.heap z TI TO .none) (hTI : IsPair s.heap TI (.ref i1) (.ref i2)) (hTO : IsPair s.heap TO a b) (h1 : s.heap.IsListIter i1 l1 0) (h2 : s.heap.IsListIter i2 l2 0) (hl1 : s.heap.IsList l1 xs) (hl2 : s.heap.IsList l2 ys)
    (hn : xs.size ≤ sizeLine) (hxy : ys.size = xs.size)
    (hQ : ∀ h' tk acc c as, (∀ b o, b ≠ z → b ≠ TO → b ≠ i1 → b ≠ i2 → s.heap.get? b = some o → h'.get? b = some o) → h'.get? s.heap.objs.size = some { cls := .type "list", dict := none, data := .seq acc c, slots := #[] } → as.length = xs.size → ZG xs ys s.heap.objs.size h' as →
      acc.toList = as.map Value.ref → Q (.ref s.heap.objs.size) { s with heap := h', toks := tk }) :
    wpAny (model prog w) A (call (.type "list") [.ref z]) Q E s := by
  refine callType_codes (Q₁ := fun obj s₁ => obj = .ref s.heap.objs.size ∧ s₁ = { s with heap := s.heap.push { cls := .type "list", data := .seq #[] } }) PySem.F.called_list (PySem.F.typeCall_list_1 _) PySem.F.entry_list_init
    (code_list_new _ ⟨rfl, rfl⟩) fun obj s₁ hs₁ => ?_
  obtain ⟨rfl, rfl⟩ := hs₁
  have hS : (s.heap.push { cls := .type "list", data := .seq #[] }).get? s.heap.objs.size = some { cls := .type "list", data := .seq #[] } := Heap.get?_push_size _ rfl
  have zl : z < s.heap.objs.size := Heap.lt_size hz
  have TIl : TI < s.heap.objs.size := Heap.lt_size hTI
  have TOl : TO < s.heap.objs.size := Heap.lt_size hTO
  have i1l : i1 < s.heap.objs.size := by obtain ⟨_, e, _⟩ := h1; exact Heap.lt_size e
  have i2l : i2 < s.heap.objs.size := by obtain ⟨_, e, _⟩ := h2; exact Heap.lt_size e
  have l1l : l1 < s.heap.objs.size := by obtain ⟨_, e, _⟩ := hl1; exact Heap.lt_size e
  have l2l : l2 < s.heap.objs.size := by obtain ⟨_, e, _⟩ := hl2; exact Heap.lt_size e
  have zS : s.heap.objs.size ≠ z := Nat.ne_of_gt zl
  refine ⟨⟨_, hS, rfl⟩, PySem.F.args_list_init_2 _ _, ?_⟩
  show wpAny _ A.in1.in1 (do let old ← Builtin.List.listItems (.ref s.heap.objs.size); Builtin.List.listUpdate (.ref s.heap.objs.size) (fun _ => #[]); letGo old.toList.reverse; Builtin.List.listExtendWith (.ref s.heap.objs.size) (.ref z) .none) _ _ _
  refine wpAny_bind ?_
  unfold Builtin.List.listItems
  refine wpAny_bind (wpAny_seqItems hS rfl (wpAny_pure ?_))
  show wpAny _ _ (updateSeq s.heap.objs.size (fun _ => #[]) >>= fun _ => letGo (#[] : Array Value).toList.reverse >>= fun _ => Builtin.List.listExtendWith (.ref s.heap.objs.size) (.ref z) .none) _ _ _
  refine wpAny_bind (wpAny_updateSeq hS rfl ?_)
  have hS2 := Heap.get?_update_self (Obj.mapSeq (fun _ => (#[] : Array Value))) hS rfl
  have k2 : ∀ b o, s.heap.get? b = some o → ((s.heap.push { cls := .type "list", data := .seq #[] }).update s.heap.objs.size (Obj.mapSeq (fun _ => (#[] : Array Value)))).get? b = some o :=
    fun b o e => (Heap.get?_update_other _ _ (Ne.symm (Nat.ne_of_lt (Heap.lt_size e)))).trans (Heap.get?_push_of_some _ e)
  refine wpAny_bind (wpAny_letGo ?_)
  unfold Builtin.List.listExtendWith
  have hT2 : ({ s with heap := (s.heap.push { cls := .type "list", data := .seq #[] }).update s.heap.objs.size (Obj.mapSeq (fun _ => (#[] : Array Value))) } : Shared).TypeIs (.ref z) "zip" := ⟨_, k2 _ _ hz, rfl⟩
  refine wpAny_bind (wpAny_typeOf hT2 ?_)
  have e1 : Builtin.List.listSameRef (.ref s.heap.objs.size) (.ref z) = false := by simp [Builtin.List.listSameRef, zS]
  have e2 : (Value.type "zip" == Value.type "list") = false := by decide
  have e3 : (Value.type "zip" == Value.type "tuple") = false := by decide
  simp only [e1, e2, e3, Bool.or_false, Bool.false_eq_true, if_false]
  refine wpAny_bind (wpAny_pyIter_zip (k2 _ _ hz) ?_)
  refine wpAny_bind (wpAny_holding ?_)
  unfold Builtin.List.listLengthHint
  refine wpAny_bind (wpAny_specialOf hT2 zip_no_len ?_)
  show wpAny _ A.in1.in1 (specialOf (Value.ref z) (Str.ofString "__length_hint__") >>= _) _ _ _
  refine wpAny_bind (wpAny_specialOf hT2 zip_no_hint ?_)
  refine wpAny_pure ?_
  show wpAny _ A.in1.in1 (rule "list.extend.makes-room" >>= fun _ => Builtin.List.listTouch (.ref s.heap.objs.size) >>= fun _ =>
    again (.builtin "list.extend.loop" ⟨[.ref s.heap.objs.size, .ref z, .none], []⟩)) _ _ _
  refine wpAny_bind (wpAny_rule ?_)
  refine wpAny_bind ?_
  show wpAny _ A.in1.in1 (updateSeq s.heap.objs.size (·.push .none) >>= fun _ => updateSeq s.heap.objs.size (·.pop)) _ _ _
  refine wpAny_bind (wpAny_updateSeq hS2 rfl ?_)
  have hS3 := Heap.get?_update_self (Obj.mapSeq (·.push Value.none)) hS2 rfl
  refine wpAny_updateSeq (hz := by seq_fits) hS3 rfl ?_
  have hS4 := Heap.get?_update_self (Obj.mapSeq (·.pop)) hS3 rfl
  have k4 : ∀ b o, s.heap.get? b = some o → ((((s.heap.push { cls := .type "list", data := .seq #[] }).update s.heap.objs.size (Obj.mapSeq (fun _ => (#[] : Array Value)))).update s.heap.objs.size (Obj.mapSeq (·.push Value.none))).update s.heap.objs.size (Obj.mapSeq (·.pop))).get? b = some o :=
    fun b o e => (Heap.get?_update_other _ _ (Ne.symm (Nat.ne_of_lt (Heap.lt_size e)))).trans ((Heap.get?_update_other _ _ (Ne.symm (Nat.ne_of_lt (Heap.lt_size e)))).trans (k2 b o e))
  refine wpAny_pure ⟨plainId_quiet PySem.F.plain_extend_loop _, ?_⟩
  refine zl_loop (s := s) (h₁ := s.heap) (A := A.in1) hh D zl TIl TOl i1l i2l (Nat.ne_of_lt l1l) (Nat.ne_of_lt l2l) hn hxy .none (fun h' tk acc c as hk hS' hl hG hacc => ?_) xs.size 0 _ s.toks _ _ [] (by omega) (Nat.zero_le _)
    ⟨.inl ⟨k4 _ _ hz, _, _, k4 _ _ hTO⟩, k4 _ _ hTI, h1.at fun o e => k4 _ o e, h2.at fun o e => k4 _ o e⟩ (hl1.at fun o e => k4 _ o e) (hl2.at fun o e => k4 _ o e) (fun b o _ _ _ _ _ e => k4 b o e) hS4 (by simp) rfl
    ⟨List.Pairwise.nil, (fun _ ha => nomatch ha), (fun j a hj => by simp at hj)⟩
  exact ⟨rfl, hQ h' tk acc c as (fun b o e1 e2 e3 e4 e => hk b o (Nat.ne_of_lt (Heap.lt_size e)) e1 e2 e3 e4 e) hS' hl hG hacc⟩
end
end ZL
/-! zip of two lists or tuples in any mix, as a loop's or a comprehension's source; list(zip(xs, ys)) -/
namespace ZM
open PySem PySem.Spec PyProof.Rows L2
/-- a tuple (true) or a list (false) -/
def SqK (t : Bool) (K : PySem.W.Frag) (H : Hp) (a : Addr) (xs : List V) : Prop := match t with | true => SqT K H a xs | false => SqL K H a xs
def ItK (t : Bool) (h : Heap) (it a : Addr) (i : Nat) : Prop := match t with | true => h.IsTupleIter it a i | false => h.IsListIter it a i
def ArK (t : Bool) (h : Heap) (a : Addr) (items : Array Value) : Prop := match t with | true => h.IsTuple a items | false => h.IsList a items
def beK (t : Bool) (a : Addr) : Obj := match t with
  | true => { cls := .type "tuple_iterator", data := .fields #[.ref a, .int 0 0] }
  | false => { cls := .type "list_iterator", data := .fields #[.ref a, .int 0 0] }
theorem beginsK (t : Bool) (a : Addr) (items : Array Value) : Begins (.ref a) (beK t a) fun h => ArK t h a items := by
  cases t
  · exact begins_list a items
  · exact begins_tuple a items
theorem drawsK (t : Bool) {prog : Program} {w : World} {A : Around} (hh : A.handled = none) (it a : Addr) (hne : a ≠ it) (items : Array Value) :
    Draws prog w A it [it, a] items.size (fun i v => items[i]? = some v) (fun i h => ItK t h it a i ∧ ArK t h a items) := by
  cases t
  · exact Draws.list hh it a hne items
  · exact Draws.tuple hh it a hne items
theorem ItK.obj {t : Bool} {h : Heap} {it a : Addr} {i : Nat} (x : ItK t h it a i) : ∃ o, h.get? it = some o ∧ ∀ v, o.data ≠ .cell v := by
  cases t
  · obtain ⟨o, e, _, d⟩ := (show h.IsListIter it a i from x)
    exact ⟨o, e, fun v q => by rw [d] at q; cases q⟩
  · obtain ⟨o, e, _, d⟩ := (show h.IsTupleIter it a i from x)
    exact ⟨o, e, fun v q => by rw [d] at q; cases q⟩
theorem ItK.to {t : Bool} {h h' : Heap} {it a : Addr} {i : Nat} (x : ItK t h it a i) (k : ∀ o, h.get? it = some o → h'.get? it = some o) : ItK t h' it a i := by
  cases t
  · exact Heap.IsListIter.at (show h.IsListIter it a i from x) k
  · exact Heap.IsTupleIter.at (show h.IsTupleIter it a i from x) k
theorem ItK.begin {t : Bool} {h : Heap} {it a : Addr} (e : h.get? it = some (beK t a)) : ItK t h it a 0 := by
  cases t
  · exact ⟨_, e, rfl, rfl⟩
  · exact ⟨_, e, rfl, rfl⟩
section
variable {X : Cx} {pins : List (Addr × Obj)} {σ : L2.St} {H : Hp} {s : Shared} {a : Addr} {xs ys : List V}
theorem seqK {t : Bool} (I : Inv X pins σ H s) (h : SqK t X.K H a xs) : ∃ its : List Value, Vals xs its ∧ ArK t s.heap a its.toArray ∧ a < s.heap.objs.size ∧ xs.length ≤ sizeLine := by
  cases t
  · obtain ⟨its, rv, p, l⟩ := I.list (show SqL X.K H a xs from h)
    exact ⟨its, rv, p.isList, p.lt, l⟩
  · obtain ⟨its, rv, p, l⟩ := I.tuple (show SqT X.K H a xs from h)
    obtain ⟨o, ho, _⟩ := id p
    exact ⟨its, rv, (show s.heap.IsTuple a its.toArray from p), Heap.lt_size ho, l⟩
theorem seqK_inj {t : Bool} (I : Inv X pins σ H s) (h : SqK t X.K H a xs) (h' : SqK t X.K H a ys) : xs = ys := by
  cases t
  · exact I.list_inj h h'
  · exact I.tuple_inj h h'
end
/-- the two, as they stand at each turn, the items in new pairs -/
def Itzk (K : PySem.W.Frag) (t1 t2 : Bool) (a b : Addr) : It :=
  ⟨fun i H => ∃ (xs ys : List V) (x y : V), SqK t1 K H a xs ∧ SqK t2 K H b ys ∧ xs[i]? = some x ∧ ys[i]? = some y,
    fun i H v H' => ∃ T x y, v = .ref T ∧ H T = none ∧ H' = upd H T (.tup [x, y]) ∧ (∀ xs, SqK t1 K H a xs → xs[i]? = some x) ∧ ∀ ys, SqK t2 K H b ys → ys[i]? = some y,
    fun i H => ∃ xs ys : List V, SqK t1 K H a xs ∧ SqK t2 K H b ys ∧ i = xs.length ∧ i = ys.length⟩
theorem sep_of {z TI TO i1 i2 a b : Addr} (D : ZipApart z TI TO i1 i2 a b) : ZipSep2 z TI TO i1 i2 [i1, a] [i2, b] where
  TIz := D.TIz
  TOz := D.TOz
  TITO := D.TITO
  TIi1 := D.TIi1
  mem1 := by simp
  zf1 := by simp [D.i1z.symm, D.l1z.symm]
  Tf1 := by simp [D.TOi1, D.l1TO.symm]
  TIi2 := D.TIi2
  mem2 := by simp
  zf2 := by simp [D.i2z.symm, D.l2z.symm]
  Tf2 := by simp [D.TOi2, D.l2TO.symm]
  sep1_2 := by simp [D.i12, D.l2i1.symm]
  sep2_1 := by simp [D.i12.symm, D.l1i2.symm]
theorem turn_zipK {P : Program} {w : World} {K : PySem.W.Frag} {t1 t2 : Bool} {elts : List Expr} {kk : Nat} {tpos : Pos} {a b z TI TO i1 i2 : Addr} (D : ZipApart z TI TO i1 i2 a b) :
    Turn P w K (.Tuple elts kk tpos) (Itzk K t1 t2 a b) [z, TI, TO, i1, i2] z (fun i h => IsZip h z TI TO .none ∧ IsTupOf2 h TI (.ref i1) (.ref i2) ∧ (∃ x y, IsTupOf2 h TO x y) ∧ ItK t1 h i1 a i ∧ ItK t2 h i2 b i) where
  mem := by simp
  obj := fun i h st c hc => by
    obtain ⟨hz, hTI, ⟨x, y, hTO⟩, h1, h2⟩ := st
    have e' : c = z ∨ c = TI ∨ c = TO ∨ c = i1 ∨ c = i2 := by simpa using hc
    rcases e' with q | q | q | q | q
    · rw [q]; exact ⟨_, hz, fun v q => nomatch q⟩
    · rw [q]; exact ⟨_, hTI, fun v q => nomatch q⟩
    · rw [q]; exact ⟨_, hTO, fun v q => nomatch q⟩
    · rw [q]; exact h1.obj
    · rw [q]; exact h2.obj
  keep := fun i h h' st k => by
    obtain ⟨hz, hTI, ⟨x, y, hTO⟩, h1, h2⟩ := st
    exact ⟨k z (by simp) _ hz, k TI (by simp) _ hTI, ⟨x, y, k TO (by simp) _ hTO⟩, h1.to fun o q => k i1 (by simp) o q, h2.to fun o q => k i2 (by simp) o q⟩
  item := by
    intro X hP hw hK hc i pins s σ H E I hf st hg
    subst hP hw hK
    obtain ⟨hz, hTI, ⟨x0, y0, hTO⟩, h1, h2⟩ := st
    obtain ⟨xs, ys, x, y, hqx, hqy, hx, hy⟩ := hg
    obtain ⟨its, rv, p, _, _⟩ := seqK I hqx
    obtain ⟨its2, rv2, p2, _, _⟩ := seqK I hqy
    obtain ⟨u, hu, ru⟩ := rv.get hx
    obtain ⟨u2, hu2, ru2⟩ := rv2.get hy
    have hzl : z < s.heap.objs.size := Heap.lt_size hz
    have hh : X.A.in1.handled = none := I.ok.hd hc
    have lt1 : i < its.toArray.size := by
      have := (List.getElem?_eq_some_iff.mp hu).1
      simpa using this
    have lt2 : i < its2.toArray.size := by
      have := (List.getElem?_eq_some_iff.mp hu2).1
      simpa using this
    refine wpAny_pyNext_zipD2_item (sep_of D) (drawsK t1 hh i1 a D.l1i1 its.toArray) (drawsK t2 hh i2 b D.l2i2 its2.toArray) hz hTI hTO ⟨h1, p⟩ ⟨h2, p2⟩ lt1 lt2 fun x1 x2 h' tk e1 e2 z' TO' h1' h2' hT hsz hk => ?_
    have e1' : its[i]? = some x1 := by simpa using e1
    have e2' : its2[i]? = some x2 := by simpa using e2
    rw [hu] at e1'
    rw [hu2] at e2'
    cases e1'
    cases e2'
    refine ⟨_, rfl, wpAny_letOwnedTupleGo_zip (s := { s with heap := h', toks := tk }) z' fun h'' z'' sb => ?_⟩
    have hT2 : h''.get? s.heap.objs.size = some { cls := .type "tuple", data := .seq #[u, u2] } := (sb.2 _ (Nat.ne_of_gt hzl)).trans hT
    have new : ObjOk X.prog X.w (upd H s.heap.objs.size (.tup [x, y])) h'' s.heap.objs.size (.tup [x, y]) :=
      ⟨by show 2 ≤ sizeLine; decide, [u, u2], .cons ru (.cons ru2 .nil), ⟨_, hT2, rfl, _, rfl⟩⟩
    have I1 : Inv X pins σ (upd H s.heap.objs.size (.tup [x, y])) { s with heap := h'', toks := tk } :=
      I.turnedNew (t' := tk) (ch := [z, TI, TO, i1, i2]) (fun c o hb q => (sb.2 c (fun q' => hb (by simp [q']))).trans (hk c o (fun q' => hb (by simp [q'])) (fun q' => hb (by simp [q'])) (fun q' => hb (by simp [q'])) (fun q' => hb (by simp [q'])) q)) hf (Nat.le_refl _) new
    refine ⟨.ref s.heap.objs.size, _, I1, rfl, ⟨_, x, y, rfl, I.hok.fresh (Nat.le_refl _), rfl, fun l hl => by rw [seqK_inj I hl hqx]; exact hx, fun l hl => by rw [seqK_inj I hl hqy]; exact hy⟩, ⟨z'', ?_, ⟨u, u2, ?_⟩, ?_, ?_⟩, fun c hcm => ?_⟩
    · exact (sb.2 _ D.TIz).trans (hk _ _ D.TIz D.TITO D.TIi1 D.TIi2 hTI)
    · exact (sb.2 _ D.TOz).trans TO'
    · exact h1'.1.to fun o q => (sb.2 _ D.i1z).trans q
    · exact h2'.1.to fun o q => (sb.2 _ D.i2z).trans q
    · have hlt : c < s.heap.objs.size := by
        have e' : c = z ∨ c = TI ∨ c = TO ∨ c = i1 ∨ c = i2 := by simpa using hcm
        rcases e' with q | q | q | q | q
        · rw [q]; exact hzl
        · rw [q]; exact Heap.lt_size hTI
        · rw [q]; exact Heap.lt_size hTO
        · rw [q]; obtain ⟨_, e1, _⟩ := h1.obj; exact Heap.lt_size e1
        · rw [q]; obtain ⟨_, e2, _⟩ := h2.obj; exact Heap.lt_size e2
      rw [upd_ne (Nat.ne_of_lt hlt)]
      exact (hf c hcm).1
  done := by
    intro X hP hw hK hc i pins s σ H E I hf st hg
    subst hP hw hK
    obtain ⟨hz, hTI, ⟨x0, y0, hTO⟩, h1, h2⟩ := st
    obtain ⟨xs, ys, hqx, hqy, hl1, hl2⟩ := hg
    obtain ⟨its, rv, p, _, _⟩ := seqK I hqx
    obtain ⟨its2, rv2, p2, _, _⟩ := seqK I hqy
    have l1 := rv.length
    have l2 := rv2.length
    have hh : X.A.in1.handled = none := I.ok.hd hc
    refine wpAny_pyNext_zipD2_end (sep_of D) (drawsK t1 hh i1 a D.l1i1 its.toArray) (drawsK t2 hh i2 b D.l2i2 its2.toArray) hz hTI hTO ⟨h1, p⟩ ⟨h2, p2⟩ (by simp; omega) (by simp; omega) (by simp; omega) fun h' tk hk => ⟨rfl, I.turnedL (t' := tk) (ch := [z, TI, TO, i1, i2]) (fun c o hb q =>
      hk c o (fun q' => hb (by simp [q'])) (fun q' => hb (by simp [q'])) (fun q' => hb (by simp [q'])) (fun q' => hb (by simp [q'])) q) hf⟩
  self := fun A i s Q E st h => wpAny_pyIter_zip st.1 h
def iZipK (K : PySem.W.Frag) (t1 t2 : Bool) (ta : TA) : TI := fun σ H R => ta σ H fun vs H1 => ∃ a b xs ys, vs = [.ref a, .ref b] ∧ SqK t1 K H1 a xs ∧ SqK t2 K H1 b ys ∧ R (Itzk K t1 t2 a b) H1
theorem fresh5 {X : Cx} {pins : List (Addr × Obj)} {σ : L2.St} {H1 : Hp} {s1 : Shared} (I1 : Inv X pins σ H1 s1) : ∀ c, c ∈ [s1.heap.objs.size + 4, s1.heap.objs.size + 2, s1.heap.objs.size + 3, s1.heap.objs.size, s1.heap.objs.size + 1] → FpOk X pins H1 c := fun c hcm => by
  have e' : c = s1.heap.objs.size + 4 ∨ c = s1.heap.objs.size + 2 ∨ c = s1.heap.objs.size + 3 ∨ c = s1.heap.objs.size ∨ c = s1.heap.objs.size + 1 := by simpa using hcm
  have hle : s1.heap.objs.size ≤ c := by
    rcases e' with z | z | z | z | z
    · rw [z]; exact Nat.le_add_right _ _
    · rw [z]; exact Nat.le_add_right _ _
    · rw [z]; exact Nat.le_add_right _ _
    · rw [z]; exact Nat.le_refl _
    · rw [z]; exact Nat.le_add_right _ _
  exact I1.fpOk hle (I1.hok.fresh hle)
theorem pi_zipK {X : Cx} (t1 t2 : Bool) {e e2 : Expr} {ta : TA} {p pos tpos : Pos} {elts : List Expr} {kk : Nat} (hg : Gl X "zip") (hm : X.mg "zip" = none) (ha : PA X [e, e2] ta)
    (hs : starEach [e, e2] X.env = (false, eval e X.env) :: starEach [e2] X.env := by rfl) (hpl : (backTo pos (starEach [e2] X.env)).any (·.1) = false := by rfl) :
    PI X (.Tuple elts kk tpos) (.Call (.Name "zip" p) [e, e2] [] pos) (iZipK X.K t1 t2 ta) := by
  refine ⟨fun pins s σ H R I h => ?_⟩
  refine Call_ (ld_blt I hg hm PyProof.Rows.boot_zip (PyProof.Rows.callWith_type1 (thn (ha.run pos pins s σ H _ I h) fun us s1 ⟨vs, H1, I1, r1, q1⟩ => ?_) hs hpl))
  obtain ⟨a, b, xs, ys, ex, hqx, hqy, q⟩ := q1
  subst ex
  cases r1 with
  | cons r rr =>
    cases rr with
    | cons r' rr =>
      cases rr
      cases r
      cases r'
      obtain ⟨its, rv, p1, la, _⟩ := seqK I1 hqx
      obtain ⟨its2, rv2, p2, lb, _⟩ := seqK I1 hqy
      refine zip_begins2 (beginsK t1 a its.toArray) (beginsK t2 b its2.toArray) p1 p2 fun h' hz hTI hTO h1 h2 hsz hk => wpAny_pyIter_zip hz ?_
      have I2 : Inv X pins σ H1 { s1 with heap := h' } := I1.kept (t' := s1.toks) hk
      exact ⟨s1.heap.objs.size + 4, [s1.heap.objs.size + 4, s1.heap.objs.size + 2, s1.heap.objs.size + 3, s1.heap.objs.size, s1.heap.objs.size + 1], _, _, H1, rfl, I2, turn_zipK (PySem.W.ktu_apart s1.heap.objs.size a b la lb), ⟨hz, hTI, ⟨_, _, hTO⟩, ItK.begin h1, ItK.begin h2⟩, fresh5 I1, q⟩
theorem walk_zipK {K : PySem.W.Frag} {t1 t2 : Bool} {a b : Addr} {xs ys : List V} (hl : ys.length = xs.length) : Walk (Itzk K t1 t2 a b) xs.length (fun H => SqK t1 K H a xs ∧ SqK t2 K H b ys) (YPair (fun i => xs[i]?) (fun i => ys[i]?)) where
  goes := fun i H hi hg => ⟨xs, ys, xs[i], ys[i], hg.1, hg.2, List.getElem?_eq_getElem hi, List.getElem?_eq_getElem (by omega)⟩
  stops := fun H hg => ⟨xs, ys, hg.1, hg.2, rfl, hl.symm⟩
  yields := fun i H x H' hi hg y => by
    obtain ⟨T, x', y', e1, e2, e3, f1, f2⟩ := y
    exact ⟨T, x', y', e1, e2, e3, f1 _ hg.1, f2 _ hg.2⟩

/-! ### list(zip(xs, ys)) -/
/-- pairs tracked at their addresses -/
def putP : Hp → List Addr → List V → List V → Hp
  | H, a :: as, x :: xs, y :: ys => putP (upd H a (.tup [x, y])) as xs ys
  | H, _, _, _ => H
theorem putP_off {b : Addr} : ∀ (as : List Addr) (xs ys : List V) (H : Hp), b ∉ as → putP H as xs ys b = H b
  | [], _, _, _, _ => by simp [putP]
  | _ :: _, [], _, _, _ => by simp [putP]
  | _ :: _, _ :: _, [], _, _ => by simp [putP]
  | a :: as, x :: xs, y :: ys, H, h => by
    show putP (upd H a (.tup [x, y])) as xs ys b = H b
    rw [putP_off as xs ys _ (fun z => h (List.mem_cons_of_mem _ z)), upd_ne (fun z => h (by rw [z]; exact List.mem_cons_self))]
theorem putP_at : ∀ (as : List Addr) (xs ys : List V) (H : Hp), as.Nodup → ∀ (j : Nat) (t : Addr) (x y : V), as[j]? = some t → xs[j]? = some x → ys[j]? = some y → putP H as xs ys t = some (.tup [x, y])
  | [], _, _, _, _, j, t, x, y, h, _, _ => by simp at h
  | _ :: _, [], _, _, _, j, t, x, y, _, h, _ => by simp at h
  | _ :: _, _ :: _, [], _, _, j, t, x, y, _, _, h => by simp at h
  | a :: as, x' :: xs, y' :: ys, H, hn, 0, t, x, y, h1, h2, h3 => by
    have hn' := List.nodup_cons.mp hn
    simp at h1 h2 h3
    subst h1 h2 h3
    show putP (upd H a (.tup [x', y'])) as xs ys a = _
    rw [putP_off as xs ys _ hn'.1, upd_same]
  | a :: as, x' :: xs, y' :: ys, H, hn, j + 1, t, x, y, h1, h2, h3 => by
    have hn' := List.nodup_cons.mp hn
    exact putP_at as xs ys (upd H a (.tup [x', y'])) hn'.2 j t x y (by simpa using h1) (by simpa using h2) (by simpa using h3)
/-- all that was tracked stands, a new list p of new pairs -/
def rPairs (xs ys : List V) (H : Hp) (Q : VK) : Prop :=
  ∀ (H' : Hp) (p : Addr) (ts : List Addr), (∀ b o, H b = some o → H' b = some o) → H p = none → (∀ t ∈ ts, H t = none) → H' p = some (.lst (ts.map V.ref)) → ts.length = xs.length →
    (∀ (j : Nat) (t : Addr) (x y : V), ts[j]? = some t → xs[j]? = some x → ys[j]? = some y → H' t = some (.tup [x, y])) → Q (.ref p) H'
theorem pairs_laid {X : Cx} {pins : List (Addr × Obj)} {σ : L2.St} {H : Hp} {s : Shared} {h' : Heap} {tk : Nat} {xs ys : List V} {its its2 : List Value} {acc : Array Value} {c : Nat} {as : List Addr} {S : Addr} (I : Inv X pins σ H s) (hz : xs.length ≤ sizeLine) (hxy : ys.length = xs.length) (rv : Vals xs its) (rv2 : Vals ys its2)
    (hS0 : s.heap.objs.size ≤ S) (hk : ∀ b o, s.heap.get? b = some o → h'.get? b = some o) (hS : h'.get? S = some { cls := .type "list", dict := none, data := .seq acc c, slots := #[] }) (hl : as.length = xs.length) (hG : ZL.ZG its.toArray its2.toArray S h' as) (hacc : acc.toList = as.map Value.ref) :
    ∃ H' : Hp, (∀ b o, H b = some o → H' b = some o) ∧ H S = none ∧ (∀ t ∈ as, H t = none) ∧ H' S = some (.lst (as.map V.ref)) ∧ (∀ (j : Nat) (t : Addr) (x y : V), as[j]? = some t → xs[j]? = some x → ys[j]? = some y → H' t = some (.tup [x, y])) ∧ Inv X pins σ H' { s with heap := h', toks := tk } := by
  have hSn : S ∉ as := fun z => Nat.lt_irrefl _ (hG.above _ z)
  have nd : as.Nodup := List.Pairwise.imp (fun {a b} (h : a < b) => Nat.ne_of_lt h) hG.rise
  have new : ∀ t ∈ as, H t = none := fun t ht => I.hok.fresh (Nat.le_trans hS0 (Nat.le_of_lt (hG.above t ht)))
  have newS : H S = none := I.hok.fresh hS0
  have atP := putP_at as xs ys (upd H S (.lst (as.map V.ref))) nd
  have off : ∀ b, b ∉ as → b ≠ S → putP (upd H S (.lst (as.map V.ref))) as xs ys b = H b := fun b h1 h2 => by rw [putP_off as xs ys _ h1, upd_ne h2]
  have low : ∀ b o, s.heap.get? b = some o → b ∉ as ∧ b ≠ S := fun b o e => ⟨fun z => absurd (Heap.lt_size e) (Nat.not_lt.mpr (Nat.le_trans hS0 (Nat.le_of_lt (hG.above b z)))), Nat.ne_of_lt (Nat.lt_of_lt_of_le (Heap.lt_size e) hS0)⟩
  have kp : ∀ b u, H b = some u → (putP (upd H S (.lst (as.map V.ref))) as xs ys) b = some u := fun b u e => by
    rw [off b (fun z => by rw [new b z] at e; cases e) (fun z => by rw [z, newS] at e; cases e)]
    exact e
  have eS : putP (upd H S (.lst (as.map V.ref))) as xs ys S = some (.lst (as.map V.ref)) := by rw [putP_off as xs ys _ hSn, upd_same]
  refine ⟨putP (upd H S (.lst (as.map V.ref))) as xs ys, kp, newS, new, eS, atP, ?_⟩
  refine I.call' (ch := []) rfl ⟨fun b o q _ _ _ => hk b o q, fun b o q _ _ _ => ⟨o.slots, hk b o q⟩, fun b o q n _ => ?_, fun b o q _ => ⟨o, hk b o q⟩, fun b xs q => kp b _ q, fun b o u q => kp b _ q, fun b ps q => ⟨#[], by rw [kp b _ q]; simp⟩⟩ (fun b u q => ?_) I.bare fun b z => by simp at z
  · obtain ⟨z1, z2⟩ := low b o q
    rw [off b z1 z2]
    exact n
  · by_cases hb : b ∈ as
    · obtain ⟨j, hj⟩ := List.mem_iff_getElem?.mp hb
      obtain ⟨x', y', f1, f2, f3⟩ := hG.pairs j b hj
      have jl : j < as.length := (List.getElem?_eq_some_iff.mp hj).1
      have ex : xs[j]? = some xs[j] := List.getElem?_eq_getElem (by omega)
      have ey : ys[j]? = some ys[j] := List.getElem?_eq_getElem (by omega)
      have e3 := atP j b _ _ hj ex ey
      have q' := e3.symm.trans q
      cases q'
      obtain ⟨u, g1, g2⟩ := rv.get ex
      obtain ⟨u2, g3, g4⟩ := rv2.get ey
      have f1' : its[j]? = some x' := by simpa using f1
      have f2' : its2[j]? = some y' := by simpa using f2
      rw [g1] at f1'
      rw [g3] at f2'
      cases f1'
      cases f2'
      exact ⟨by show 2 ≤ sizeLine; decide, [x', y'], .cons g2 (.cons g4 .nil), ⟨_, f3, rfl, _, rfl⟩⟩
    · by_cases hb2 : b = S
      · rw [hb2] at q ⊢
        rw [eS] at q
        cases q
        refine ⟨by rw [List.length_map]; omega, acc.toList, c, by rw [hacc]; exact LiR as, ?_⟩
        rw [Array.toArray_toList]
        exact hS
      · rw [off b hb hb2] at q
        exact (I.hok b u q).stay (fun d v _ y => hk d v y) (fun d y => kp d _ y) fun d xs y => kp d _ y
where
  LiR : ∀ as : List Addr, Vals (as.map V.ref) (as.map Value.ref)
    | [] => .nil
    | _ :: as => .cons rfl (LiR as)
def tListZip (K : PySem.W.Frag) (ta : TA) : TE := fun σ H Q => ta σ H fun vs H1 => ∃ a b xs ys, vs = [.ref a, .ref b] ∧ SqL K H1 a xs ∧ SqL K H1 b ys ∧ ys.length = xs.length ∧ rPairs xs ys H1 Q
theorem pe_listZip {X : Cx} {e e2 : Expr} {ta : TA} {p p2 pos pos2 : Pos} (hc : X.calm = true) (hg : Gl X "list") (hm : X.mg "list" = none) (hg2 : Gl X "zip") (hm2 : X.mg "zip" = none) (ha : PA X [e, e2] ta)
    (hs : starEach [e, e2] X.env = (false, eval e X.env) :: starEach [e2] X.env := by rfl) (hpl : (backTo pos2 (starEach [e2] X.env)).any (·.1) = false := by rfl)
    (hs2 : starEach [.Call (.Name "zip" p2) [e, e2] [] pos2] X.env = (false, eval (.Call (.Name "zip" p2) [e, e2] [] pos2) X.env) :: starEach [] X.env := by rfl) :
    PE X (.Call (.Name "list" p) [.Call (.Name "zip" p2) [e, e2] [] pos2] [] pos) (tListZip X.K ta) := by
  refine ⟨fun pins s σ H Q I hq => ?_⟩
  refine wpAny_Call_Name_kw (ld_blt I hg hm PyProof.Rows.boot_list ?_)
  refine PyProof.Rows.callWith_type1 ?_ hs2 rfl
  rw [hs2]
  show wpAny _ _ (spliced ((false, eval (.Call (.Name "zip" p2) [e, e2] [] pos2) X.env) :: backTo pos (starEach [] X.env))) _ _ s
  refine Calls.spliced_cons ?_
  refine Call_ (ld_blt I hg2 hm2 PyProof.Rows.boot_zip (PyProof.Rows.callWith_type1 (thn (ha.run pos2 pins s σ H _ I hq) fun us s1 ⟨vs, H1, I1, r1, q1⟩ => ?_) hs hpl))
  obtain ⟨a, b, xs, ys, ex, hqx, hqy, hl, q⟩ := q1
  subst ex
  cases r1 with
  | cons r rr =>
    cases rr with
    | cons r' rr =>
      cases rr
      cases r
      cases r'
      obtain ⟨its, rv, p1, z1⟩ := I1.list hqx
      obtain ⟨its2, rv2, p2', _⟩ := I1.list hqy
      have la : a < s1.heap.objs.size := p1.lt
      have lb : b < s1.heap.objs.size := p2'.lt
      have l1 := rv.length
      have l2 := rv2.length
      refine call_zip_2 p1.isList p2'.isList fun h1 hz hTI hTO i1 i2 hsz hk => ?_
      refine Calls.spliced_nil ?_
      refine ZL.zl_call (s := { s1 with heap := h1 }) (I1.ok.hd hc) (PySem.W.ktu_apart s1.heap.objs.size a b la lb) hz hTI hTO i1 i2 (Heap.IsList.at p1.isList fun o e => hk _ o e) (Heap.IsList.at p2'.isList fun o e => hk _ o e) (by simp; omega) (by simp; omega) fun h' tk acc c as hk' hS hl' hG hacc => ?_
      have hkk : ∀ b o, s1.heap.get? b = some o → h'.get? b = some o := fun b o e => by
        have lt := Heap.lt_size e
        have n0 : b ≠ s1.heap.objs.size := Nat.ne_of_lt lt
        have n1 : b ≠ s1.heap.objs.size + 1 := Nat.ne_of_lt (Nat.lt_of_lt_of_le lt (Nat.le_add_right _ _))
        have n3 : b ≠ s1.heap.objs.size + 3 := Nat.ne_of_lt (Nat.lt_of_lt_of_le lt (Nat.le_add_right _ _))
        have n4 : b ≠ s1.heap.objs.size + 4 := Nat.ne_of_lt (Nat.lt_of_lt_of_le lt (Nat.le_add_right _ _))
        exact hk' b o n4 n3 n0 n1 (hk b o e)
      obtain ⟨H', k1, k2, k3, k4, k5, J⟩ := pairs_laid (tk := tk) I1 z1 hl rv rv2 (by show s1.heap.objs.size ≤ h1.objs.size; rw [hsz]; exact Nat.le_add_right _ _) hkk hS (by simpa [l1] using hl') hG hacc
      exact ⟨.ref _, H', J, rfl, q H' _ as k1 k2 k3 k4 (by simpa [l1] using hl') k5⟩
end ZM
/-! the plain law: counts, paces, digits, cells -/
namespace G26
open PySem
def prod : List Int → Int
  | [] => 1
  | n :: r => n * prod r
def paces : List Int → List Int
  | [] => []
  | _ :: r => prod r :: paces r
def dot : List Int → List Int → Int
  | a :: as, b :: bs => a * b + dot as bs
  | _, _ => 0
def digits : List Int → Int → List Int
  | [], _ => []
  | p :: r, n => n / p :: digits r (n % p)
def keep1 (p : Int × Int) : Int × Int := if p.1 = 1 then (1, 0) else p
def keepA (ax : List (Int × Int)) : List (Int × Int) := ax.map keep1
def wAx (ns : List Int) : List (Int × Int) := keepA (ns.zip (paces ns))
def low1 (p : Int × Int) : Int := if p.2 * (p.1 - 1) < 0 then p.2 * (p.1 - 1) else 0
def hig1 (p : Int × Int) : Int := if p.2 * (p.1 - 1) > 0 then p.2 * (p.1 - 1) else 0
def low (ax : List (Int × Int)) : Int := (ax.map low1).sum
def hig (ax : List (Int × Int)) : Int := (ax.map hig1).sum
def cellsA : List (Int × Int) → List Int → List Int
  | [], L => L
  | p :: r, L => cellsA r (L.flatMap fun c => (List.range p.1.toNat).map fun (k : Nat) => c + p.2 * (k : Int))
theorem prod_app (xs ys : List Int) : prod (xs ++ ys) = prod xs * prod ys := by
  induction xs with
  | nil => simp [prod]
  | cons x r ih => show x * prod (r ++ ys) = x * prod r * prod ys; rw [ih, Int.mul_assoc]
theorem prod_snoc (xs : List Int) (n : Int) : prod (xs ++ [n]) = prod xs * n := by
  rw [prod_app]; simp [prod]
theorem take_more {α : Type} : ∀ {l : List α} {i : Nat} {x : α}, l[i]? = some x → l.take (i + 1) = l.take i ++ [x]
  | [], i, x, h => by simp at h
  | a :: l, 0, x, h => by simp at h; simp [h]
  | a :: l, i + 1, x, h => by
    have ih := take_more (l := l) (i := i) (x := x) (by simpa using h)
    show a :: l.take (i + 1) = a :: l.take i ++ [x]
    rw [ih]; rfl
theorem drop_more {α : Type} : ∀ {l : List α} {i : Nat} {x : α}, l[i]? = some x → l.drop i = x :: l.drop (i + 1)
  | [], i, x, h => by simp at h
  | a :: l, 0, x, h => by simp at h; simp [h]
  | a :: l, i + 1, x, h => drop_more (l := l) (i := i) (x := x) (by simpa using h)
theorem paces_len : ∀ ns : List Int, (paces ns).length = ns.length
  | [] => rfl
  | _ :: r => by show (paces r).length + 1 = r.length + 1; rw [paces_len r]
def Pos (ns : List Int) : Prop := ∀ n ∈ ns, 1 ≤ n
theorem Pos.tail {n : Int} {r : List Int} (h : Pos (n :: r)) : Pos r := fun x hx => h x (List.mem_cons_of_mem _ hx)
theorem Pos.head {n : Int} {r : List Int} (h : Pos (n :: r)) : 1 ≤ n := h n List.mem_cons_self
theorem prod_pos : ∀ {ns : List Int}, Pos ns → 1 ≤ prod ns
  | [], _ => by simp [prod]
  | n :: r, h => by
    have h1 := h.head
    have h2 := prod_pos h.tail
    show 1 ≤ n * prod r
    have : 1 * 1 ≤ n * prod r := Int.mul_le_mul h1 h2 (by omega) (by omega)
    omega
theorem paces_pos : ∀ {ns : List Int}, Pos ns → ∀ p ∈ paces ns, 1 ≤ p ∧ p ≤ prod ns
  | [], _, p, hp => by simp [paces] at hp
  | n :: r, h, p, hp => by
    have h1 := h.head
    have h2 := prod_pos h.tail
    have h3 : prod r ≤ n * prod r := by
      have : 1 * prod r ≤ n * prod r := Int.mul_le_mul_of_nonneg_right h1 (by omega)
      omega
    have hp' : p = prod r ∨ p ∈ paces r := by simpa [paces] using hp
    show 1 ≤ p ∧ p ≤ n * prod r
    rcases hp' with rfl | hp'
    · exact ⟨h2, h3⟩
    · have := paces_pos h.tail p hp'
      omega
theorem dig_len : ∀ (ps : List Int) (n : Int), (digits ps n).length = ps.length
  | [], _ => rfl
  | p :: r, n => by show (digits r (n % p)).length + 1 = r.length + 1; rw [dig_len r]
theorem dig_ok : ∀ {ns : List Int} {n : Int}, Pos ns → 0 ≤ n → n < prod ns → ∀ (j : Nat) (d m : Int), (digits (paces ns) n)[j]? = some d → ns[j]? = some m → 0 ≤ d ∧ d < m
  | [], _, _, _, _, j, d, m, h, _ => by simp [digits, paces] at h
  | s :: r, n, h, h0, h1, 0, d, m, e1, e2 => by
    have h2 := prod_pos h.tail
    have e1' : n / prod r = d := by simpa [digits, paces] using e1
    have e2' : s = m := by simpa using e2
    subst e1' e2'
    refine ⟨Int.ediv_nonneg h0 (by omega), ?_⟩
    exact Int.ediv_lt_of_lt_mul (by omega) h1
  | s :: r, n, h, h0, h1, j + 1, d, m, e1, e2 => by
    have h2 := prod_pos h.tail
    have e1' : (digits (paces r) (n % prod r))[j]? = some d := by simpa [digits, paces] using e1
    exact dig_ok h.tail (Int.emod_nonneg _ (by omega)) (Int.emod_lt_of_pos _ (by omega)) j d m e1' (by simpa using e2)
theorem dig_dot : ∀ {ns : List Int} {n : Int}, Pos ns → 0 ≤ n → n < prod ns → dot (digits (paces ns) n) (paces ns) = n
  | [], n, _, h0, h1 => by
    have : prod [] = 1 := rfl
    show (0 : Int) = n
    omega
  | s :: r, n, h, h0, h1 => by
    have h2 := prod_pos h.tail
    show n / prod r * prod r + dot (digits (paces r) (n % prod r)) (paces r) = n
    rw [dig_dot h.tail (Int.emod_nonneg _ (by omega)) (Int.emod_lt_of_pos _ (by omega))]
    exact Int.ediv_mul_add_emod n (prod r)
theorem wAx_cons (s : Int) (r : List Int) : wAx (s :: r) = keep1 (s, prod r) :: wAx r := rfl
theorem wAx_len (ns : List Int) : (wAx ns).length = ns.length := by
  unfold wAx keepA
  rw [List.length_map, List.length_zip, paces_len]
  omega
theorem wAx_fst : ∀ ns : List Int, (wAx ns).map (·.1) = ns
  | [] => rfl
  | s :: r => by
    rw [wAx_cons, List.map_cons, wAx_fst r]
    unfold keep1
    by_cases h : s = 1
    · simp [h]
    · simp [h]
/-- the cell by a place's numbers is the number -/
theorem dot_keep : ∀ (ns ds : List Int), ds.length = ns.length → (∀ (j : Nat) (d m : Int), ds[j]? = some d → ns[j]? = some m → 0 ≤ d ∧ d < m) → dot ds ((wAx ns).map (·.2)) = dot ds (paces ns)
  | [], ds, _, _ => by simp [wAx, keepA, paces]
  | s :: r, [], h, _ => by simp at h
  | s :: r, d :: ds, h, hd => by
    rw [wAx_cons, List.map_cons]
    show d * (keep1 (s, prod r)).2 + dot ds ((wAx r).map (·.2)) = d * prod r + dot ds (paces r)
    rw [dot_keep r ds (by simpa using h) fun j x m e1 e2 => hd (j + 1) x m (by simpa using e1) (by simpa using e2)]
    have h0 := hd 0 d s rfl rfl
    unfold keep1
    by_cases e : s = 1
    · have : d = 0 := by omega
      simp [e, this]
    · simp [e]
theorem low_wAx : ∀ {ns : List Int}, Pos ns → low (wAx ns) = 0
  | [], _ => rfl
  | s :: r, h => by
    have h1 := h.head
    have h2 := prod_pos h.tail
    show low1 (keep1 (s, prod r)) + low (wAx r) = 0
    rw [low_wAx h.tail]
    unfold low1 keep1
    by_cases e : s = 1
    · simp [e]
    · have : 0 ≤ prod r * (s - 1) := Int.mul_nonneg (by omega) (by omega)
      simp only [e, if_false]
      rw [if_neg (by omega)]
      rfl
theorem hig_wAx : ∀ {ns : List Int}, Pos ns → hig (wAx ns) = prod ns - 1
  | [], _ => rfl
  | s :: r, h => by
    have h1 := h.head
    have h2 := prod_pos h.tail
    show hig1 (keep1 (s, prod r)) + hig (wAx r) = s * prod r - 1
    rw [hig_wAx h.tail]
    unfold hig1 keep1
    by_cases e : s = 1
    · simp [e]
    · have h3 : 0 < prod r * (s - 1) := Int.mul_pos (by omega) (by omega)
      have h4 : prod r * (s - 1) = s * prod r - prod r := by rw [Int.mul_sub, Int.mul_comm, Int.mul_one]
      simp only [e, if_false]
      rw [if_pos h3, h4]
      omega
theorem range_blocks (c P : Int) (p : Nat) (hP : P = (p : Int)) : ∀ s : Nat,
    ((List.range s).map fun (k : Nat) => c + P * (k : Int)).flatMap (fun d => (List.range p).map fun (j : Nat) => d + (j : Int)) = (List.range (s * p)).map fun (k : Nat) => c + (k : Int)
  | 0 => by simp
  | s + 1 => by
    rw [List.range_succ, List.map_append, List.flatMap_append, range_blocks c P p hP s, Nat.succ_mul, List.range_add, List.map_append]
    congr 1
    simp only [List.map_cons, List.map_nil, List.flatMap_cons, List.flatMap_nil, List.append_nil, List.map_map]
    refine List.map_congr_left fun k _ => ?_
    show c + P * (s : Int) + (k : Int) = c + ((s * p + k : Nat) : Int)
    rw [hP, Int.natCast_add, Int.natCast_mul, Int.mul_comm (p : Int), Int.add_assoc]
theorem cells_wAx : ∀ {ns : List Int} (L : List Int), Pos ns → cellsA (wAx ns) L = L.flatMap fun c => (List.range (prod ns).toNat).map fun (k : Nat) => c + (k : Int)
  | [], L, _ => by
    show L = L.flatMap fun c => (List.range 1).map fun (k : Nat) => c + (k : Int)
    have : ∀ L : List Int, L = L.flatMap fun c => (List.range 1).map fun (k : Nat) => c + (k : Int) := fun L => by
      induction L with
      | nil => rfl
      | cons x r ih => rw [List.flatMap_cons, ← ih]; simp
    exact this L
  | s :: r, L, h => by
    have h1 := h.head
    have h2 := prod_pos h.tail
    rw [wAx_cons]
    show cellsA (wAx r) (L.flatMap fun c => (List.range (keep1 (s, prod r)).1.toNat).map fun (k : Nat) => c + (keep1 (s, prod r)).2 * (k : Int)) = _
    rw [cells_wAx _ h.tail, List.flatMap_assoc]
    congr 1
    funext c
    show _ = (List.range (s * prod r).toNat).map fun (k : Nat) => c + (k : Int)
    unfold keep1
    by_cases e : s = 1
    · simp [e]
    · simp only [e, if_false]
      have e1 : (s * prod r).toNat = s.toNat * (prod r).toNat := by
        have : ((s.toNat * (prod r).toNat : Nat) : Int) = s * prod r := by rw [Int.natCast_mul, Int.toNat_of_nonneg (by omega), Int.toNat_of_nonneg (by omega)]
        omega
      rw [e1]
      exact range_blocks c (prod r) (prod r).toNat (by omega) s.toNat
theorem prod_cut {ns : List Int} (h : Pos ns) (j : Nat) : 1 ≤ prod (ns.take j) ∧ prod (ns.take j) ≤ prod ns ∧ 1 ≤ prod (ns.drop j) ∧ prod (ns.drop j) ≤ prod ns := by
  have e : ns.take j ++ ns.drop j = ns := List.take_append_drop j ns
  have h1 : Pos (ns.take j) := fun n hn => h n (List.mem_of_mem_take hn)
  have h2 : Pos (ns.drop j) := fun n hn => h n (List.mem_of_mem_drop hn)
  have q1 := prod_pos h1
  have q2 := prod_pos h2
  have e2 : prod ns = prod (ns.take j) * prod (ns.drop j) := by rw [← prod_app, e]
  have a1 := Int.mul_le_mul_of_nonneg_right q1 (show 0 ≤ prod (ns.drop j) by omega)
  have a2 := Int.mul_le_mul_of_nonneg_left q2 (show 0 ≤ prod (ns.take j) by omega)
  rw [e2]
  omega
/-- the products, item by item -/
def dotL (as bs : List Int) : List Int := (as.zip bs).map fun p => p.1 * p.2
theorem dotL_sum : ∀ as bs : List Int, (dotL as bs).sum = dot as bs
  | [], _ => by simp [dotL, dot]
  | _ :: _, [] => by simp [dotL, dot]
  | a :: as, b :: bs => by
    show a * b + (dotL as bs).sum = a * b + dot as bs
    rw [dotL_sum as bs]
theorem dotL_len {as bs : List Int} (h : as.length = bs.length) : (dotL as bs).length = as.length := by
  unfold dotL
  rw [List.length_map, List.length_zip]
  omega
theorem dotL_at {as bs : List Int} {i : Nat} {a b : Int} (h1 : as[i]? = some a) (h2 : bs[i]? = some b) : (dotL as bs)[i]? = some (a * b) := by
  unfold dotL
  rw [List.getElem?_map]
  have : (as.zip bs)[i]? = some (a, b) := by
    rw [List.getElem?_zip_eq_some]
    exact ⟨h1, h2⟩
  rw [this]
  rfl
/-- what is left of a number behind some digits -/
def rem : List Int → Int → Int
  | [], n => n
  | p :: r, n => rem r (n % p)
theorem dig_snoc : ∀ (xs : List Int) (p n : Int), digits (xs ++ [p]) n = digits xs n ++ [rem xs n / p]
  | [], _, _ => rfl
  | x :: xs, p, n => by
    show n / x :: digits (xs ++ [p]) (n % x) = n / x :: (digits xs (n % x) ++ [rem xs (n % x) / p])
    rw [dig_snoc xs p (n % x)]
theorem rem_snoc : ∀ (xs : List Int) (p n : Int), rem (xs ++ [p]) n = rem xs n % p
  | [], _, _ => rfl
  | x :: xs, p, n => rem_snoc xs p (n % x)
theorem rem_ok : ∀ {xs : List Int} {n : Int}, (∀ p ∈ xs, 1 ≤ p) → 0 ≤ n → 0 ≤ rem xs n ∧ rem xs n ≤ n
  | [], n, _, h0 => ⟨h0, Int.le_refl _⟩
  | x :: xs, n, h, h0 => by
    have hx := h x List.mem_cons_self
    have e0 := Int.emod_nonneg n (b := x) (by omega)
    have e1 : n % x ≤ n := by
      have a1 := Int.ediv_mul_add_emod n x
      have a2 := Int.mul_nonneg (Int.ediv_nonneg h0 (show 0 ≤ x by omega)) (show 0 ≤ x by omega)
      omega
    have ih := rem_ok (xs := xs) (n := n % x) (fun p hp => h p (List.mem_cons_of_mem _ hp)) e0
    show 0 ≤ rem xs (n % x) ∧ rem xs (n % x) ≤ n
    omega
/-- one axis more -/
def stepC (p : Int × Int) (L : List Int) : List Int := L.flatMap fun c => (List.range p.1.toNat).map fun (k : Nat) => c + p.2 * (k : Int)
theorem cells_snoc : ∀ (xs : List (Int × Int)) (p : Int × Int) (L : List Int), cellsA (xs ++ [p]) L = stepC p (cellsA xs L)
  | [], _, _ => rfl
  | x :: xs, p, L => cells_snoc xs p (stepC x L)
theorem stepC_len (p : Int × Int) (L : List Int) : (stepC p L).length = L.length * p.1.toNat := by
  unfold stepC
  induction L with
  | nil => simp
  | cons c r ih => rw [List.flatMap_cons, List.length_append, ih, List.length_map, List.length_range, List.length_cons, Nat.succ_mul]; omega
theorem cells_len : ∀ {ax : List (Int × Int)} (L : List Int), Pos (ax.map (·.1)) → ((cellsA ax L).length : Int) = (L.length : Int) * prod (ax.map (·.1))
  | [], L, _ => by simp [cellsA, prod]
  | p :: r, L, h => by
    have h1 : 1 ≤ p.1 := h.head
    show ((cellsA r (stepC p L)).length : Int) = (L.length : Int) * (p.1 * prod (r.map (·.1)))
    rw [cells_len (stepC p L) h.tail, stepC_len, Int.natCast_mul, Int.toNat_of_nonneg (by omega), Int.mul_assoc]
end G26
namespace G26
open PySem PySem.Spec PyProof.Rows L2
def top (i : Nat) : Stmt := PySem.Challenge.pw_pacehall_k26_wholes.main.body.getD i (.Pass ⟨0, 0, 0, 0⟩)
abbrev s_isw : Stmt := top 6
abbrev n_isw : List Str := ["thing"]
abbrev p_isw : List Str := ["thing"]
theorem sc_isw : FnScope n_isw p_isw (defScope s_isw) := ⟨rfl, rfl, rfl, by decide +kernel, rfl, by decide +kernel, by decide +kernel⟩
abbrev s_cnt : Stmt := top 8
abbrev n_cnt : List Str := ["sizes", "found", "size"]
abbrev p_cnt : List Str := ["sizes"]
theorem sc_cnt : FnScope n_cnt p_cnt (defScope s_cnt) := ⟨rfl, rfl, rfl, by decide +kernel, rfl, by decide +kernel, by decide +kernel⟩
abbrev s_pac : Stmt := top 9
abbrev n_pac : List Str := ["sizes", "found", "pace", "size"]
abbrev p_pac : List Str := ["sizes"]
theorem sc_pac : FnScope n_pac p_pac (defScope s_pac) := ⟨rfl, rfl, rfl, by decide +kernel, rfl, by decide +kernel, by decide +kernel⟩
abbrev s_nee : Stmt := top 10
abbrev n_nee : List Str := ["sizes", "place", "size", "at"]
abbrev p_nee : List Str := ["sizes", "place"]
theorem sc_nee : FnScope n_nee p_nee (defScope s_nee) := ⟨rfl, rfl, rfl, by decide +kernel, rfl, by decide +kernel, by decide +kernel⟩
abbrev s_num : Stmt := top 11
abbrev n_num : List Str := ["sizes", "place", "at", "pace"]
abbrev p_num : List Str := ["sizes", "place"]
theorem sc_num : FnScope n_num p_num (defScope s_num) := ⟨rfl, rfl, rfl, by decide +kernel, rfl, by decide +kernel, by decide +kernel⟩
abbrev s_pla : Stmt := top 12
abbrev n_pla : List Str := ["sizes", "number", "found", "pace", "at"]
abbrev p_pla : List Str := ["sizes", "number"]
theorem sc_pla : FnScope n_pla p_pla (defScope s_pla) := ⟨rfl, rfl, rfl, by decide +kernel, rfl, by decide +kernel, by decide +kernel⟩
abbrev s_axi : Stmt := top 18
abbrev n_axi : List Str := ["thing"]
abbrev p_axi : List Str := ["thing"]
theorem sc_axi : FnScope n_axi p_axi (defScope s_axi) := ⟨rfl, rfl, rfl, by decide +kernel, rfl, by decide +kernel, by decide +kernel⟩
abbrev s_kep : Stmt := top 19
abbrev n_kep : List Str := ["axes", "found", "axis"]
abbrev p_kep : List Str := ["axes"]
theorem sc_kep : FnScope n_kep p_kep (defScope s_kep) := ⟨rfl, rfl, rfl, by decide +kernel, rfl, by decide +kernel, by decide +kernel⟩
abbrev s_sam : Stmt := top 23
abbrev n_sam : List Str := ["one", "other"]
abbrev p_sam : List Str := ["one", "other"]
theorem sc_sam : FnScope n_sam p_sam (defScope s_sam) := ⟨rfl, rfl, rfl, by decide +kernel, rfl, by decide +kernel, by decide +kernel⟩
abbrev s_dra : Stmt := top 25
abbrev n_dra : List Str := ["_law_script", "_law_k", "_law_many", "_law_number"]
abbrev p_dra : List Str := ["_law_script", "_law_k", "_law_many"]
theorem sc_dra : FnScope n_dra p_dra (defScope s_dra) := ⟨rfl, rfl, rfl, by decide +kernel, rfl, by decide +kernel, by decide +kernel⟩
abbrev s_lpa : Stmt := top 27
abbrev n_lpa : List Str := ["_law_sizes_here", "_law_paces_here", "_law_cell", "_law_ways", "_law_behind", "_law_k", "_law_at", "_law_pace"]
abbrev p_lpa : List Str := ["_law_sizes_here", "_law_paces_here", "_law_cell"]
theorem sc_lpa : FnScope n_lpa p_lpa (defScope s_lpa) := ⟨rfl, rfl, rfl, by decide +kernel, rfl, by decide +kernel, by decide +kernel⟩
abbrev s_flo : Stmt := top 28
abbrev n_flo : List Str := ["_law_script", "_law_at", "_law_axes_here", "_law_least", "_law_greatest", "_law_size", "_law_pace", "_law_first"]
abbrev p_flo : List Str := ["_law_script", "_law_at", "_law_axes_here"]
theorem sc_flo : FnScope n_flo p_flo (defScope s_flo) := ⟨rfl, rfl, rfl, by decide +kernel, rfl, by decide +kernel, by decide +kernel⟩
abbrev s_sma : Stmt := top 29
abbrev n_sma : List Str := ["_law_script", "_law_at", "_law_sizes_here", "_law_paces_here", "_law_count", "_law_k", "_law_cell", "_law_size", "_law_axes_here", "_law_pace"]
abbrev p_sma : List Str := ["_law_script", "_law_at"]
theorem sc_sma : FnScope n_sma p_sma (defScope s_sma) := ⟨rfl, rfl, rfl, by decide +kernel, rfl, by decide +kernel, by decide +kernel⟩
abbrev s_lsi : Stmt := top 31
abbrev n_lsi : List Str := ["_law_script", "_law_sizes_here", "_law_count", "_law_great_here", "_law_k", "_law_cell", "_law_size"]
abbrev p_lsi : List Str := ["_law_script"]
theorem sc_lsi : FnScope n_lsi p_lsi (defScope s_lsi) := ⟨rfl, rfl, rfl, by decide +kernel, rfl, by decide +kernel, by decide +kernel⟩
abbrev s_roo : Stmt := top 32
abbrev n_roo : List Str := ["_law_count", "_law_cell", "_law_some"]
abbrev p_roo : List Str := ["_law_count", "_law_cell"]
theorem sc_roo : FnScope n_roo p_roo (defScope s_roo) := ⟨rfl, rfl, rfl, by decide +kernel, rfl, by decide +kernel, by decide +kernel⟩
abbrev s_odd : Stmt := top 33
abbrev n_odd : List Str := ["_law_sizes_here", "_law_count", "_law_room_here"]
abbrev p_odd : List Str := ["_law_sizes_here", "_law_count"]
theorem sc_odd : FnScope n_odd p_odd (defScope s_odd) := ⟨rfl, rfl, rfl, by decide +kernel, rfl, by decide +kernel, by decide +kernel⟩
abbrev s_tol : Stmt := top 34
abbrev n_tol : List Str := ["_law_sizes_here", "_law_room_here", "_law_left_out", "_law_found", "_law_word"]
abbrev p_tol : List Str := ["_law_sizes_here", "_law_room_here", "_law_left_out"]
theorem sc_tol : FnScope n_tol p_tol (defScope s_tol) := ⟨rfl, rfl, rfl, by decide +kernel, rfl, by decide +kernel, by decide +kernel⟩
abbrev s_lax : Stmt := top 35
abbrev n_lax : List Str := ["_law_sizes_here", "_law_axes_here", "_law_pace", "_law_k", "_law_size"]
abbrev p_lax : List Str := ["_law_sizes_here"]
theorem sc_lax : FnScope n_lax p_lax (defScope s_lax) := ⟨rfl, rfl, rfl, by decide +kernel, rfl, by decide +kernel, by decide +kernel⟩
abbrev s_liw : Stmt := top 36
abbrev n_liw : List Str := ["_law_found", "_law_sizes_here", "_law_room_here", "_law_count", "_law_cell", "_law_number"]
abbrev p_liw : List Str := ["_law_found", "_law_sizes_here", "_law_room_here", "_law_count", "_law_cell"]
theorem sc_liw : FnScope n_liw p_liw (defScope s_liw) := ⟨rfl, rfl, rfl, by decide +kernel, rfl, by decide +kernel, by decide +kernel⟩
abbrev s_oth : Stmt := top 37
abbrev n_oth : List Str := ["_law_parts", "_law_cell", "_law_room_here", "_law_first", "_law_axes_here", "_law_way"]
abbrev p_oth : List Str := ["_law_parts", "_law_cell"]
theorem sc_oth : FnScope n_oth p_oth (defScope s_oth) := ⟨rfl, rfl, rfl, by decide +kernel, rfl, by decide +kernel, by decide +kernel⟩
abbrev s_ali : Stmt := top 38
abbrev n_ali : List Str := ["_law_one", "_law_other_here", "_law_due", "_law_there", "_law_beside", "_law_found", "_law_size", "_law_pace"]
abbrev p_ali : List Str := ["_law_one", "_law_other_here"]
theorem sc_ali : FnScope n_ali p_ali (defScope s_ali) := ⟨rfl, rfl, rfl, by decide +kernel, rfl, by decide +kernel, by decide +kernel⟩
abbrev s_law : Stmt := top 39
abbrev n_law : List Str := ["_law_script", "_law_sizes_here", "_law_count", "_law_cell", "_law_room_here", "_law_handed", "_law_word", "_law_found", "_law_one", "_law_other_here"]
abbrev p_law : List Str := ["_law_script"]
theorem sc_law : FnScope n_law p_law (defScope s_law) := ⟨rfl, rfl, rfl, by decide +kernel, rfl, by decide +kernel, by decide +kernel⟩
abbrev s_ini : Stmt := inClass (top 20) 0
abbrev n_ini : List Str := ["self", "room", "first", "axes"]
abbrev p_ini : List Str := ["self", "room", "first", "axes"]
theorem sc_ini : FnScope n_ini p_ini (defScope s_ini) := ⟨rfl, rfl, rfl, by decide +kernel, rfl, by decide +kernel, by decide +kernel⟩
abbrev s_siz : Stmt := inClass (top 20) 1
abbrev n_siz : List Str := ["self", "size", "pace"]
abbrev p_siz : List Str := ["self"]
theorem sc_siz : FnScope n_siz p_siz (defScope s_siz) := ⟨rfl, rfl, rfl, by decide +kernel, rfl, by decide +kernel, by decide +kernel⟩
abbrev s_vpa : Stmt := inClass (top 20) 2
abbrev n_vpa : List Str := ["self", "size", "pace"]
abbrev p_vpa : List Str := ["self"]
theorem sc_vpa : FnScope n_vpa p_vpa (defScope s_vpa) := ⟨rfl, rfl, rfl, by decide +kernel, rfl, by decide +kernel, by decide +kernel⟩
abbrev s_vco : Stmt := inClass (top 20) 3
abbrev n_vco : List Str := ["self"]
abbrev p_vco : List Str := ["self"]
theorem sc_vco : FnScope n_vco p_vco (defScope s_vco) := ⟨rfl, rfl, rfl, by decide +kernel, rfl, by decide +kernel, by decide +kernel⟩
abbrev s_cel : Stmt := inClass (top 20) 4
abbrev n_cel : List Str := ["self", "place", "at", "pace"]
abbrev p_cel : List Str := ["self", "place"]
theorem sc_cel : FnScope n_cel p_cel (defScope s_cel) := ⟨rfl, rfl, rfl, by decide +kernel, rfl, by decide +kernel, by decide +kernel⟩
abbrev s_cat : Stmt := inClass (top 20) 5
abbrev n_cat : List Str := ["self", "number"]
abbrev p_cat : List Str := ["self", "number"]
theorem sc_cat : FnScope n_cat p_cat (defScope s_cat) := ⟨rfl, rfl, rfl, by decide +kernel, rfl, by decide +kernel, by decide +kernel⟩
abbrev s_ces : Stmt := inClass (top 20) 6
abbrev n_ces : List Str := ["self", "found", "size", "pace", "longer", "cell", "at"]
abbrev p_ces : List Str := ["self"]
theorem sc_ces : FnScope n_ces p_ces (defScope s_ces) := ⟨rfl, rfl, rfl, by decide +kernel, rfl, by decide +kernel, by decide +kernel⟩
abbrev s_lea : Stmt := inClass (top 20) 7
abbrev n_lea : List Str := ["self", "size", "pace"]
abbrev p_lea : List Str := ["self"]
theorem sc_lea : FnScope n_lea p_lea (defScope s_lea) := ⟨rfl, rfl, rfl, by decide +kernel, rfl, by decide +kernel, by decide +kernel⟩
abbrev s_gre : Stmt := inClass (top 20) 8
abbrev n_gre : List Str := ["self", "size", "pace"]
abbrev p_gre : List Str := ["self"]
theorem sc_gre : FnScope n_gre p_gre (defScope s_gre) := ⟨rfl, rfl, rfl, by decide +kernel, rfl, by decide +kernel, by decide +kernel⟩
abbrev s_who : Stmt := top 22
abbrev n_who : List Str := ["sizes", "room"]
abbrev p_who : List Str := ["sizes", "room"]
theorem sc_who : FnScope n_who p_who (defScope s_who) := ⟨rfl, rfl, rfl, by decide +kernel, rfl, by decide +kernel, by decide +kernel⟩
/-- what the top has written -/
structure Txt (K : PySem.W.Frag) (mg : Str → Option Value) where
  a_isw : Addr
  d_isw : FuncData
  F_isw : Fun K "is_whole" "is_whole" s_isw a_isw d_isw
  b_isw : Binds K d_isw p_isw []
  g_isw : mg "is_whole" = some (.ref a_isw)
  a_cnt : Addr
  d_cnt : FuncData
  F_cnt : Fun K "count_of" "count_of" s_cnt a_cnt d_cnt
  b_cnt : Binds K d_cnt p_cnt []
  g_cnt : mg "count_of" = some (.ref a_cnt)
  a_pac : Addr
  d_pac : FuncData
  F_pac : Fun K "paces_of" "paces_of" s_pac a_pac d_pac
  b_pac : Binds K d_pac p_pac []
  g_pac : mg "paces_of" = some (.ref a_pac)
  a_nee : Addr
  d_nee : FuncData
  F_nee : Fun K "need_place" "need_place" s_nee a_nee d_nee
  b_nee : Binds K d_nee p_nee []
  g_nee : mg "need_place" = some (.ref a_nee)
  a_num : Addr
  d_num : FuncData
  F_num : Fun K "number_of" "number_of" s_num a_num d_num
  b_num : Binds K d_num p_num []
  g_num : mg "number_of" = some (.ref a_num)
  a_pla : Addr
  d_pla : FuncData
  F_pla : Fun K "place_at" "place_at" s_pla a_pla d_pla
  b_pla : Binds K d_pla p_pla []
  g_pla : mg "place_at" = some (.ref a_pla)
  a_axi : Addr
  d_axi : FuncData
  F_axi : Fun K "is_axis" "is_axis" s_axi a_axi d_axi
  b_axi : Binds K d_axi p_axi []
  g_axi : mg "is_axis" = some (.ref a_axi)
  a_kep : Addr
  d_kep : FuncData
  F_kep : Fun K "kept_axes" "kept_axes" s_kep a_kep d_kep
  b_kep : Binds K d_kep p_kep []
  g_kep : mg "kept_axes" = some (.ref a_kep)
  a_sam : Addr
  d_sam : FuncData
  F_sam : Fun K "same_view" "same_view" s_sam a_sam d_sam
  b_sam : Binds K d_sam p_sam []
  g_sam : mg "same_view" = some (.ref a_sam)
  a_dra : Addr
  d_dra : FuncData
  F_dra : Fun K "_law_draw" "_law_draw" s_dra a_dra d_dra
  b_dra : Binds K d_dra p_dra []
  g_dra : mg "_law_draw" = some (.ref a_dra)
  a_lpa : Addr
  d_lpa : FuncData
  F_lpa : Fun K "_law_paces" "_law_paces" s_lpa a_lpa d_lpa
  b_lpa : Binds K d_lpa p_lpa []
  g_lpa : mg "_law_paces" = some (.ref a_lpa)
  a_flo : Addr
  d_flo : FuncData
  F_flo : Fun K "_law_floor" "_law_floor" s_flo a_flo d_flo
  b_flo : Binds K d_flo p_flo []
  g_flo : mg "_law_floor" = some (.ref a_flo)
  a_sma : Addr
  d_sma : FuncData
  F_sma : Fun K "_law_small" "_law_small" s_sma a_sma d_sma
  b_sma : Binds K d_sma p_sma []
  g_sma : mg "_law_small" = some (.ref a_sma)
  a_lsi : Addr
  d_lsi : FuncData
  F_lsi : Fun K "_law_sizes" "_law_sizes" s_lsi a_lsi d_lsi
  b_lsi : Binds K d_lsi p_lsi []
  g_lsi : mg "_law_sizes" = some (.ref a_lsi)
  a_roo : Addr
  d_roo : FuncData
  F_roo : Fun K "_law_room" "_law_room" s_roo a_roo d_roo
  b_roo : Binds K d_roo p_roo []
  g_roo : mg "_law_room" = some (.ref a_roo)
  a_odd : Addr
  d_odd : FuncData
  F_odd : Fun K "_law_odd_rooms" "_law_odd_rooms" s_odd a_odd d_odd
  b_odd : Binds K d_odd p_odd []
  g_odd : mg "_law_odd_rooms" = some (.ref a_odd)
  a_tol : Addr
  d_tol : FuncData
  F_tol : Fun K "_law_told" "_law_told" s_tol a_tol d_tol
  b_tol : Binds K d_tol p_tol []
  g_tol : mg "_law_told" = some (.ref a_tol)
  a_lax : Addr
  d_lax : FuncData
  F_lax : Fun K "_law_axes" "_law_axes" s_lax a_lax d_lax
  b_lax : Binds K d_lax p_lax []
  g_lax : mg "_law_axes" = some (.ref a_lax)
  a_liw : Addr
  d_liw : FuncData
  F_liw : Fun K "_law_is_whole" "_law_is_whole" s_liw a_liw d_liw
  b_liw : Binds K d_liw p_liw []
  g_liw : mg "_law_is_whole" = some (.ref a_liw)
  a_oth : Addr
  d_oth : FuncData
  F_oth : Fun K "_law_other" "_law_other" s_oth a_oth d_oth
  b_oth : Binds K d_oth p_oth []
  g_oth : mg "_law_other" = some (.ref a_oth)
  a_ali : Addr
  d_ali : FuncData
  F_ali : Fun K "_law_alike" "_law_alike" s_ali a_ali d_ali
  b_ali : Binds K d_ali p_ali []
  g_ali : mg "_law_alike" = some (.ref a_ali)
  a_law : Addr
  d_law : FuncData
  F_law : Fun K "law" "law" s_law a_law d_law
  b_law : Binds K d_law p_law []
  g_law : mg "law" = some (.ref a_law)
  a_ini : Addr
  d_ini : FuncData
  F_ini : Fun K "__init__" "View.__init__" s_ini a_ini d_ini
  b_ini : Binds K d_ini p_ini []
  a_siz : Addr
  d_siz : FuncData
  F_siz : Fun K "sizes" "View.sizes" s_siz a_siz d_siz
  b_siz : Binds K d_siz p_siz []
  a_vpa : Addr
  d_vpa : FuncData
  F_vpa : Fun K "paces" "View.paces" s_vpa a_vpa d_vpa
  b_vpa : Binds K d_vpa p_vpa []
  a_vco : Addr
  d_vco : FuncData
  F_vco : Fun K "count" "View.count" s_vco a_vco d_vco
  b_vco : Binds K d_vco p_vco []
  a_cel : Addr
  d_cel : FuncData
  F_cel : Fun K "cell" "View.cell" s_cel a_cel d_cel
  b_cel : Binds K d_cel p_cel []
  a_cat : Addr
  d_cat : FuncData
  F_cat : Fun K "cell_at" "View.cell_at" s_cat a_cat d_cat
  b_cat : Binds K d_cat p_cat []
  a_ces : Addr
  d_ces : FuncData
  F_ces : Fun K "cells" "View.cells" s_ces a_ces d_ces
  b_ces : Binds K d_ces p_ces []
  a_lea : Addr
  d_lea : FuncData
  F_lea : Fun K "least" "View.least" s_lea a_lea d_lea
  b_lea : Binds K d_lea p_lea []
  a_gre : Addr
  d_gre : FuncData
  F_gre : Fun K "greatest" "View.greatest" s_gre a_gre d_gre
  b_gre : Binds K d_gre p_gre []
  a_who : Addr
  d_who : FuncData
  F_who : FunD K "whole" "whole" (defArgs s_who) (defBody s_who) (defScope s_who) [V.non] [] a_who d_who
  ds_who : List Value
  v_who : Vals [V.non] ds_who
  b_who1 : Binds K d_who p_who ds_who
  b_who2 : Binds K d_who p_who []
  g_who : mg "whole" = some (.ref a_who)
  C : Addr
  N : Addr
  gC : mg "View" = some (.ref C)
  cl : Cls K C
  mkC : Mk K C a_ini
  m_siz : Meth K C "sizes" a_siz
  m_vpa : Meth K C "paces" a_vpa
  m_vco : Meth K C "count" a_vco
  m_cel : Meth K C "cell" a_cel
  m_cat : Meth K C "cell_at" a_cat
  m_ces : Meth K C "cells" a_ces
  m_lea : Meth K C "least" a_lea
  m_gre : Meth K C "greatest" a_gre
  f_room : NoAttr K C "room"
  f_first : NoAttr K C "first"
  f_axes : NoAttr K C "axes"
  haC : PySem.W.findIn K (.ref C) "__class__" = some (some (.builtin "object.__class__"))
  hnC : PySem.W.specialIn K (.builtin "object.__class__") "__get__" = some (some (.builtin "getset_descriptor.__get__"))
  htC : PySem.W.takesIn K (.builtin "object.__class__") = some true
  hmC : PySem.W.mroIn K C (.type "object") = some true
  kitC : PySem.W.kitOne K (.ref C) (.ref C) = some true
  gN : mg "NoView" = some (.ref N)
  xN : PySem.W.excIn K N [.type "ValueError", .type "Exception", .type "BaseException", .type "object"] "ValueError.__new__" = true
  kN : PySem.W.keepIn K (.ref N) = true
  bN : PySem.W.subIn K (.ref N) (.type "BaseException") = some true
  tN : PySem.W.typeIn K (.ref N) = some (.type "type")
  eN : PySem.W.exmOne K (.ref N) (.ref N) = some true
  g_MOST : ∃ t, mg "MOST" = some (.int 4096 t)
  g_MOST_ROOM : ∃ t, mg "MOST_ROOM" = some (.int 1000000000000000000 t)
  g_MOST_AXES : ∃ t, mg "MOST_AXES" = some (.int 8 t)
  g_MOST_SIZE : ∃ t, mg "MOST_SIZE" = some (.int 1000000000 t)
  z_isinstance : mg "isinstance" = none
  z_int : mg "int" = none
  z_bool : mg "bool" = none
  z_tuple : mg "tuple" = none
  z_list : mg "list" = none
  z_len : mg "len" = none
  z_zip : mg "zip" = none
  z_sum : mg "sum" = none
  z_reversed : mg "reversed" = none
  z_divmod : mg "divmod" = none
  z_range : mg "range" = none
  z_min : mg "min" = none
  z_max : mg "max" = none
  z_str : mg "str" = none
/-- an error of the class at S is what «except S» names -/
theorem exm_self {K : PySem.W.Frag} {S : Addr} (h1 : PySem.W.subIn K (.ref S) (.type "BaseException") = some true) (h2 : PySem.W.isClsIn K S = true) (h3 : PySem.W.typeIn K (.ref S) = some (.type "type")) (h4 : PySem.W.subIn K (.ref S) (.ref S) = some true) :
    PySem.W.exmOne K (.ref S) (.ref S) = some true := by
  have e1 : (PySem.W.subIn K (.ref S) (.type "BaseException") == some true) = true := by rw [h1] <;> rfl
  have e2 : ((PySem.W.clsIn K S).isSome && PySem.W.typeIn K (.ref S) == some (.type "type")) = true := by
    have h2' : (PySem.W.clsIn K S).isSome = true := h2
    rw [h2', h3] <;> rfl
  show (if (PySem.W.subIn K (.ref S) (.type "BaseException") == some true) = true then (if ((PySem.W.clsIn K S).isSome && PySem.W.typeIn K (.ref S) == some (.type "type")) = true then PySem.W.subIn K (.ref S) (.ref S) else none) else none) = some true
  rw [if_pos e1, if_pos e2]
  exact h4
end G26
/-! what stands in the heap, the promises -/
namespace L2
open PySem
theorem Same.upd {H : Hp} {p : Addr} {o : HO} (h : H p = none) : Same H (upd H p o) := fun b o' e => by rw [upd_ne (ne_of_none e h)]; exact e
theorem Same.updR {H H' : Hp} {p : Addr} {o : HO} (s : Same H H') (h : H p = none) : Same H (L2.upd H' p o) := fun b o' e => by rw [upd_ne (ne_of_none e h)]; exact s b o' e
end L2
namespace G26
open PySem PySem.Spec PyProof.Rows L2
/-- a list of pairs of ints stands at l -/
def Prs (H : Hp) (ts : List Addr) (ax : List (Int × Int)) : Prop := ts.length = ax.length ∧ ∀ (j : Nat) (t : Addr) (p : Int × Int), ts[j]? = some t → ax[j]? = some p → H t = some (.tup [.int p.1, .int p.2])
def Axs (H : Hp) (l : Addr) (ax : List (Int × Int)) : Prop := ∃ ts : List Addr, H l = some (.lst (ts.map V.ref)) ∧ Prs H ts ax
theorem Prs.same {H H' : Hp} {ts : List Addr} {ax : List (Int × Int)} (h : Prs H ts ax) (s : Same H H') : Prs H' ts ax := ⟨h.1, fun j t p e1 e2 => s _ _ (h.2 j t p e1 e2)⟩
theorem Prs.same' {H H' : Hp} {ts : List Addr} {ax : List (Int × Int)} (h : Prs H ts ax) (s : ∀ b xs, H b = some (.tup xs) → H' b = some (.tup xs)) : Prs H' ts ax := ⟨h.1, fun j t p e1 e2 => s _ _ (h.2 j t p e1 e2)⟩
theorem Axs.same {H H' : Hp} {l : Addr} {ax : List (Int × Int)} (h : Axs H l ax) (s : Same H H') : Axs H' l ax := by
  obtain ⟨ts, h1, h2⟩ := h
  exact ⟨ts, s _ _ h1, h2.same s⟩
/-- a view's attributes -/
def vF (room first : Int) (l : Addr) : List (Str × V) := [("room", .int room), ("first", .int first), ("axes", .ref l)]
theorem lk_here {k : Str} {v : V} {r : List (Str × V)} : List.lookup k ((k, v) :: r) = some v := by
  have e : (k == k) = true := beq_self_eq_true k
  simp only [List.lookup, e]
theorem lk_past {k g : Str} {v : V} {r : List (Str × V)} (h : (k == g) = false) : List.lookup k ((g, v) :: r) = List.lookup k r := by
  simp only [List.lookup, h]
theorem vF_room (r f : Int) (l : Addr) : (vF r f l).lookup ("room" : Str) = some (.int r) := lk_here
theorem vF_first (r f : Int) (l : Addr) : (vF r f l).lookup ("first" : Str) = some (.int f) := (lk_past (by decide +kernel)).trans lk_here
theorem vF_axes (r f : Int) (l : Addr) : (vF r f l).lookup ("axes" : Str) = some (.ref l) := (lk_past (by decide +kernel)).trans ((lk_past (by decide +kernel)).trans lk_here)
theorem vF_no (r f : Int) (l : Addr) {m : Str} (h1 : (m == ("room" : Str)) = false) (h2 : (m == ("first" : Str)) = false) (h3 : (m == ("axes" : Str)) = false) : (vF r f l).lookup m = none :=
  (lk_past h1).trans ((lk_past h2).trans ((lk_past h3).trans rfl))
def ViewAt (C : Addr) (H : Hp) (v : Addr) (room first : Int) (ax : List (Int × Int)) : Prop := ∃ dx l, H v = some (.ins C dx (vF room first l)) ∧ Axs H l ax
theorem ViewAt.same {C : Addr} {H H' : Hp} {v : Addr} {r f : Int} {ax : List (Int × Int)} (h : ViewAt C H v r f ax) (s : Same H H') : ViewAt C H' v r f ax := by
  obtain ⟨dx, l, h1, h2⟩ := h
  exact ⟨dx, l, s _ _ h1, h2.same s⟩
/-- sizes and axes that are told -/
def GoodS (ns : List Int) : Prop := (∀ n ∈ ns, 1 ≤ n ∧ n ≤ 1000000000) ∧ ns.length ≤ 8
theorem GoodS.pos {ns : List Int} (h : GoodS ns) : Pos ns := fun n hn => (h.1 n hn).1
def GoodA (ax : List (Int × Int)) : Prop := GoodS (ax.map (·.1))
theorem GoodA.at_ {ax : List (Int × Int)} (h : GoodA ax) {j : Nat} {p : Int × Int} (e : ax[j]? = some p) : 1 ≤ p.1 ∧ p.1 ≤ 1000000000 := h.1 _ (List.mem_map_of_mem (List.mem_of_getElem? e))
theorem keepA_fst (ax : List (Int × Int)) : (keepA ax).map (·.1) = ax.map (·.1) := by
  unfold keepA
  rw [List.map_map]
  refine List.map_congr_left fun p _ => ?_
  show (keep1 p).1 = p.1
  unfold keep1
  by_cases e : p.1 = 1
  · simp [e]
  · simp [e]
theorem GoodA.keep {ax : List (Int × Int)} (h : GoodA ax) : GoodA (keepA ax) := by
  unfold GoodA
  rw [keepA_fst]
  exact h
theorem small8 {n : Nat} (h : n ≤ 8) : n < sizeLine := by
  rw [sizeLine_eq]; omega
/-- what may be handed in as a room: is it a whole number -/
inductive Kn (H : Hp) : V → Bool → Prop where
  | int (i : Int) : Kn H (.int i) true
  | bl (b : Bool) : Kn H (.bl b) false
  | str (x : Str) : Kn H (.str x) false
  | lst {a : Addr} {xs : List V} (e : H a = some (.lst xs)) : Kn H (.ref a) false
  | tup {a : Addr} {xs : List V} (e : H a = some (.tup xs)) : Kn H (.ref a) false
  | dK {a : Addr} {kvs : List (Key × V)} (e : H a = some (.dK kvs)) : Kn H (.ref a) false
theorem Kn.same {H H' : Hp} {x : V} {b : Bool} (h : Kn H x b) (s : Same H H') : Kn H' x b := by
  cases h with
  | int i => exact .int i
  | bl b => exact .bl b
  | str x => exact .str x
  | lst e => exact .lst (s _ _ e)
  | tup e => exact .tup (s _ _ e)
  | dK e => exact .dK (s _ _ e)
theorem Kn.int_of {H : Hp} {x : V} (h : Kn H x true) : ∃ i, x = .int i := by
  cases h
  exact ⟨_, rfl⟩
/-! ### the promises of the program's defs -/
def sp_isw : Sp := fun vs H Q _ => ∃ (x : V) (b : Bool), vs = [x] ∧ Kn H x b ∧ Q (.bl b) H
def sp_cnt (K : PySem.W.Frag) : Sp := fun vs H Q _ => ∃ (a : Addr) (ns : List Int), vs = [.ref a] ∧ SqL K H a (ns.map V.int) ∧ GoodS ns ∧ Q (.int (prod ns)) H
def sp_pac (K : PySem.W.Frag) : Sp := fun vs H Q _ => ∃ (a : Addr) (ns : List Int), vs = [.ref a] ∧ SqL K H a (ns.map V.int) ∧ GoodS ns ∧ ∀ (H' : Hp) (p : Addr), Same H H' → H p = none → H' p = some (.lst ((paces ns).map V.int)) → Q (.ref p) H'
def InS (ms ns : List Int) : Prop := ms.length = ns.length ∧ ∀ (j : Nat) (d m : Int), ms[j]? = some d → ns[j]? = some m → 0 ≤ d ∧ d < m
def sp_nee (K : PySem.W.Frag) : Sp := fun vs H Q _ => ∃ (a : Addr) (p : Addr) (ns : List Int) (ms : List Int), vs = [.ref a, .ref p] ∧ SqL K H a (ns.map V.int) ∧ H p = some (.tup (ms.map V.int)) ∧ GoodS ns ∧ InS ms ns ∧ ∀ (H' : Hp), Same H H' → Q .non H'
def sp_num (K : PySem.W.Frag) : Sp := fun vs H Q _ => ∃ (a : Addr) (p : Addr) (ns : List Int) (ms : List Int), vs = [.ref a, .ref p] ∧ SqL K H a (ns.map V.int) ∧ H p = some (.tup (ms.map V.int)) ∧ GoodS ns ∧ InS ms ns ∧ ∀ (H' : Hp), Same H H' → Q (.int (dot ms (paces ns))) H'
def sp_pla (K : PySem.W.Frag) : Sp := fun vs H Q _ => ∃ (a : Addr) (ns : List Int) (n : Int), vs = [.ref a, .int n] ∧ SqL K H a (ns.map V.int) ∧ GoodS ns ∧ 0 ≤ n ∧ n < prod ns ∧ prod ns ≤ 1000000000000000000 ∧
  ∀ (H' : Hp) (p : Addr), Same H H' → H' p = some (.tup ((digits (paces ns) n).map V.int)) → Q (.ref p) H'
def sp_axi : Sp := fun vs H Q _ => ∃ (t : Addr) (p : Int × Int), vs = [.ref t] ∧ H t = some (.tup [.int p.1, .int p.2]) ∧ 1 ≤ p.1 ∧ p.1 ≤ 1000000000 ∧ Q (.bl true) H
def sp_kep : Sp := fun vs H Q _ => ∃ (l : Addr) (ax : List (Int × Int)), vs = [.ref l] ∧ Axs H l ax ∧ GoodA ax ∧ ∀ (H' : Hp) (p : Addr), Same H H' → Axs H' p (keepA ax) → Q (.ref p) H'
def sp_siz (C : Addr) : Sp := fun vs H Q _ => ∃ (v : Addr) (r : Int) (f : Int) (ax : List (Int × Int)), vs = [.ref v] ∧ ViewAt C H v r f ax ∧ GoodA ax ∧ ∀ (H' : Hp) (p : Addr), Same H H' → H' p = some (.lst ((ax.map (·.1)).map V.int)) → Q (.ref p) H'
def sp_vpa (C : Addr) : Sp := fun vs H Q _ => ∃ (v : Addr) (r : Int) (f : Int) (ax : List (Int × Int)), vs = [.ref v] ∧ ViewAt C H v r f ax ∧ GoodA ax ∧ ∀ (H' : Hp) (p : Addr), Same H H' → H' p = some (.lst ((ax.map (·.2)).map V.int)) → Q (.ref p) H'
def sp_vco (C : Addr) : Sp := fun vs H Q _ => ∃ (v : Addr) (r : Int) (f : Int) (ax : List (Int × Int)), vs = [.ref v] ∧ ViewAt C H v r f ax ∧ GoodA ax ∧ ∀ (H' : Hp), Same H H' → Q (.int (prod (ax.map (·.1)))) H'
def sp_cel (C : Addr) : Sp := fun vs H Q _ => ∃ (v : Addr) (p : Addr) (r : Int) (f : Int) (ax : List (Int × Int)) (ms : List Int), vs = [.ref v, .ref p] ∧ ViewAt C H v r f ax ∧ GoodA ax ∧ H p = some (.tup (ms.map V.int)) ∧ InS ms (ax.map (·.1)) ∧ ∀ (H' : Hp), Same H H' → Q (.int (f + dot ms (ax.map (·.2)))) H'
def sp_cat (C : Addr) : Sp := fun vs H Q _ => ∃ (v : Addr) (n : Int) (r : Int) (f : Int) (ax : List (Int × Int)), vs = [.ref v, .int n] ∧ ViewAt C H v r f ax ∧ GoodA ax ∧ 0 ≤ n ∧ n < prod (ax.map (·.1)) ∧ prod (ax.map (·.1)) ≤ 1000000000000000000 ∧
  ∀ (H' : Hp), Same H H' → Q (.int (f + dot (digits (paces (ax.map (·.1))) n) (ax.map (·.2)))) H'
def sp_ces (C : Addr) : Sp := fun vs H Q _ => ∃ (v : Addr) (r : Int) (f : Int) (ax : List (Int × Int)), vs = [.ref v] ∧ ViewAt C H v r f ax ∧ GoodA ax ∧ prod (ax.map (·.1)) ≤ 4096 ∧ ∀ (H' : Hp) (p : Addr), Same H H' → H' p = some (.lst ((cellsA ax [f]).map V.int)) → Q (.ref p) H'
def sp_lea (C : Addr) : Sp := fun vs H Q _ => ∃ (v : Addr) (r : Int) (f : Int) (ax : List (Int × Int)), vs = [.ref v] ∧ ViewAt C H v r f ax ∧ GoodA ax ∧ ∀ (H' : Hp), Same H H' → Q (.int (f + low ax)) H'
def sp_gre (C : Addr) : Sp := fun vs H Q _ => ∃ (v : Addr) (r : Int) (f : Int) (ax : List (Int × Int)), vs = [.ref v] ∧ ViewAt C H v r f ax ∧ GoodA ax ∧ ∀ (H' : Hp), Same H H' → Q (.int (f + hig ax)) H'
def OkV (r f : Int) (ax : List (Int × Int)) : Prop := 1 ≤ r ∧ r ≤ 1000000000000000000 ∧ 0 ≤ f + low (keepA ax) ∧ f + hig (keepA ax) < r
def sp_ini (C N : Addr) : Sp := fun vs H Q E => ∃ (p : Addr) (dx : Addr) (x : V) (b : Bool) (f : Int) (l : Addr) (ax : List (Int × Int)), vs = [.ref p, x, .int f, .ref l] ∧ H p = some (.ins C dx []) ∧ Kn H x b ∧ Axs H l ax ∧ GoodA ax ∧
  ((∃ (r : Int), x = .int r ∧ OkV r f ax) → ∀ (r : Int), x = .int r → ∀ (H' : Hp), (∀ b o, H b = some o → b ≠ p → H' b = some o) → ViewAt C H' p r f (keepA ax) → Q .non H') ∧
  ((¬ ∃ (r : Int), x = .int r ∧ OkV r f ax) → ∀ (H' : Hp), (∀ b o, H b = some o → b ≠ p → H' b = some o) → E (.ref N) none H')
/-- the room that is meant -/
def effR (x : V) (ns : List Int) : V := if x = .non then .int (prod ns) else x
def OkR (x : V) (ns : List Int) : Prop := ∃ r, effR x ns = .int r ∧ prod ns ≤ r ∧ r ≤ 1000000000000000000
def sp_who (K : PySem.W.Frag) (C N : Addr) : Sp := fun vs H Q E => ∃ (l : Addr) (x : V) (ns : List Int), vs = [.ref l, x] ∧ SqL K H l (ns.map V.int) ∧ GoodS ns ∧ (x = .non ∨ ∃ (b : Bool), Kn H x b) ∧
  (OkR x ns → ∀ (r : Int), effR x ns = .int r → ∀ (H' : Hp) (v : Addr), Same H H' → ViewAt C H' v r 0 (wAx ns) → Q (.ref v) H') ∧
  ((¬ OkR x ns) → ∀ (H' : Hp), Same H H' → E (.ref N) none H')
def sp_sam (C : Addr) : Sp := fun vs H Q _ => ∃ (v1 : Addr) (v2 : Addr) (r1 : Int) (f1 : Int) (ax1 : List (Int × Int)) (r2 : Int) (f2 : Int) (ax2 : List (Int × Int)), vs = [.ref v1, .ref v2] ∧ ViewAt C H v1 r1 f1 ax1 ∧ ViewAt C H v2 r2 f2 ax2 ∧ Q (.bl (decide (r1 = r2 ∧ f1 = f2 ∧ ax1 = ax2))) H
/-! ### the promises of the law's defs -/
def sp_dra (K : PySem.W.Frag) : Sp := fun vs H Q _ => ∃ (a : Addr) (ns : List Int) (k : Int) (m : Int), vs = [.ref a, .int k, .int m] ∧ SqL K H a (ns.map V.int) ∧ 0 ≤ k ∧ k ≤ 1000 ∧ 0 < m ∧ ∀ (r : Int), 0 ≤ r → r < m → Q (.int r) H
def sp_lpa : Sp := fun vs H Q _ => ∃ (a : Addr) (b : Addr) (ns : List Int) (ps : List Int) (c : Int), vs = [.ref a, .ref b, .int c] ∧ H a = some (.lst (ns.map V.int)) ∧ H b = some (.lst (ps.map V.int)) ∧ ps.length = ns.length ∧ ns.length ≤ 8 ∧ (∀ n ∈ ns, 1 ≤ n ∧ n ≤ 6) ∧ prod ns ≤ 200 ∧ (∀ p ∈ ps, -9 ≤ p ∧ p ≤ 9) ∧
  ∀ (H' : Hp) (q : Addr) (ws : List Int), Same H H' → H' q = some (.lst (ws.map V.int)) → ws.length = ns.length → (∀ w ∈ ws, -200 ≤ w ∧ w ≤ 200) → Q (.ref q) H'
/-- the parts of a small view -/
structure PartsOk (r f : Int) (ax : List (Int × Int)) (m : Int) : Prop where
  good : GoodA ax
  kept : keepA ax = ax
  lo : 0 ≤ f + low ax
  hi : f + hig ax < r
  r1 : 1 ≤ r
  rm : r ≤ m
def PartsAt (H : Hp) (t : Addr) (r f : Int) (ax : List (Int × Int)) : Prop := ∃ l, H t = some (.tup [.int r, .int f, .ref l]) ∧ Axs H l ax
theorem PartsAt.same {H H' : Hp} {t : Addr} {r f : Int} {ax : List (Int × Int)} (h : PartsAt H t r f ax) (s : Same H H') : PartsAt H' t r f ax := by
  obtain ⟨l, h1, h2⟩ := h
  exact ⟨l, s _ _ h1, h2.same s⟩
def SmallA (ax : List (Int × Int)) : Prop := ax.length ≤ 8 ∧ keepA ax = ax ∧ ∀ p ∈ ax, 1 ≤ p.1 ∧ p.1 ≤ 6 ∧ -200 ≤ p.2 ∧ p.2 ≤ 200
def sp_flo (K : PySem.W.Frag) : Sp := fun vs H Q _ => ∃ (a : Addr) (ns : List Int) (k : Int) (l : Addr) (ax : List (Int × Int)), vs = [.ref a, .int k, .ref l] ∧ SqL K H a (ns.map V.int) ∧ 0 ≤ k ∧ k ≤ 100 ∧ Axs H l ax ∧ SmallA ax ∧
  ∀ (H' : Hp) (t : Addr) (r : Int) (f : Int), Same H H' → PartsAt H' t r f ax → PartsOk r f ax 1000000 → Q (.ref t) H'
def sp_sma (K : PySem.W.Frag) : Sp := fun vs H Q _ => ∃ (a : Addr) (ns : List Int) (k : Int), vs = [.ref a, .int k] ∧ SqL K H a (ns.map V.int) ∧ 0 ≤ k ∧ k ≤ 50 ∧
  ∀ (H' : Hp) (t : Addr) (r : Int) (f : Int) (ax : List (Int × Int)), Same H H' → PartsAt H' t r f ax → PartsOk r f ax 1000000 → Q (.ref t) H'
def sp_oth : Sp := fun vs H Q _ => ∃ (t : Addr) (r : Int) (f : Int) (ax : List (Int × Int)) (c : Int), vs = [.ref t, .int c] ∧ PartsAt H t r f ax ∧ PartsOk r f ax 1000000 ∧
  ∀ (H' : Hp) (t' : Addr) (r' : Int) (f' : Int) (ax' : List (Int × Int)), Same H H' → PartsAt H' t' r' f' ax' → PartsOk r' f' ax' 2000000 → Q (.ref t') H'
def sp_ali : Sp := fun vs H Q _ => ∃ (t1 : Addr) (r1 : Int) (f1 : Int) (ax1 : List (Int × Int)) (t2 : Addr) (r2 : Int) (f2 : Int) (ax2 : List (Int × Int)), vs = [.ref t1, .ref t2] ∧ PartsAt H t1 r1 f1 ax1 ∧ PartsOk r1 f1 ax1 2000000 ∧ PartsAt H t2 r2 f2 ax2 ∧ PartsOk r2 f2 ax2 2000000 ∧ ∀ (H' : Hp), Same H H' → Q (.bl true) H'
def sp_lsi (K : PySem.W.Frag) : Sp := fun vs H Q _ => ∃ (a : Addr) (ns : List Int), vs = [.ref a] ∧ SqL K H a (ns.map V.int) ∧ ∀ (H' : Hp) (t : Addr) (l : Addr) (ms : List Int), Same H H' → H' t = some (.tup [.ref l, .int (prod ms)]) → H' l = some (.lst (ms.map V.int)) → GoodS ms → Q (.ref t) H'
def sp_roo : Sp := fun vs H Q _ => ∃ (c : Int) (k : Int), vs = [.int c, .int k] ∧ ∀ (H' : Hp) (x : V), Same H H' → (x = .non ∨ ∃ i, x = .int i) → Q x H'
def sp_tol (K : PySem.W.Frag) (C : Addr) : Sp := fun vs H Q _ => ∃ (l : Addr) (x : V) (b : Bool) (ns : List Int), vs = [.ref l, x, .bl b] ∧ SqL K H l (ns.map V.int) ∧ GoodS ns ∧ (x = .non ∨ ∃ (b : Bool), Kn H x b) ∧
  (OkR (if b then .non else x) ns → ∀ (r : Int), effR (if b then .non else x) ns = .int r → ∀ (H' : Hp) (t : Addr) (v : Addr), Same H H' → H' t = some (.tup [.str "told", .ref v]) → ViewAt C H' v r 0 (wAx ns) → Q (.ref t) H') ∧
  ((¬ OkR (if b then .non else x) ns) → ∀ (H' : Hp) (t : Addr), Same H H' → H' t = some (.tup [.str "view", .non]) → Q (.ref t) H')
def sp_odd (K : PySem.W.Frag) : Sp := fun vs H Q _ => ∃ (l : Addr) (ns : List Int), vs = [.ref l, .int (prod ns)] ∧ SqL K H l (ns.map V.int) ∧ GoodS ns ∧ ∀ (H' : Hp), Same H H' → Q (.bl true) H'
def sp_lax (K : PySem.W.Frag) : Sp := fun vs H Q _ => ∃ (l : Addr) (ns : List Int), vs = [.ref l] ∧ SqL K H l (ns.map V.int) ∧ GoodS ns ∧ ∀ (H' : Hp) (p : Addr), Same H H' → Axs H' p (wAx ns) → Q (.ref p) H'
def sp_liw (K : PySem.W.Frag) (C : Addr) : Sp := fun vs H Q _ => ∃ (v : Addr) (l : Addr) (r : Int) (ns : List Int) (c : Int), vs = [.ref v, .ref l, .int r, .int (prod ns), .int c] ∧ SqL K H l (ns.map V.int) ∧ GoodS ns ∧ ViewAt C H v r 0 (wAx ns) ∧ prod ns ≤ r ∧ r ≤ 1000000000000000000 ∧ ∀ (H' : Hp), Same H H' → Q (.bl true) H'
def sp_law (K : PySem.W.Frag) : Sp := fun vs H Q _ => ∃ (a : Addr) (ns : List Int), vs = [.ref a] ∧ SqL K H a (ns.map V.int) ∧ ns.length ≤ 63 ∧ ∀ (H' : Hp), Q (.bl true) H'
theorem law_end {K : PySem.W.Frag} {H : Hp} {a : Addr} {ns : List Int} (hl : ns.length ≤ 63) (hS : SqL K H a (ns.map V.int)) : sp_law K [.ref a] H (fun v _ => v = .bl true) fun _ _ _ => False := ⟨a, ns, rfl, hS, hl, fun _ => rfl⟩
end G26
namespace G26
open PySem PySem.Spec PyProof.Rows L2
/-! data: what == of lists of ints, of lists of pairs tells -/
def pd2 (p : Int × Int) : PyData := .tuple [.int p.1, .int p.2]
def pdA (ax : List (Int × Int)) : PyData := .list (ax.map pd2)
def pdI (ns : List Int) : PyData := .list (ns.map PyData.int)
theorem dp2 {K : PySem.W.Frag} {H : Hp} {t : Addr} {p : Int × Int} (h : H t = some (.tup [.int p.1, .int p.2])) : Dp K H (.ref t) (pd2 p) :=
  .tup (SqT.of h) (.cons (.int _) (.cons (.int _) .nil))
theorem dpAll_prs {K : PySem.W.Frag} {H : Hp} : ∀ {ts : List Addr} {ax : List (Int × Int)}, Prs H ts ax → DpAll K H (ts.map V.ref) (ax.map pd2)
  | [], [], _ => .nil
  | [], _ :: _, h => by have := h.1; simp at this
  | _ :: _, [], h => by have := h.1; simp at this
  | t :: ts, p :: ax, h => .cons (dp2 (h.2 0 t p rfl rfl)) (dpAll_prs ⟨by have := h.1; simpa using this, fun j t' p' e1 e2 => h.2 (j + 1) t' p' (by simpa using e1) (by simpa using e2)⟩)
theorem Axs.dp {K : PySem.W.Frag} {H : Hp} {l : Addr} {ax : List (Int × Int)} (h : Axs H l ax) : Dp K H (.ref l) (pdA ax) := by
  obtain ⟨ts, h1, h2⟩ := h
  exact .lst (SqL.of h1) (dpAll_prs h2)
theorem dpAll_ints {K : PySem.W.Frag} {H : Hp} : ∀ ns : List Int, DpAll K H (ns.map V.int) (ns.map PyData.int)
  | [] => .nil
  | n :: r => .cons (.int n) (dpAll_ints r)
theorem dpI {K : PySem.W.Frag} {H : Hp} {l : Addr} {ns : List Int} (h : SqL K H l (ns.map V.int)) : Dp K H (.ref l) (pdI ns) := .lst h (dpAll_ints ns)
theorem eqv_2 (p q : Int × Int) : PyData.eqv (pd2 p) (pd2 q) = decide (p = q) := by
  obtain ⟨a, b⟩ := p
  obtain ⟨c, d⟩ := q
  simp only [pd2, PyData.eqv, PyData.eqvAll, Prod.mk.injEq]
  by_cases h1 : a = c
  · by_cases h2 : b = d
    · simp [h1, h2]
    · simp [h1, h2]
  · simp [h1]
theorem eqvAll_2 : ∀ xs ys : List (Int × Int), PyData.eqvAll (xs.map pd2) (ys.map pd2) = decide (xs = ys)
  | [], [] => by simp [PyData.eqvAll]
  | [], _ :: _ => by simp [PyData.eqvAll]
  | _ :: _, [] => by simp [PyData.eqvAll]
  | x :: xs, y :: ys => by
    simp only [List.map_cons, PyData.eqvAll, eqv_2, eqvAll_2 xs ys, List.cons.injEq]
    by_cases h1 : x = y
    · by_cases h2 : xs = ys
      · simp [h1, h2]
      · simp [h1, h2]
    · simp [h1]
theorem eqv_A (xs ys : List (Int × Int)) : PyData.eqv (pdA xs) (pdA ys) = decide (xs = ys) := by
  unfold pdA
  rw [PyData.eqv, eqvAll_2]
theorem eqvAll_I : ∀ xs ys : List Int, PyData.eqvAll (xs.map PyData.int) (ys.map PyData.int) = decide (xs = ys)
  | [], [] => by simp [PyData.eqvAll]
  | [], _ :: _ => by simp [PyData.eqvAll]
  | _ :: _, [] => by simp [PyData.eqvAll]
  | x :: xs, y :: ys => by
    simp only [List.map_cons, PyData.eqvAll, PyData.eqv, eqvAll_I xs ys, List.cons.injEq]
    by_cases h1 : x = y
    · by_cases h2 : xs = ys
      · simp [h1, h2]
      · simp [h1, h2]
    · simp [h1]
theorem eqv_I (xs ys : List Int) : PyData.eqv (pdI xs) (pdI ys) = decide (xs = ys) := by
  unfold pdI
  rw [PyData.eqv, eqvAll_I]
theorem canAll_2 : ∀ xs : List (Int × Int), PyData.canLayAll0 (xs.map pd2) = true
  | [] => rfl
  | x :: xs => by
    show (PyData.canLay0 (pd2 x) && PyData.canLayAll0 (xs.map pd2)) = true
    rw [canAll_2 xs]
    rfl
theorem depAll_2 : ∀ xs : List (Int × Int), PyData.depthAll (xs.map pd2) ≤ 1
  | [] => Nat.zero_le _
  | x :: xs => by
    show max (PyData.depth (pd2 x)) (PyData.depthAll (xs.map pd2)) ≤ 1
    exact Nat.max_le.mpr ⟨Nat.le_refl _, depAll_2 xs⟩
theorem shaped_A (xs : List (Int × Int)) : SeqAt.shaped (pdA xs) = true := by
  have h1 : (pdA xs).canLay0 = true := canAll_2 xs
  have h2 : (pdA xs).depth ≤ 64 := by
    have := depAll_2 xs
    show PyData.depthAll (xs.map pd2) + 1 ≤ 64
    omega
  unfold SeqAt.shaped
  rw [h1, decide_eq_true h2]
  rfl
theorem canAll_I : ∀ xs : List Int, PyData.canLayAll0 (xs.map PyData.int) = true
  | [] => rfl
  | x :: xs => by
    show (PyData.canLay0 (.int x) && PyData.canLayAll0 (xs.map PyData.int)) = true
    rw [canAll_I xs]
    rfl
theorem depAll_I : ∀ xs : List Int, PyData.depthAll (xs.map PyData.int) ≤ 1
  | [] => Nat.zero_le _
  | x :: xs => by
    show max (PyData.depth (.int x)) (PyData.depthAll (xs.map PyData.int)) ≤ 1
    exact Nat.max_le.mpr ⟨Nat.zero_le _, depAll_I xs⟩
theorem shaped_I (xs : List Int) : SeqAt.shaped (pdI xs) = true := by
  have h1 : (pdI xs).canLay0 = true := canAll_I xs
  have h2 : (pdI xs).depth ≤ 64 := by
    have := depAll_I xs
    show PyData.depthAll (xs.map PyData.int) + 1 ≤ 64
    omega
  unfold SeqAt.shaped
  rw [h1, decide_eq_true h2]
  rfl
/-- (room, first, axes) -/
def pdT (r f : Int) (ax : List (Int × Int)) : PyData := .tuple [.int r, .int f, pdA ax]
theorem dpT {K : PySem.W.Frag} {H : Hp} {t l : Addr} {r f : Int} {ax : List (Int × Int)} (h : H t = some (.tup [.int r, .int f, .ref l])) (h2 : Axs H l ax) : Dp K H (.ref t) (pdT r f ax) :=
  .tup (SqT.of h) (.cons (.int _) (.cons (.int _) (.cons h2.dp .nil)))
theorem eqv_T (r f r' f' : Int) (xs ys : List (Int × Int)) : PyData.eqv (pdT r f xs) (pdT r' f' ys) = decide (r = r' ∧ f = f' ∧ xs = ys) := by
  unfold pdT
  simp only [PyData.eqv, PyData.eqvAll, eqv_A]
  by_cases h1 : r = r'
  · by_cases h2 : f = f'
    · by_cases h3 : xs = ys
      · simp [h1, h2, h3]
      · simp [h1, h2, h3]
    · simp [h1, h2]
  · simp [h1]
theorem shaped_T (r f : Int) (xs : List (Int × Int)) : SeqAt.shaped (pdT r f xs) = true := by
  have h1 : (pdT r f xs).canLay0 = true := by
    show (true && (true && (PyData.canLayAll0 (xs.map pd2) && true))) = true
    rw [canAll_2 xs]
    rfl
  have h2 : (pdT r f xs).depth ≤ 64 := by
    have := depAll_2 xs
    show max 0 (max 0 (max (PyData.depthAll (xs.map pd2) + 1) 0)) + 1 ≤ 64
    omega
  unfold SeqAt.shaped
  rw [h1, decide_eq_true h2]
  rfl
/-! tests whose answer is known -/
theorem iteD {c A B : Prop} [Decidable c] (hc : ¬ c) (h : B) : if decide c = true then A else B := by
  rw [decide_eq_false hc, if_neg Bool.false_ne_true]
  exact h
theorem iteE {c A B : Prop} [Decidable c] (hc : c) (h : A) : if decide c = true then A else B := by
  rw [decide_eq_true hc, if_pos rfl]
  exact h
theorem Prs.snoc {H : Hp} {ts : List Addr} {ax : List (Int × Int)} {t : Addr} {p : Int × Int} (h : Prs H ts ax) (ht : H t = some (.tup [.int p.1, .int p.2])) : Prs H (ts ++ [t]) (ax ++ [p]) := by
  have hl := h.1
  refine ⟨by rw [List.length_append, List.length_append, hl]; rfl, fun j t' p' e1 e2 => ?_⟩
  by_cases c : j < ts.length
  · rw [List.getElem?_append_left c] at e1
    rw [List.getElem?_append_left (by omega)] at e2
    exact h.2 j t' p' e1 e2
  · have cj : j = ts.length := by
      have := (List.getElem?_eq_some_iff.mp e1).1
      rw [List.length_append, List.length_singleton] at this
      omega
    subst cj
    rw [List.getElem?_append_right (Nat.le_refl _), Nat.sub_self] at e1
    rw [List.getElem?_append_right (by omega), hl, Nat.sub_self] at e2
    simp at e1 e2
    subst e1 e2
    exact ht
/-! items -/
theorem item_of {ns : List Int} {i : Nat} {y : V} (hi : (ns.map V.int)[i]? = some y) : ∃ z, ns[i]? = some z ∧ y = V.int z := by
  rw [List.getElem?_map] at hi
  cases e : ns[i]? with
  | none => rw [e] at hi; cases hi
  | some z => rw [e] at hi; exact ⟨z, rfl, (Option.some.inj hi).symm⟩
theorem item_ax {H : Hp} {ts : List Addr} {ax : List (Int × Int)} {i : Nat} {y : V} (h : Prs H ts ax) (hi : (ts.map V.ref)[i]? = some y) : ∃ t p, ts[i]? = some t ∧ ax[i]? = some p ∧ y = V.ref t ∧ H t = some (.tup [.int p.1, .int p.2]) := by
  rw [List.getElem?_map] at hi
  cases e : ts[i]? with
  | none => rw [e] at hi; cases hi
  | some t =>
    rw [e] at hi
    have hl : i < ax.length := by
      have := (List.getElem?_eq_some_iff.mp e).1
      have := h.1
      omega
    exact ⟨t, ax[i], rfl, List.getElem?_eq_getElem hl, (Option.some.inj hi).symm, h.2 i t _ e (List.getElem?_eq_getElem hl)⟩
end G26
namespace G26
open PySem PySem.Spec PyProof.Rows L2
section
variable {P : Program} {w : World} {K : PySem.W.Frag} {mg : Str → Option Value} {base : Heap}
theorem Kn.isInt {K : PySem.W.Frag} {H : Hp} {x : V} {b : Bool} (h : Kn H x b) : ∃ t c, TyX K H x t ∧ PySem.W.kitOne K t (.type "int") = some c ∧ ((c = false ∧ b = false) ∨ (c = true ∧ PySem.W.kitOne K t (.type "bool") = some (!b))) := by
  cases h with
  | int i => exact ⟨_, _, .base (.int i), kit_ty (by decide +kernel), .inr ⟨rfl, kit_ty (by decide +kernel)⟩⟩
  | bl i => exact ⟨_, _, .base (.bl i), kit_ty (by decide +kernel), .inr ⟨rfl, kit_ty (by decide +kernel)⟩⟩
  | str i => exact ⟨_, false, .base (.str i), kit_ty (by decide +kernel), .inl ⟨rfl, rfl⟩⟩
  | lst e => exact ⟨_, false, .base (.lst e), kit_ty (by decide +kernel), .inl ⟨rfl, rfl⟩⟩
  | tup e => exact ⟨_, false, .base (.tup e), kit_ty (by decide +kernel), .inl ⟨rfl, rfl⟩⟩
  | dK e => exact ⟨_, false, .base (.dK e), kit_ty (by decide +kernel), .inl ⟨rfl, rfl⟩⟩
theorem ok_isw (T : Txt K mg) : FnOk P w K mg base CX0 1 T.a_isw T.d_isw p_isw sp_isw := by
  refine T.F_isw.ok sc_isw (fun vs H Q E h => ?_) (fun cdv A outer s H vs Q E hr h => ?_)
  · obtain ⟨x, b, rfl, _⟩ := h
    rfl
  · obtain ⟨x, b, rfl, hx, k⟩ := h
    refine ⟨_, (pss_one (ps_ret (pe_and (pe_callB call_isi (by rfl) T.z_isinstance (by decide +kernel) (pa_cons (pv 0) (pa_cons (pe_bltn (v := .ty "int") (by rfl) T.z_int (by decide +kernel) rfl) pa_nil))) (pe_one (pe_not (pe_callB call_isi (by rfl) T.z_isinstance (by decide +kernel) (pa_cons (pv 0) (pa_cons (pe_bltn (v := .ty "bool") (by rfl) T.z_bool (by decide +kernel) rfl) pa_nil)))))))), ?_⟩
    obtain ⟨t, c, h1, h2, h3⟩ := hx.isInt (K := K)
    refine ⟨_, rfl, x, _, t, _, c, rfl, .ty _, h1, h2, c, rfl, ?_⟩
    rcases h3 with ⟨rfl, rfl⟩ | ⟨rfl, h3⟩
    · exact iteF k
    · refine iteT ?_
      refine ⟨_, rfl, x, _, t, _, _, rfl, .ty _, h1, h3, _, rfl, ?_⟩
      cases b <;> exact k
theorem ok_cnt (T : Txt K mg) : FnOk P w K mg base CX0 1 T.a_cnt T.d_cnt p_cnt (sp_cnt K) := by
  refine T.F_cnt.ok sc_cnt (fun vs H Q E h => ?_) (fun cdv A outer s H vs Q E hr h => ?_)
  · obtain ⟨a, ns, rfl, _⟩ := h
    rfl
  · obtain ⟨a, ns, rfl, hS, hg, k⟩ := h
    refine ⟨_, (pss_cons (ps_set (i := 1) sc_cnt.nd rfl (Or.inl rfl) pe_int)
    (pss_cons (ps_for PassesOwn.never rfl (pi_list (pv 0)) (pg_name (i := 2) sc_cnt.nd rfl (Or.inl rfl))
    (pss_one (ps_set (i := 1) sc_cnt.nd rfl (Or.inl rfl) (pe_op op_mul (pv 1) (pv 2)))))
    (pss_one (ps_ret (pv 1))))), ?_⟩
    refine ⟨_, rfl, a, rfl, ⟨_, hS⟩, for_list (K := K) (a := a) (xs := ns.map V.int) (fun i σ H' => (∃ v, σ = [some (.ref a), some (.int (prod (ns.take i))), v]) ∧ H' = H) ⟨⟨none, rfl⟩, rfl⟩ (fun i σ H' _ p => by rw [p.2]; exact hS) ?_ ?_⟩
    · rintro i y σ H' hi ⟨⟨v, rfl⟩, rfl⟩
      obtain ⟨z, hz, rfl⟩ := item_of hi
      have hb := hg.1 z (List.mem_of_getElem? hz)
      refine ⟨_, rfl, _, rfl, _, _, rfl, rfl, .inr ⟨by omega, by omega⟩, ⟨⟨some (.int z), ?_⟩, rfl⟩⟩
      rw [take_more hz, prod_snoc]
      rfl
    · rintro σ H' ⟨⟨v, rfl⟩, rfl⟩
      refine ⟨_, rfl, ?_⟩
      rw [List.length_map, List.take_length]
      exact k
theorem ok_pac (T : Txt K mg) : FnOk P w K mg base CX0 1 T.a_pac T.d_pac p_pac (sp_pac K) := by
  refine T.F_pac.ok sc_pac (fun vs H Q E h => ?_) (fun cdv A outer s H vs Q E hr h => ?_)
  · obtain ⟨a, ns, rfl, _⟩ := h
    rfl
  · obtain ⟨a, ns, rfl, hS, hg, k⟩ := h
    have hlen := hg.2
    refine ⟨_, (pss_cons (ps_set (i := 1) sc_pac.nd rfl (Or.inl rfl) (pe_lst pa_nil))
    (pss_cons (ps_set (i := 2) sc_pac.nd rfl (Or.inl rfl) pe_int)
    (pss_cons (ps_for PassesOwn.never rfl (pi_reversed (by rfl) T.z_reversed (pa_cons (pv 0) pa_nil)) (pg_name (i := 3) sc_pac.nd rfl (Or.inl rfl))
    (pss_cons (ps_expr (pe_bm PySem.F.plainAttrs_list PySem.F.slot_list_append PySem.F.type_list_append mt_append (pv 1) (pa_cons (pv 2) pa_nil)))
      (pss_one (ps_set (i := 2) sc_pac.nd rfl (Or.inl rfl) (pe_op op_mul (pv 2) (pv 3))))))
    (pss_cons (ps_expr (pe_bm0 PySem.F.plainAttrs_list PySem.F.slot_list_reverse PySem.F.type_list_reverse mt_reverse (pv 1)))
    (pss_one (ps_ret (pv 1))))))), ?_⟩
    refine ⟨Nat.zero_le _, fun q hq => ?_⟩
    refine ⟨_, rfl, a, _, rfl, (Same.upd hq).seq hS, RT.for_Itv (K := K) (a := a) (xs := ns.map V.int) (fun i σ H' => (∃ v, σ = [some (.ref a), some (.ref q), some (.int (prod (ns.drop (ns.length - i)))), v]) ∧ i ≤ ns.length ∧ Same H H' ∧ H' q = some (.lst ((paces (ns.drop (ns.length - i))).reverse.map V.int))) ⟨⟨none, ?_⟩, Nat.zero_le _, Same.upd hq, ?_⟩ (fun i σ H' p => p.2.2.1.seq hS) ?_ ?_⟩
    · rw [Nat.sub_zero, List.drop_length]
      rfl
    · rw [Nat.sub_zero, List.drop_length]
      exact upd_same
    · rintro i y σ H' hi hx ⟨⟨v, rfl⟩, hle, sH, hl⟩
      rw [List.length_map] at hi hx
      obtain ⟨z, hz, rfl⟩ := item_of hx
      have hb := hg.1 z (List.mem_of_getElem? hz)
      have e1 : ns.length - 1 - i + 1 = ns.length - i := by omega
      have e2 : ns.length - (i + 1) = ns.length - 1 - i := by omega
      have hd := drop_more hz
      rw [e1] at hd
      have hpl : (paces (ns.drop (ns.length - i))).length ≤ 8 := by rw [paces_len, List.length_drop]; omega
      refine ⟨_, rfl, .inl ⟨rfl, _, SqL.of hl⟩, _, rfl, q, _, _, rfl, rfl, hl, small8 (by rw [List.length_map, List.length_reverse]; exact hpl), ?_⟩
      refine ⟨_, rfl, _, rfl, _, _, rfl, rfl, .inr ⟨by omega, by omega⟩, ⟨⟨some (.int z), ?_⟩, by omega, ?_, ?_⟩⟩
      · rw [e2, hd]
        show _ = [some (V.ref a), some (V.ref q), some (V.int (z * prod (ns.drop (ns.length - i)))), some (V.int z)]
        rw [Int.mul_comm z]
        rfl
      · exact sH.updR hq
      · rw [upd_same, e2, hd]
        show _ = some (HO.lst ((prod (ns.drop (ns.length - i)) :: paces (ns.drop (ns.length - i))).reverse.map V.int))
        rw [List.reverse_cons, List.map_append]
        rfl
    · rintro σ H' ⟨⟨v, rfl⟩, hle, sH, hl⟩
      rw [List.length_map, Nat.sub_self, List.drop_zero] at hl
      refine ⟨_, rfl, .inl ⟨rfl, _, SqL.of hl⟩, q, _, rfl, rfl, hl, ?_⟩
      refine ⟨_, rfl, ?_⟩
      refine k _ q (sH.updR hq) hq ?_
      rw [upd_same, ← List.map_reverse, List.reverse_reverse]
theorem ok_sam (T : Txt K mg) : FnOk P w K mg base CX0 1 T.a_sam T.d_sam p_sam (sp_sam T.C) := by
  refine T.F_sam.ok sc_sam (fun vs H Q E h => ?_) (fun cdv A outer s H vs Q E hr h => ?_)
  · obtain ⟨v1, v2, r1, f1, ax1, r2, f2, ax2, rfl, _⟩ := h
    rfl
  · obtain ⟨v1, v2, r1, f1, ax1, r2, f2, ax2, rfl, ⟨dx1, l1, h1, g1⟩, ⟨dx2, l2, h2, g2⟩, k⟩ := h
    refine ⟨_, (pss_one (ps_ret (pe_and (pe_cmpR op_eq (pe_fld (pv 0) rfl) (pe_fld (pv 1) rfl) (nomark _)) (pe_and (pe_cmpR op_eq (pe_fld (pv 0) rfl) (pe_fld (pv 1) rfl) (nomark _)) (pe_one (pe_cmpR (op_eqD hr.units) (pe_fld (pv 0) rfl) (pe_fld (pv 1) rfl) (nomark _))))))), ?_⟩
    refine ⟨_, rfl, v1, T.C, dx1, _, _, rfl, h1, T.cl, T.f_room, vF_room _ _ _, _, rfl, v2, T.C, dx2, _, _, rfl, h2, T.cl, T.f_room, vF_room _ _ _, rfl, _, rfl, ite2 (fun c => ?_) (fun c => ?_)⟩
    · have c1 : r1 = r2 := V.int.inj (of_decide_eq_true c)
      refine ⟨_, rfl, v1, T.C, dx1, _, _, rfl, h1, T.cl, T.f_first, vF_first _ _ _, _, rfl, v2, T.C, dx2, _, _, rfl, h2, T.cl, T.f_first, vF_first _ _ _, rfl, _, rfl, ite2 (fun c => ?_) (fun c => ?_)⟩
      · have c2 : f1 = f2 := V.int.inj (of_decide_eq_true c)
        refine ⟨_, rfl, v1, T.C, dx1, _, _, rfl, h1, T.cl, T.f_axes, vF_axes _ _ _, _, rfl, v2, T.C, dx2, _, _, rfl, h2, T.cl, T.f_axes, vF_axes _ _ _, _, _, g1.dp, g2.dp, shaped_A _, shaped_A _, ?_⟩
        rw [eqv_A]
        have e : decide (ax1 = ax2) = decide (r1 = r2 ∧ f1 = f2 ∧ ax1 = ax2) := decide_eq_decide.mpr ⟨fun z => ⟨c1, c2, z⟩, fun z => z.2.2⟩
        rw [e]
        exact k
      · have e : decide (r1 = r2 ∧ f1 = f2 ∧ ax1 = ax2) = false := decide_eq_false fun z => c (decide_eq_true (congrArg V.int z.2.1))
        rw [e] at k
        exact k
    · have e : decide (r1 = r2 ∧ f1 = f2 ∧ ax1 = ax2) = false := decide_eq_false fun z => c (decide_eq_true (congrArg V.int z.1))
      rw [e] at k
      exact k
end
end G26
namespace G26
open PySem PySem.Spec PyProof.Rows L2
section
variable {P : Program} {w : World} {K : PySem.W.Frag} {mg : Str → Option Value} {base : Heap}
theorem ok_siz (T : Txt K mg) : FnOk P w K mg base CX0 1 T.a_siz T.d_siz p_siz (sp_siz T.C) := by
  refine T.F_siz.ok sc_siz (fun vs H Q E h => ?_) (fun cdv A outer s H vs Q E hr h => ?_)
  · obtain ⟨v, r, f, ax, rfl, _⟩ := h
    rfl
  · obtain ⟨v, r, f, ax, rfl, ⟨dx, l, h1, ts, h2, h3⟩, hg, k⟩ := h
    refine ⟨_, (pss_one (ps_ret (pe_lc (own := [("size", 1), ("pace", 2)]) (g := gTup K 2 (gCons (gName 1) (gCons (gName 2) gNil))) (tt := tYes) rfl sc_siz.nd (pi_list (pe_fld (pv 0) rfl)) (blkOk_by (N := n_siz) (sc := defScope s_siz) (by decide +kernel)) (fun _ _ _ _ _ => (pg_tup rfl (pgs_cons (pg_name (i := 1) sc_siz.nd rfl (Or.inl rfl)) (pgs_cons (pg_name (i := 2) sc_siz.nd rfl (Or.inl rfl)) pgs_nil)))) (fun _ _ _ _ _ => pts_nil) (fun _ _ _ _ _ => (pv 1))))), ?_⟩
    refine ⟨_, rfl, v, T.C, dx, _, _, rfl, h1, T.cl, T.f_axes, vF_axes _ _ _, l, rfl, ⟨_, SqL.of h2⟩, fun D hD => ?_⟩
    refine lc_list (K := K) (a := l) (xs := ts.map V.ref) (fun i H' => Same H H' ∧ H' D = some (.lst (((ax.take i).map (·.1)).map V.int))) ⟨Same.upd hD, upd_same⟩ (fun i H' _ p => p.1.seq (SqL.of h2)) ?_ ?_
    · rintro i y H' hi ⟨sH, hl⟩
      obtain ⟨t, p, e1, e2, rfl, e3⟩ := item_ax h3 hi
      refine ⟨t, _, rfl, SqT.of (sH _ _ e3), rfl, _, _, rfl, _, _, rfl, rfl, rfl, ?_⟩
      refine ⟨_, rfl, _, hl, small8 ?_, sH.updR hD, ?_⟩
      · rw [List.length_map, List.length_map, List.length_take]
        have := hg.2
        rw [List.length_map] at this
        omega
      · rw [upd_same, take_more e2, List.map_append, List.map_append]
        rfl
    · rintro H' ⟨sH, hl⟩
      rw [List.length_map, h3.1, List.take_length] at hl
      exact k _ D sH hl
theorem ok_vpa (T : Txt K mg) : FnOk P w K mg base CX0 1 T.a_vpa T.d_vpa p_vpa (sp_vpa T.C) := by
  refine T.F_vpa.ok sc_vpa (fun vs H Q E h => ?_) (fun cdv A outer s H vs Q E hr h => ?_)
  · obtain ⟨v, r, f, ax, rfl, _⟩ := h
    rfl
  · obtain ⟨v, r, f, ax, rfl, ⟨dx, l, h1, ts, h2, h3⟩, hg, k⟩ := h
    refine ⟨_, (pss_one (ps_ret (pe_lc (own := [("size", 1), ("pace", 2)]) (g := gTup K 2 (gCons (gName 1) (gCons (gName 2) gNil))) (tt := tYes) rfl sc_vpa.nd (pi_list (pe_fld (pv 0) rfl)) (blkOk_by (N := n_vpa) (sc := defScope s_vpa) (by decide +kernel)) (fun _ _ _ _ _ => (pg_tup rfl (pgs_cons (pg_name (i := 1) sc_vpa.nd rfl (Or.inl rfl)) (pgs_cons (pg_name (i := 2) sc_vpa.nd rfl (Or.inl rfl)) pgs_nil)))) (fun _ _ _ _ _ => pts_nil) (fun _ _ _ _ _ => (pv 2))))), ?_⟩
    refine ⟨_, rfl, v, T.C, dx, _, _, rfl, h1, T.cl, T.f_axes, vF_axes _ _ _, l, rfl, ⟨_, SqL.of h2⟩, fun D hD => ?_⟩
    refine lc_list (K := K) (a := l) (xs := ts.map V.ref) (fun i H' => Same H H' ∧ H' D = some (.lst (((ax.take i).map (·.2)).map V.int))) ⟨Same.upd hD, upd_same⟩ (fun i H' _ p => p.1.seq (SqL.of h2)) ?_ ?_
    · rintro i y H' hi ⟨sH, hl⟩
      obtain ⟨t, p, e1, e2, rfl, e3⟩ := item_ax h3 hi
      refine ⟨t, _, rfl, SqT.of (sH _ _ e3), rfl, _, _, rfl, _, _, rfl, rfl, rfl, ?_⟩
      refine ⟨_, rfl, _, hl, small8 ?_, sH.updR hD, ?_⟩
      · rw [List.length_map, List.length_map, List.length_take]
        have := hg.2
        rw [List.length_map] at this
        omega
      · rw [upd_same, take_more e2, List.map_append, List.map_append]
        rfl
    · rintro H' ⟨sH, hl⟩
      rw [List.length_map, h3.1, List.take_length] at hl
      exact k _ D sH hl
theorem ok_lea (T : Txt K mg) : FnOk P w K mg base CX0 1 T.a_lea T.d_lea p_lea (sp_lea T.C) := by
  refine T.F_lea.ok sc_lea (fun vs H Q E h => ?_) (fun cdv A outer s H vs Q E hr h => ?_)
  · obtain ⟨v, r, f, ax, rfl, _⟩ := h
    rfl
  · obtain ⟨v, r, f, ax, rfl, ⟨dx, l, h1, ts, h2, h3⟩, hg, k⟩ := h
    refine ⟨_, (pss_one (ps_ret (pe_op op_add (pe_fld (pv 0) rfl) (pe_callB (cr_sum rfl) (by rfl) T.z_sum (by decide +kernel) (pa_cons (pe_lc (own := [("size", 1), ("pace", 2)]) (g := gTup K 2 (gCons (gName 1) (gCons (gName 2) gNil))) (tt := tYes) rfl sc_lea.nd (pi_list (pe_fld (pv 0) rfl)) (blkOk_by (N := n_lea) (sc := defScope s_lea) (by decide +kernel)) (fun _ _ _ _ _ => (pg_tup rfl (pgs_cons (pg_name (i := 1) sc_lea.nd rfl (Or.inl rfl)) (pgs_cons (pg_name (i := 2) sc_lea.nd rfl (Or.inl rfl)) pgs_nil)))) (fun _ _ _ _ _ => pts_nil) (fun _ _ _ _ _ => (pe_callB (call_min2 rfl) (by rfl) T.z_min (by decide +kernel) (pa_cons pe_int (pa_cons (pe_op op_mul (pv 2) (pe_op op_sub (pv 1) pe_int)) pa_nil))))) pa_nil))))), ?_⟩
    refine ⟨_, rfl, v, T.C, dx, _, _, rfl, h1, T.cl, T.f_first, vF_first _ _ _, ?_⟩
    refine ⟨_, rfl, v, T.C, dx, _, _, rfl, h1, T.cl, T.f_axes, vF_axes _ _ _, l, rfl, ⟨_, SqL.of h2⟩, fun D hD => ?_⟩
    refine lc_list (K := K) (a := l) (xs := ts.map V.ref) (fun i H' => Same H H' ∧ H' D = some (.lst (((ax.take i).map low1).map V.int))) ⟨Same.upd hD, upd_same⟩ (fun i H' _ p => p.1.seq (SqL.of h2)) ?_ ?_
    · rintro i y H' hi ⟨sH, hl⟩
      obtain ⟨t, p, e1, e2, rfl, e3⟩ := item_ax h3 hi
      have hb := GoodA.at_ hg e2
      refine ⟨t, _, rfl, SqT.of (sH _ _ e3), rfl, _, _, rfl, _, _, rfl, rfl, rfl, ?_⟩
      refine ⟨_, rfl, _, rfl, _, _, rfl, rfl, _, _, rfl, rfl, .inr ⟨by omega, by omega⟩, _, _, rfl, ?_⟩
      refine ⟨_, hl, small8 ?_, sH.updR hD, ?_⟩
      · rw [List.length_map, List.length_map, List.length_take]
        have := hg.2
        rw [List.length_map] at this
        omega
      · rw [upd_same, take_more e2, List.map_append, List.map_append]
        rfl
    · rintro H' ⟨sH, hl⟩
      rw [List.length_map, h3.1, List.take_length] at hl
      exact ⟨D, _, rfl, SqL.of hl, _, _, rfl, rfl, k _ sH⟩
theorem ok_gre (T : Txt K mg) : FnOk P w K mg base CX0 1 T.a_gre T.d_gre p_gre (sp_gre T.C) := by
  refine T.F_gre.ok sc_gre (fun vs H Q E h => ?_) (fun cdv A outer s H vs Q E hr h => ?_)
  · obtain ⟨v, r, f, ax, rfl, _⟩ := h
    rfl
  · obtain ⟨v, r, f, ax, rfl, ⟨dx, l, h1, ts, h2, h3⟩, hg, k⟩ := h
    refine ⟨_, (pss_one (ps_ret (pe_op op_add (pe_fld (pv 0) rfl) (pe_callB (cr_sum rfl) (by rfl) T.z_sum (by decide +kernel) (pa_cons (pe_lc (own := [("size", 1), ("pace", 2)]) (g := gTup K 2 (gCons (gName 1) (gCons (gName 2) gNil))) (tt := tYes) rfl sc_gre.nd (pi_list (pe_fld (pv 0) rfl)) (blkOk_by (N := n_gre) (sc := defScope s_gre) (by decide +kernel)) (fun _ _ _ _ _ => (pg_tup rfl (pgs_cons (pg_name (i := 1) sc_gre.nd rfl (Or.inl rfl)) (pgs_cons (pg_name (i := 2) sc_gre.nd rfl (Or.inl rfl)) pgs_nil)))) (fun _ _ _ _ _ => pts_nil) (fun _ _ _ _ _ => (pe_callB (call_max2 rfl) (by rfl) T.z_max (by decide +kernel) (pa_cons pe_int (pa_cons (pe_op op_mul (pv 2) (pe_op op_sub (pv 1) pe_int)) pa_nil))))) pa_nil))))), ?_⟩
    refine ⟨_, rfl, v, T.C, dx, _, _, rfl, h1, T.cl, T.f_first, vF_first _ _ _, ?_⟩
    refine ⟨_, rfl, v, T.C, dx, _, _, rfl, h1, T.cl, T.f_axes, vF_axes _ _ _, l, rfl, ⟨_, SqL.of h2⟩, fun D hD => ?_⟩
    refine lc_list (K := K) (a := l) (xs := ts.map V.ref) (fun i H' => Same H H' ∧ H' D = some (.lst (((ax.take i).map hig1).map V.int))) ⟨Same.upd hD, upd_same⟩ (fun i H' _ p => p.1.seq (SqL.of h2)) ?_ ?_
    · rintro i y H' hi ⟨sH, hl⟩
      obtain ⟨t, p, e1, e2, rfl, e3⟩ := item_ax h3 hi
      have hb := GoodA.at_ hg e2
      refine ⟨t, _, rfl, SqT.of (sH _ _ e3), rfl, _, _, rfl, _, _, rfl, rfl, rfl, ?_⟩
      refine ⟨_, rfl, _, rfl, _, _, rfl, rfl, _, _, rfl, rfl, .inr ⟨by omega, by omega⟩, _, _, rfl, ?_⟩
      refine ⟨_, hl, small8 ?_, sH.updR hD, ?_⟩
      · rw [List.length_map, List.length_map, List.length_take]
        have := hg.2
        rw [List.length_map] at this
        omega
      · rw [upd_same, take_more e2, List.map_append, List.map_append]
        rfl
    · rintro H' ⟨sH, hl⟩
      rw [List.length_map, h3.1, List.take_length] at hl
      exact ⟨D, _, rfl, SqL.of hl, _, _, rfl, rfl, k _ sH⟩
end
end G26
namespace G26
open PySem PySem.Spec PyProof.Rows L2
section
variable {P : Program} {w : World} {K : PySem.W.Frag} {mg : Str → Option Value} {base : Heap}
theorem at_int {ns : List Int} {i : Int} (h0 : 0 ≤ i) (h1 : i < ns.length) : ∃ z, z ∈ ns ∧ atI (ns.map V.int) i = some (.int z) ∧ ns[i.toNat]? = some z := by
  have hl : i.toNat < ns.length := by omega
  refine ⟨ns[i.toNat], List.getElem_mem hl, at_of (j := i.toNat) (by omega) ?_, List.getElem?_eq_getElem hl⟩
  rw [List.getElem?_map, List.getElem?_eq_getElem hl]
  rfl
theorem ok_dra (T : Txt K mg) : FnOk P w K mg base CX0 1 T.a_dra T.d_dra p_dra (sp_dra K) := by
  refine T.F_dra.ok sc_dra (fun vs H Q E h => ?_) (fun cdv A outer s H vs Q E hr h => ?_)
  · obtain ⟨a, ns, k, m, rfl, _⟩ := h
    rfl
  · obtain ⟨a, ns, k, m, rfl, hS, hk0, hk1, hm, q⟩ := h
    refine ⟨_, (pss_cons (ps_if (pt_cmpR op_lt (pv 1) (pe_callB call_len_seq (by rfl) T.z_len (by decide +kernel) (pa_cons (pv 0) pa_nil)) (nomark _))
    (pss_one (ps_ret (pe_op op_mod (pe_ix ix_list (pv 0) (pv 1) (fun _ _ => rfl)) (pv 2))))
    pss_nil)
    (pss_cons (ps_set (i := 3) sc_dra.nd rfl (Or.inl rfl) (pe_op op_add (pe_op op_mul (pe_op op_mul (pv 1) (pv 1)) pe_int) pe_int))
    (pss_cons (ps_if (pt_cmpR op_gt (pe_callB call_len_seq (by rfl) T.z_len (by decide +kernel) (pa_cons (pv 0) pa_nil)) pe_int (nomark _))
    (pss_cons (ps_set (i := 3) sc_dra.nd rfl (Or.inl rfl) (pe_op op_mod (pe_ix ix_list (pv 0) (pe_op op_mod (pv 1) (pe_callB call_len_seq (by rfl) T.z_len (by decide +kernel) (pa_cons (pv 0) pa_nil))) (fun _ _ => rfl)) pe_int))
      (pss_one (ps_set (i := 3) sc_dra.nd rfl (Or.inl rfl) (pe_op op_add (pe_op op_mul (pv 3) (pe_op op_add pe_int (pe_op op_mul (pe_op op_mul pe_int (pv 1)) (pv 1)))) (pe_op op_mul (pv 1) pe_int)))))
    pss_nil)
    (pss_one (ps_ret (pe_op op_mod (pe_op op_mod (pe_op op_mul (pe_op op_mod (pv 3) pe_int) pe_int) pe_int) (pv 2))))))), ?_⟩
    have fin : ∀ z : Int, Q (.int (z % m)) H := fun z => q _ (Int.emod_nonneg _ (by omega)) (Int.emod_lt_of_pos _ hm)
    refine ⟨_, rfl, _, rfl, a, _, rfl, .inl hS, _, _, rfl, rfl, _, rfl, ite2 (fun c => ?_) (fun c => ?_)⟩
    · have c' := of_decide_eq_true c
      rw [List.length_map] at c'
      obtain ⟨z, _, hz, _⟩ := at_int hk0 c'
      exact ⟨_, rfl, _, rfl, a, _, _, _, rfl, rfl, hS, hz, _, rfl, _, _, rfl, rfl, hm, fin _⟩
    · refine ⟨_, rfl, _, rfl, _, _, rfl, rfl, .inl ⟨by omega, by omega⟩, _, _, rfl, rfl, .inr ⟨by decide, by decide⟩, _, _, rfl, rfl, ?_⟩
      refine ⟨_, rfl, a, _, rfl, .inl hS, _, _, rfl, rfl, _, rfl, ite2 (fun c2 => ?_) (fun c2 => ?_)⟩
      · have c2' := of_decide_eq_true c2
        rw [List.length_map] at c2'
        obtain ⟨z, _, hz, _⟩ := at_int (ns := ns) (i := k % (ns.length : Int)) (Int.emod_nonneg _ (by omega)) (Int.emod_lt_of_pos _ (by omega))
        have hn0 := Int.emod_nonneg z (b := 999999937) (by decide)
        have hn1 := Int.emod_lt_of_pos z (b := 999999937) (by decide)
        refine ⟨_, rfl, _, rfl, _, rfl, a, _, rfl, .inl hS, _, _, rfl, rfl, (by rw [List.length_map]; exact c2'), a, _, _, _, rfl, rfl, hS, (by rw [List.length_map]; exact hz), _, _, rfl, rfl, (by show (0 : Int) < 999999937; decide), ?_⟩
        refine ⟨_, rfl, _, rfl, _, _, rfl, rfl, .inl ⟨by decide, by decide⟩, _, rfl, _, _, rfl, rfl, .inr ⟨by omega, by omega⟩, _, _, rfl, rfl, _, _, rfl, rfl, .inl ⟨by omega, by omega⟩, _, rfl, _, _, rfl, rfl, .inr ⟨by decide, by decide⟩, _, _, rfl, rfl, ?_⟩
        exact ⟨_, rfl, _, _, rfl, rfl, (by show (0 : Int) < 2147483647; decide), _, _, rfl, rfl, .inr ⟨by decide, by decide⟩, _, _, rfl, rfl, (by show (0 : Int) < 2147483629; decide), _, rfl, _, _, rfl, rfl, hm, fin _⟩
      · exact ⟨_, rfl, _, _, rfl, rfl, (by show (0 : Int) < 2147483647; decide), _, _, rfl, rfl, .inr ⟨by decide, by decide⟩, _, _, rfl, rfl, (by show (0 : Int) < 2147483629; decide), _, rfl, _, _, rfl, rfl, hm, fin _⟩
theorem ok_roo (T : Txt K mg) : FnOk P w K mg base CX0 1 T.a_roo T.d_roo p_roo sp_roo := by
  refine T.F_roo.ok sc_roo (fun vs H Q E h => ?_) (fun cdv A outer s H vs Q E hr h => ?_)
  · obtain ⟨c, k, rfl, _⟩ := h
    rfl
  · obtain ⟨c, k, rfl, q⟩ := h
    refine ⟨_, (pss_cons (ps_set (i := 2) sc_roo.nd rfl (Or.inl rfl) (pe_lst (pa_cons (pv 0) (pa_cons (pe_op op_add (pv 0) (pe_op op_mod (pe_op op_fdiv (pv 1) pe_int) pe_int)) (pa_cons (pe_op op_pow pe_int pe_int) (pa_cons (pe_op op_sub (pv 0) pe_int) (pa_cons (pe_op op_sub (pe_op op_sub (pv 0) pe_int) (pe_op op_mod (pe_op op_fdiv (pv 1) pe_int) pe_int)) (pa_cons (pe_op op_add (pe_op op_pow pe_int pe_int) pe_int) pa_nil))))))))
    (pss_one (ps_ret (pe_ix ix_list (pe_op op_cat (pv 2) (pe_lst (pa_cons pe_non (pa_cons pe_non pa_nil)))) (pe_op op_mod (pv 1) pe_int) (fun _ _ => rfl))))), ?_⟩
    refine ⟨_, rfl, _, rfl, _, rfl, _, _, rfl, rfl, ⟨by decide, by decide⟩, _, _, rfl, rfl, (by show (0 : Int) < 10; decide), _, _, rfl, rfl, ?_⟩
    refine ⟨_, _, rfl, rfl, ⟨by decide, by decide, by decide⟩, ?_⟩
    refine ⟨_, rfl, _, _, rfl, rfl, ?_⟩
    refine ⟨_, rfl, _, _, rfl, rfl, _, rfl, _, _, rfl, rfl, ⟨by decide, by decide⟩, _, _, rfl, rfl, (by show (0 : Int) < 7; decide), _, _, rfl, rfl, ?_⟩
    refine ⟨_, _, rfl, rfl, ⟨by decide, by decide, by decide⟩, _, _, rfl, rfl, ?_⟩
    refine ⟨(by show 6 ≤ sizeLine; decide), fun p hp => ?_⟩
    refine ⟨_, rfl, (by show 2 ≤ sizeLine; decide), fun p2 hp2 => ?_⟩
    have np : p ≠ p2 := ne_of_none upd_same hp2
    refine ⟨p, p2, _, _, rfl, rfl, (by rw [upd_ne np]; exact upd_same), upd_same, (by show 8 ≤ sizeLine; decide), fun p3 hp3 => ?_⟩
    have h0 := Int.emod_nonneg k (b := 8) (by decide)
    have h1 := Int.emod_lt_of_pos k (b := 8) (by decide)
    have s3 : Same H (upd (upd (upd H p (.lst [V.int c, V.int (c + k / 8 % 10), V.int (10 ^ (18 : Int).toNat), V.int (c - 1), V.int (c - 1 - k / 8 % 7), V.int (10 ^ (18 : Int).toNat + 1)])) p2 (.lst [V.non, V.non])) p3 (.lst ([V.int c, V.int (c + k / 8 % 10), V.int (10 ^ (18 : Int).toNat), V.int (c - 1), V.int (c - 1 - k / 8 % 7), V.int (10 ^ (18 : Int).toNat + 1)] ++ [V.non, V.non]))) :=
      ((Same.upd hp).trans (Same.upd hp2)).trans (Same.upd hp3)
    have key : ∃ x, atI ([V.int c, V.int (c + k / 8 % 10), V.int (10 ^ (18 : Int).toNat), V.int (c - 1), V.int (c - 1 - k / 8 % 7), V.int (10 ^ (18 : Int).toNat + 1)] ++ [V.non, V.non]) (k % 8) = some x ∧ (x = .non ∨ ∃ i, x = .int i) := by
      have hc : k % 8 = 0 ∨ k % 8 = 1 ∨ k % 8 = 2 ∨ k % 8 = 3 ∨ k % 8 = 4 ∨ k % 8 = 5 ∨ k % 8 = 6 ∨ k % 8 = 7 := by omega
      rcases hc with e | e | e | e | e | e | e | e <;> rw [e]
      · exact ⟨_, rfl, .inr ⟨_, rfl⟩⟩
      · exact ⟨_, rfl, .inr ⟨_, rfl⟩⟩
      · exact ⟨_, rfl, .inr ⟨_, rfl⟩⟩
      · exact ⟨_, rfl, .inr ⟨_, rfl⟩⟩
      · exact ⟨_, rfl, .inr ⟨_, rfl⟩⟩
      · exact ⟨_, rfl, .inr ⟨_, rfl⟩⟩
      · exact ⟨_, rfl, .inl rfl⟩
      · exact ⟨_, rfl, .inl rfl⟩
    obtain ⟨x, hx, hx2⟩ := key
    exact ⟨_, rfl, _, _, rfl, rfl, (by show (0 : Int) < 8; decide), p3, _, _, x, rfl, rfl, SqL.of upd_same, hx, q _ x s3 hx2⟩
theorem ok_lax (T : Txt K mg) : FnOk P w K mg base CX0 1 T.a_lax T.d_lax p_lax (sp_lax K) := by
  refine T.F_lax.ok sc_lax (fun vs H Q E h => ?_) (fun cdv A outer s H vs Q E hr h => ?_)
  · obtain ⟨a, ns, rfl, _⟩ := h
    rfl
  · obtain ⟨a, ns, rfl, hS, hg, k⟩ := h
    have hlen := hg.2
    refine ⟨_, (pss_cons (ps_set (i := 1) sc_lax.nd rfl (Or.inl rfl) (pe_lst pa_nil))
    (pss_cons (ps_set (i := 2) sc_lax.nd rfl (Or.inl rfl) pe_int)
    (pss_cons (ps_for PassesOwn.never rfl (pi_range1 rfl T.z_range (pa_cons (pe_callB call_len_seq (by rfl) T.z_len (by decide +kernel) (pa_cons (pv 0) pa_nil)) pa_nil)) (pg_name (i := 3) sc_lax.nd rfl (Or.inl rfl))
    (pss_cons (ps_set (i := 4) sc_lax.nd rfl (Or.inl rfl) (pe_ix ix_list (pv 0) (pe_op op_sub (pe_op op_sub (pe_callB call_len_seq (by rfl) T.z_len (by decide +kernel) (pa_cons (pv 0) pa_nil)) pe_int) (pv 3)) (fun _ _ => rfl)))
      (pss_cons (ps_set (i := 1) sc_lax.nd rfl (Or.inl rfl) (pe_op op_cat (pe_lst (pa_cons (pe_tup (pa_cons (pv 4) (pa_cons (pe_op op_mul (pv 2) (pe_callTy call_int1 (by rfl) T.z_int (by decide +kernel) (pa_cons (pe_cmpR op_gt (pv 4) pe_int (nomark _)) pa_nil))) pa_nil))) pa_nil)) (pv 1)))
      (pss_one (ps_set (i := 2) sc_lax.nd rfl (Or.inl rfl) (pe_op op_mul (pv 2) (pv 4)))))))
    (pss_one (ps_ret (pv 1)))))), ?_⟩
    refine ⟨Nat.zero_le _, fun q0 hq0 => ?_⟩
    refine ⟨_, rfl, a, _, rfl, .inl ((Same.upd hq0).seq hS), _, rfl, (by rw [List.length_map]; omega), (by rw [List.length_map]; omega), ?_⟩
    refine for_range (n := _) (fun i σ H' => ∃ q v3 v4, σ = [some (.ref a), some (.ref q), some (.int (prod (ns.drop (ns.length - i)))), v3, v4] ∧ i ≤ ns.length ∧ Same H H' ∧ Axs H' q (wAx (ns.drop (ns.length - i)))) ⟨q0, none, none, ?_, Nat.zero_le _, Same.upd hq0, ?_⟩ ?_ ?_
    · rw [Nat.sub_zero, List.drop_length]
      rfl
    · rw [Nat.sub_zero, List.drop_length]
      exact ⟨[], upd_same, rfl, fun j t p e1 e2 => by simp at e1⟩
    · rintro i σ H' hi ⟨q, v3, v4, rfl, hle, sH, ts, hl, hp⟩
      have hi' : i < ns.length := by
        rw [List.length_map] at hi
        omega
      have hlt : ns.length - 1 - i < ns.length := by omega
      have hz : ns[ns.length - 1 - i]? = some ns[ns.length - 1 - i] := List.getElem?_eq_getElem hlt
      generalize ns[ns.length - 1 - i] = z at hz
      have hb := hg.1 z (List.mem_of_getElem? hz)
      have e1 : ns.length - 1 - i + 1 = ns.length - i := by omega
      have e2 : ns.length - (i + 1) = ns.length - 1 - i := by omega
      have hd := drop_more hz
      rw [e1] at hd
      have hat : atI (ns.map V.int) (((ns.map V.int).length : Int) - 1 - (0 + (i : Int))) = some (.int z) := by
        refine at_of (j := ns.length - 1 - i) (by rw [List.length_map]; omega) ?_
        rw [List.getElem?_map, hz]
        rfl
      have hS' := sH.seq hS
      refine ⟨_, rfl, _, rfl, a, _, rfl, .inl hS', _, _, rfl, rfl, _, rfl, _, _, rfl, rfl, a, _, _, _, rfl, rfl, hS', hat, ?_⟩
      have hm : CMul (prod (ns.drop (ns.length - i))) (if decide (1 < z) = true then 1 else 0) := .inr (by split <;> exact ⟨by decide, by decide⟩)
      refine ⟨_, rfl, _, rfl, _, rfl, _, _, rfl, rfl, .inr ⟨_, rfl, _, _, rfl, rfl, hm, (by show 2 ≤ sizeLine; decide), fun p hp1 => ⟨(by show 1 ≤ sizeLine; decide), fun p2 hp2 => ?_⟩⟩⟩
      have np : p ≠ p2 := ne_of_none upd_same hp2
      have s2 : Same H' (upd (upd H' p (.tup [V.int z, V.int (prod (ns.drop (ns.length - i)) * if decide (1 < z) = true then 1 else 0)])) p2 (.lst [V.ref p])) := (Same.upd hp1).trans (Same.upd hp2)
      have hts : ts.length = ns.length - (ns.length - i) := by rw [hp.1, wAx_len, List.length_drop]
      refine ⟨_, rfl, p2, q, _, _, rfl, rfl, upd_same, s2 _ _ hl, Nat.le_of_lt (small8 (by rw [List.length_map]; show 1 + ts.length ≤ 8; omega)), fun p3 hp3 => ?_⟩
      have s3 := s2.trans (Same.upd (o := .lst ([V.ref p] ++ ts.map V.ref)) hp3)
      refine ⟨_, rfl, _, rfl, _, _, rfl, rfl, .inr ⟨by omega, by omega⟩, ⟨p3, some (.int (0 + (i : Int))), some (.int z), ?_, by omega, sH.trans s3, p :: ts, ?_, ?_, ?_⟩⟩
      · rw [e2, hd]
        show _ = [some (V.ref a), some (V.ref p3), some (V.int (z * prod (ns.drop (ns.length - i)))), some (V.int (0 + (i : Int))), some (V.int z)]
        rw [Int.mul_comm z]
        rfl
      · exact upd_same
      · rw [e2, hd, wAx_cons, List.length_cons, List.length_cons, hp.1]
      · rw [e2, hd, wAx_cons]
        intro j t pq f1 f2
        match j, f1, f2 with
        | 0, f1, f2 =>
          simp at f1 f2
          subst f1 f2
          have e : upd (upd (upd H' p (.tup [V.int z, V.int (prod (ns.drop (ns.length - i)) * if decide (1 < z) = true then 1 else 0)])) p2 (.lst [V.ref p])) p3 (.lst ([V.ref p] ++ ts.map V.ref)) p = some (.tup [V.int z, V.int (prod (ns.drop (ns.length - i)) * if decide (1 < z) = true then 1 else 0)]) := by
            have n3 : p ≠ p3 := ne_of_none (H := upd (upd H' p (.tup [V.int z, V.int (prod (ns.drop (ns.length - i)) * if decide (1 < z) = true then 1 else 0)])) p2 (.lst [V.ref p])) (by rw [upd_ne np]; exact upd_same) hp3
            rw [upd_ne n3, upd_ne np]
            exact upd_same
          refine e.trans ?_
          unfold keep1
          by_cases c : z = 1
          · subst c
            simp
          · have c2 : 1 < z := by omega
            simp [c, c2]
        | j + 1, f1, f2 =>
          exact s3 _ _ (hp.2 j t pq (by simpa using f1) (by simpa using f2))
    · rintro σ H' ⟨q, v3, v4, rfl, hle, sH, hA⟩
      have e : ns.length - (((ns.map V.int).length : Int)).toNat = 0 := by
        rw [List.length_map]
        omega
      refine ⟨_, rfl, k _ q sH ?_⟩
      have hA' := hA
      rw [e, List.drop_zero] at hA'
      exact hA'
end
end G26
namespace G26
open PySem PySem.Spec PyProof.Rows L2
theorem prod_drop {ns : List Int} (h : Pos ns) : ∀ j : Nat, 1 ≤ prod (ns.drop j) ∧ prod (ns.drop j) ≤ prod ns := fun j => by
  have e : ns.take j ++ ns.drop j = ns := List.take_append_drop j ns
  have h1 : Pos (ns.take j) := fun n hn => h n (List.mem_of_mem_take hn)
  have h2 : Pos (ns.drop j) := fun n hn => h n (List.mem_of_mem_drop hn)
  have q1 := prod_pos h1
  have q2 := prod_pos h2
  have e2 : prod ns = prod (ns.take j) * prod (ns.drop j) := by rw [← prod_app, e]
  refine ⟨q2, ?_⟩
  rw [e2]
  have := Int.mul_le_mul_of_nonneg_right q1 (show 0 ≤ prod (ns.drop j) by omega)
  omega
theorem low1_nonpos (p : Int × Int) : low1 p ≤ 0 := by unfold low1; split <;> omega
theorem hig1_nonneg (p : Int × Int) : 0 ≤ hig1 p := by unfold hig1; split <;> omega
theorem low_nonpos : ∀ ax : List (Int × Int), low ax ≤ 0
  | [] => Int.le_refl 0
  | p :: r => by
    have h1 := low1_nonpos p
    have h2 := low_nonpos r
    show low1 p + low r ≤ 0
    omega
theorem hig_nonneg : ∀ ax : List (Int × Int), 0 ≤ hig ax
  | [] => Int.le_refl 0
  | p :: r => by
    have h1 := hig1_nonneg p
    have h2 := hig_nonneg r
    show 0 ≤ hig1 p + hig r
    omega
theorem small1 {p : Int × Int} (h : 1 ≤ p.1 ∧ p.1 ≤ 6 ∧ -200 ≤ p.2 ∧ p.2 ≤ 200) : -1000 ≤ p.2 * (p.1 - 1) ∧ p.2 * (p.1 - 1) ≤ 1000 := by
  obtain ⟨s, q⟩ := p
  obtain ⟨h1, h2, h3, h4⟩ := h
  dsimp only at *
  have hc : s = 1 ∨ s = 2 ∨ s = 3 ∨ s = 4 ∨ s = 5 ∨ s = 6 := by omega
  rcases hc with rfl | rfl | rfl | rfl | rfl | rfl <;> omega
theorem small_low : ∀ {ax : List (Int × Int)}, (∀ p ∈ ax, 1 ≤ p.1 ∧ p.1 ≤ 6 ∧ -200 ≤ p.2 ∧ p.2 ≤ 200) → -(1000 * (ax.length : Int)) ≤ low ax
  | [], _ => by show -(1000 * ((0 : Nat) : Int)) ≤ 0; decide
  | p :: r, h => by
    have h1 := small1 (h p List.mem_cons_self)
    have h2 := small_low fun q hq => h q (List.mem_cons_of_mem _ hq)
    have h3 : -1000 ≤ low1 p := by unfold low1; split <;> omega
    show _ ≤ low1 p + low r
    rw [List.length_cons]
    omega
theorem small_hig : ∀ {ax : List (Int × Int)}, (∀ p ∈ ax, 1 ≤ p.1 ∧ p.1 ≤ 6 ∧ -200 ≤ p.2 ∧ p.2 ≤ 200) → hig ax ≤ 1000 * (ax.length : Int)
  | [], _ => by show (0 : Int) ≤ 1000 * ((0 : Nat) : Int); decide
  | p :: r, h => by
    have h1 := small1 (h p List.mem_cons_self)
    have h2 := small_hig fun q hq => h q (List.mem_cons_of_mem _ hq)
    have h3 : hig1 p ≤ 1000 := by unfold hig1; split <;> omega
    show hig1 p + hig r ≤ _
    rw [List.length_cons]
    omega
theorem SmallA.good {ax : List (Int × Int)} (h : SmallA ax) : GoodA ax := by
  refine ⟨fun n hn => ?_, by rw [List.length_map]; exact h.1⟩
  obtain ⟨p, hp, rfl⟩ := List.mem_map.mp hn
  have := h.2.2 p hp
  omega
theorem low_app (xs ys : List (Int × Int)) : low (xs ++ ys) = low xs + low ys := by
  unfold low
  rw [List.map_append, List.sum_append]
theorem hig_app (xs ys : List (Int × Int)) : hig (xs ++ ys) = hig xs + hig ys := by
  unfold hig
  rw [List.map_append, List.sum_append]
theorem low_one (p : Int × Int) : low [p] = low1 p := by
  show low1 p + 0 = low1 p
  omega
theorem hig_one (p : Int × Int) : hig [p] = hig1 p := by
  show hig1 p + 0 = hig1 p
  omega
theorem low_rev : ∀ xs : List (Int × Int), low xs.reverse = low xs
  | [] => rfl
  | p :: r => by
    rw [List.reverse_cons, low_app, low_rev r, low_one]
    show low r + low1 p = low1 p + low r
    omega
theorem hig_rev : ∀ xs : List (Int × Int), hig xs.reverse = hig xs
  | [] => rfl
  | p :: r => by
    rw [List.reverse_cons, hig_app, hig_rev r, hig_one]
    show hig r + hig1 p = hig1 p + hig r
    omega
theorem low_drop1 (xs : List (Int × Int)) : low xs ≤ low (xs.drop 1) := by
  cases xs with
  | nil => exact Int.le_refl _
  | cons p r =>
    have := low1_nonpos p
    show low1 p + low r ≤ low r
    omega
theorem hig_drop1 (xs : List (Int × Int)) : hig (xs.drop 1) ≤ hig xs := by
  cases xs with
  | nil => exact Int.le_refl _
  | cons p r =>
    have := hig1_nonneg p
    show hig r ≤ hig1 p + hig r
    omega
theorem keepA_drop {ax : List (Int × Int)} (h : keepA ax = ax) : keepA (ax.drop 1) = ax.drop 1 := by
  have e : keepA (ax.drop 1) = (keepA ax).drop 1 := by unfold keepA; rw [List.map_drop]
  rw [e, h]
theorem keepA_rev {ax : List (Int × Int)} (h : keepA ax = ax) : keepA ax.reverse = ax.reverse := by
  have e : keepA ax.reverse = (keepA ax).reverse := by unfold keepA; rw [List.map_reverse]
  rw [e, h]
theorem GoodA.drop {ax : List (Int × Int)} (h : GoodA ax) : GoodA (ax.drop 1) := by
  refine ⟨fun n hn => h.1 n ?_, ?_⟩
  · rw [List.map_drop] at hn
    exact List.mem_of_mem_drop hn
  · have := h.2
    rw [List.map_drop, List.length_drop]
    omega
theorem GoodA.rev {ax : List (Int × Int)} (h : GoodA ax) : GoodA ax.reverse := by
  refine ⟨fun n hn => h.1 n ?_, ?_⟩
  · rw [List.map_reverse] at hn
    exact List.mem_reverse.mp hn
  · have := h.2
    rw [List.map_reverse, List.length_reverse]
    omega
theorem cutV_1 (xs : List V) : cutV xs (some 1) none = xs.drop 1 := by
  unfold cutV
  have e1 : HT.sIx xs.length 0 (some 1) = min 1 xs.length := HT.sIx_nat xs.length 0 1
  rw [e1, HT.sIx_none]
  cases xs with
  | nil => rfl
  | cons x r =>
    have e2 : min 1 (x :: r).length = 1 := by rw [List.length_cons]; omega
    rw [e2]
    show r.take (r.length + 1 - 1) = r
    simp
theorem Prs.drop {H : Hp} {ts : List Addr} {ax : List (Int × Int)} (h : Prs H ts ax) : Prs H (ts.drop 1) (ax.drop 1) := by
  refine ⟨by rw [List.length_drop, List.length_drop, h.1], fun j t p e1 e2 => ?_⟩
  rw [List.getElem?_drop] at e1 e2
  exact h.2 _ t p e1 e2
theorem Prs.rev {H : Hp} {ts : List Addr} {ax : List (Int × Int)} (h : Prs H ts ax) : Prs H ts.reverse ax.reverse := by
  refine ⟨by rw [List.length_reverse, List.length_reverse, h.1], fun j t p e1 e2 => ?_⟩
  have hl := h.1
  have j1 : j < ts.length := by
    have := (List.getElem?_eq_some_iff.mp e1).1
    rwa [List.length_reverse] at this
  rw [List.getElem?_reverse j1] at e1
  rw [List.getElem?_reverse (by omega), ← hl] at e2
  exact h.2 _ t p e1 e2
section
variable {P : Program} {w : World} {K : PySem.W.Frag} {mg : Str → Option Value} {base : Heap}
theorem ok_oth (T : Txt K mg) : FnOk P w K mg base CX0 1 T.a_oth T.d_oth p_oth sp_oth := by
  refine T.F_oth.ok sc_oth (fun vs H Q E h => ?_) (fun cdv A outer s H vs Q E hr h => ?_)
  · obtain ⟨t, r, f, ax, c, rfl, _⟩ := h
    rfl
  · obtain ⟨t, r, f, ax, c, rfl, ⟨l, h1, ts, h2, h3⟩, hp, k⟩ := h
    obtain ⟨gd, kp, lo, hi, r1, rm⟩ := hp
    refine ⟨_, (pss_cons (ps_asg (pv 0) (pg_tup rfl (pgs_cons (pg_name (i := 2) sc_oth.nd rfl (Or.inl rfl)) (pgs_cons (pg_name (i := 3) sc_oth.nd rfl (Or.inl rfl)) (pgs_cons (pg_name (i := 4) sc_oth.nd rfl (Or.inl rfl)) pgs_nil)))))
    (pss_cons (ps_set (i := 5) sc_oth.nd rfl (Or.inl rfl) (pe_op op_mod (pv 1) pe_int))
    (pss_cons (ps_if (pt_cmpR op_eq (pv 5) pe_int (nomark _))
    (pss_one (ps_ret (pe_tup (pa_cons (pe_op op_add (pe_op op_add (pv 2) pe_int) (pe_op op_mod (pe_op op_fdiv (pv 1) pe_int) pe_int)) (pa_cons (pv 3) (pa_cons (pv 4) pa_nil))))))
    pss_nil)
    (pss_cons (ps_if (pt_cmpR op_eq (pv 5) pe_int (nomark _))
    (pss_one (ps_ret (pe_tup (pa_cons (pe_op op_add (pv 2) pe_int) (pa_cons (pe_op op_add (pe_op op_add (pv 3) pe_int) (pe_op op_mod (pe_op op_fdiv (pv 1) pe_int) pe_int)) (pa_cons (pv 4) pa_nil))))))
    pss_nil)
    (pss_cons (ps_if (pt_cmpR op_eq (pv 5) pe_int (nomark _))
    (pss_one (ps_ret (pe_tup (pa_cons (pv 2) (pa_cons (pv 3) (pa_cons (pe_slice sl_list (pv 4) (po_some pe_int) po_none) pa_nil))))))
    pss_nil)
    (pss_cons (ps_if (pt_cmpR op_eq (pv 5) pe_int (nomark _))
    (pss_one (ps_ret (pe_tup (pa_cons (pv 2) (pa_cons (pv 3) (pa_cons (pe_revL (pv 4)) pa_nil))))))
    pss_nil)
    (pss_one (ps_ret (pe_tup (pa_cons (pv 2) (pa_cons (pv 3) (pa_cons (pe_callTy call_list_of (by rfl) T.z_list (by decide +kernel) (pa_cons (pv 4) pa_nil)) pa_nil)))))))))))), ?_⟩
    have c0 := Int.emod_nonneg (c / 5) (b := 3) (by decide)
    have c1 := Int.emod_lt_of_pos (c / 5) (b := 3) (by decide)
    refine ⟨_, rfl, t, _, rfl, SqT.of h1, rfl, _, _, rfl, _, _, rfl, _, _, rfl, rfl, ?_⟩
    refine ⟨_, rfl, _, _, rfl, rfl, (by show (0 : Int) < 5; decide), ?_⟩
    refine ⟨_, rfl, rfl, _, rfl, ite2 (fun _ => ?_) (fun _ => ?_)⟩
    · refine ⟨_, rfl, _, _, rfl, rfl, _, rfl, _, _, rfl, rfl, ⟨by decide, by decide⟩, _, _, rfl, rfl, (by show (0 : Int) < 3; decide), _, _, rfl, rfl, _, rfl, _, rfl, (by show 3 ≤ sizeLine; decide), fun p hp => ?_⟩
      have s1 : Same H (upd H p (.tup [V.int (r + 1 + c / 5 % 3), V.int f, V.ref l])) := Same.upd hp
      exact k _ p _ _ ax s1 ⟨l, upd_same, Axs.same ⟨ts, h2, h3⟩ s1⟩ ⟨gd, kp, lo, by omega, by omega, by omega⟩
    · refine ⟨_, rfl, rfl, _, rfl, ite2 (fun _ => ?_) (fun _ => ?_)⟩
      · refine ⟨_, rfl, _, _, rfl, rfl, _, rfl, _, _, rfl, rfl, _, rfl, _, _, rfl, rfl, ⟨by decide, by decide⟩, _, _, rfl, rfl, (by show (0 : Int) < 3; decide), _, _, rfl, rfl, _, rfl, (by show 3 ≤ sizeLine; decide), fun p hp => ?_⟩
        have s1 : Same H (upd H p (.tup [V.int (r + 4), V.int (f + 1 + c / 5 % 3), V.ref l])) := Same.upd hp
        exact k _ p _ _ ax s1 ⟨l, upd_same, Axs.same ⟨ts, h2, h3⟩ s1⟩ ⟨gd, kp, by omega, by omega, by omega, by omega⟩
      · refine ⟨_, rfl, rfl, _, rfl, ite2 (fun _ => ?_) (fun _ => ?_)⟩
        · refine ⟨_, rfl, _, rfl, _, rfl, _, rfl, l, _, rfl, SqL.of h2, fun q hq => ⟨(by show 3 ≤ sizeLine; decide), fun p hp => ?_⟩⟩
          have s1 : Same H (upd H q (.lst (cutV (ts.map V.ref) (some 1) none))) := Same.upd hq
          have s2 := s1.trans (Same.upd (o := .tup [V.int r, V.int f, V.ref q]) hp)
          have nq : q ≠ p := ne_of_none upd_same hp
          have a1 := low_drop1 ax
          have a2 := hig_drop1 ax
          refine k _ p r f (ax.drop 1) s2 ⟨q, upd_same, ts.drop 1, ?_, h3.drop.same s2⟩ ⟨gd.drop, keepA_drop kp, by omega, by omega, by omega, by omega⟩
          rw [upd_ne nq, upd_same, cutV_1, List.map_drop]
        · refine ⟨_, rfl, rfl, _, rfl, ite2 (fun _ => ?_) (fun _ => ?_)⟩
          · refine ⟨_, rfl, _, rfl, _, rfl, l, _, rfl, SqL.of h2, fun q hq => ⟨(by show 3 ≤ sizeLine; decide), fun p hp => ?_⟩⟩
            have s1 : Same H (upd H q (.lst (ts.map V.ref).reverse)) := Same.upd hq
            have s2 := s1.trans (Same.upd (o := .tup [V.int r, V.int f, V.ref q]) hp)
            have nq : q ≠ p := ne_of_none upd_same hp
            have a1 := low_rev ax
            have a2 := hig_rev ax
            refine k _ p r f ax.reverse s2 ⟨q, upd_same, ts.reverse, ?_, h3.rev.same s2⟩ ⟨gd.rev, keepA_rev kp, by omega, by omega, by omega, by omega⟩
            rw [upd_ne nq, upd_same, List.map_reverse]
          · refine ⟨_, rfl, _, rfl, _, rfl, l, _, rfl, .inl (SqL.of h2), fun q hq => ⟨(by show 3 ≤ sizeLine; decide), fun p hp => ?_⟩⟩
            have s1 : Same H (upd H q (.lst (ts.map V.ref))) := Same.upd hq
            have s2 := s1.trans (Same.upd (o := .tup [V.int r, V.int f, V.ref q]) hp)
            have nq : q ≠ p := ne_of_none upd_same hp
            refine k _ p r f ax s2 ⟨q, upd_same, ts, ?_, h3.same s2⟩ ⟨gd, kp, by omega, by omega, by omega, by omega⟩
            rw [upd_ne nq, upd_same]
theorem ok_lpa (T : Txt K mg) : FnOk P w K mg base CX0 1 T.a_lpa T.d_lpa p_lpa sp_lpa := by
  refine T.F_lpa.ok sc_lpa (fun vs H Q E h => ?_) (fun cdv A outer s H vs Q E hr h => ?_)
  · obtain ⟨a, b, ns, ps, c, rfl, _⟩ := h
    rfl
  · obtain ⟨a, b, ns, ps, c0, rfl, ha, hb, hpl, hlen, hns, hpr, hps, k⟩ := h
    have pos : Pos ns := fun n hn => (hns n hn).1
    refine ⟨_, (pss_cons (ps_set (i := 3) sc_lpa.nd rfl (Or.inl rfl) (pe_lst pa_nil))
    (pss_cons (ps_set (i := 4) sc_lpa.nd rfl (Or.inl rfl) pe_int)
    (pss_cons (ps_for PassesOwn.never rfl (pi_range1 rfl T.z_range (pa_cons (pe_callB call_len_seq (by rfl) T.z_len (by decide +kernel) (pa_cons (pv 0) pa_nil)) pa_nil)) (pg_name (i := 5) sc_lpa.nd rfl (Or.inl rfl))
    (pss_cons (ps_set (i := 6) sc_lpa.nd rfl (Or.inl rfl) (pe_op op_sub (pe_op op_sub (pe_callB call_len_seq (by rfl) T.z_len (by decide +kernel) (pa_cons (pv 0) pa_nil)) pe_int) (pv 5)))
      (pss_cons (ps_set (i := 7) sc_lpa.nd rfl (Or.inl rfl) (pe_ix ix_list (pv 1) (pv 6) (fun _ _ => rfl)))
      (C8.pss_cut (ps_if (pt_cmpR op_eq (pe_op op_mod (pe_op op_fdiv (pv 2) pe_int) pe_int) pe_int (nomark _))
      (pss_one (ps_set (i := 7) sc_lpa.nd rfl (Or.inl rfl) (pv 4)))
      pss_nil)
      (C8.pss_cut (ps_if (pt_cmpR op_eq (pe_op op_mod (pe_op op_fdiv (pv 2) pe_int) pe_int) pe_int (nomark _))
      (pss_one (ps_set (i := 7) sc_lpa.nd rfl (Or.inl rfl) (pe_op op_sub pe_int (pv 4))))
      pss_nil)
      (C8.pss_cut (ps_if (PW.pt (pw_and (pt_cmpR op_eq (pe_op op_mod (pe_op op_fdiv (pv 2) pe_int) pe_int) pe_int (nomark _)) (pw_and1 (pt_cmpR (op_neD hr.units) (pv 3) (pe_lst pa_nil) (nomark _)))))
      (pss_one (ps_set (i := 7) sc_lpa.nd rfl (Or.inl rfl) (pe_ix ix_list (pv 3) pe_int (fun _ _ => rfl))))
      pss_nil)
      (pss_cons (ps_set (i := 4) sc_lpa.nd rfl (Or.inl rfl) (pe_op op_mul (pv 4) (pe_ix ix_list (pv 0) (pv 6) (fun _ _ => rfl))))
      (pss_cons (ps_set (i := 3) sc_lpa.nd rfl (Or.inl rfl) (pe_op op_cat (pe_lst (pa_cons (pv 7) pa_nil)) (pv 3)))
      (pss_one (ps_set (i := 2) sc_lpa.nd rfl (Or.inl rfl) (pe_op op_fdiv (pv 2) pe_int)))))))))))
    (pss_one (ps_ret (pv 3)))))), ?_⟩
    refine ⟨Nat.zero_le _, fun q0 hq0 => ?_⟩
    refine ⟨_, rfl, a, _, rfl, .inl ((Same.upd hq0).seq (SqL.of ha)), _, rfl, (by rw [List.length_map]; omega), (by rw [List.length_map]; omega), ?_⟩
    refine for_range (n := _) (fun i σ H' => ∃ q c v5 v6 v7 ws, σ = [some (.ref a), some (.ref b), some (.int c), some (.ref q), some (.int (prod (ns.drop (ns.length - i)))), v5, v6, v7] ∧ i ≤ ns.length ∧ Same H H' ∧ H' q = some (.lst (ws.map V.int)) ∧ ws.length = i ∧ ∀ w ∈ ws, -200 ≤ w ∧ w ≤ 200)
      ⟨q0, c0, none, none, none, [], ?_, Nat.zero_le _, Same.upd hq0, upd_same, rfl, fun w hw => by simp at hw⟩ ?_ ?_
    · rw [Nat.sub_zero, List.drop_length]
      rfl
    · rintro i σ H' hi ⟨q, c, v5, v6, v7, ws, rfl, hle, sH, hq, hwl, hws⟩
      have hi' : i < ns.length := by
        rw [List.length_map] at hi
        omega
      have hlt : ns.length - 1 - i < ns.length := by omega
      have hz : ns[ns.length - 1 - i]? = some ns[ns.length - 1 - i] := List.getElem?_eq_getElem hlt
      generalize ns[ns.length - 1 - i] = z at hz
      have hy : ps[ns.length - 1 - i]? = some (ps[ns.length - 1 - i]'(by omega)) := List.getElem?_eq_getElem (by omega)
      generalize ps[ns.length - 1 - i]'(by omega) = y at hy
      have hzb := hns z (List.mem_of_getElem? hz)
      have hyb := hps y (List.mem_of_getElem? hy)
      have e1 : ns.length - 1 - i + 1 = ns.length - i := by omega
      have e2 : ns.length - (i + 1) = ns.length - 1 - i := by omega
      have hd := drop_more hz
      rw [e1] at hd
      have hB := prod_drop pos (ns.length - i)
      have hat0 : atI (ns.map V.int) (((ns.map V.int).length : Int) - 1 - (0 + (i : Int))) = some (.int z) := by
        refine at_of (j := ns.length - 1 - i) (by rw [List.length_map]; omega) ?_
        rw [List.getElem?_map, hz]
        rfl
      have hat1 : atI (ps.map V.int) (((ns.map V.int).length : Int) - 1 - (0 + (i : Int))) = some (.int y) := by
        refine at_of (j := ns.length - 1 - i) (by rw [List.length_map]; omega) ?_
        rw [List.getElem?_map, hy]
        rfl
      refine ⟨_, rfl, a, _, rfl, .inl (sH.seq (SqL.of ha)), _, _, rfl, rfl, _, rfl, _, _, rfl, rfl, ?_⟩
      refine ⟨_, rfl, _, rfl, b, _, _, _, rfl, rfl, sH.seq (SqL.of hb), hat1, ?_⟩
      -- between the ifs: the pace lies within 200
      let Mid : L2.St → Hp → Prop := fun σ' H'' => Same H' H'' ∧ ∃ x : Int, -200 ≤ x ∧ x ≤ 200 ∧ σ' = [some (.ref a), some (.ref b), some (.int c), some (.ref q), some (.int (prod (ns.drop (ns.length - i)))), some (.int (0 + (i : Int))), some (.int (((ns.map V.int).length : Int) - 1 - (0 + (i : Int)))), some (.int x)]
      refine ⟨Mid, ⟨_, rfl, _, _, rfl, rfl, ⟨by decide, by decide⟩, _, _, rfl, rfl, (by show (0 : Int) < 5; decide), rfl, _, rfl, ite2 (fun _ => ?_) (fun _ => ?_)⟩, ?_⟩
      · exact ⟨_, rfl, Same.refl _, prod (ns.drop (ns.length - i)), by omega, by omega, rfl⟩
      · exact ⟨Same.refl _, y, by omega, by omega, rfl⟩
      rintro σ1 H1 ⟨s1, x1, x1a, x1b, rfl⟩
      refine ⟨Mid, ⟨_, rfl, _, _, rfl, rfl, ⟨by decide, by decide⟩, _, _, rfl, rfl, (by show (0 : Int) < 5; decide), rfl, _, rfl, ite2 (fun _ => ?_) (fun _ => ?_)⟩, ?_⟩
      · exact ⟨_, rfl, _, _, rfl, rfl, s1, 0 - prod (ns.drop (ns.length - i)), by omega, by omega, rfl⟩
      · exact ⟨s1, x1, by omega, by omega, rfl⟩
      rintro σ2 H2 ⟨s2, x2, x2a, x2b, rfl⟩
      refine ⟨Mid, ⟨_, rfl, _, _, rfl, rfl, ⟨by decide, by decide⟩, _, _, rfl, rfl, (by show (0 : Int) < 5; decide), rfl, _, rfl, ite2 (fun _ => ?_) (fun c3 => ?_)⟩, ?_⟩
      · refine ⟨_, rfl, Nat.zero_le _, fun p hp => ?_⟩
        have s3 : Same H2 (upd H2 p (.lst [])) := Same.upd hp
        refine ⟨pdI ws, pdI [], dpI (SqL.of (s3 _ _ (s2 _ _ hq))), dpI (SqL.of upd_same), shaped_I _, shaped_I _, _, rfl, ite2 (fun c4 => ?_) (fun _ => ?_)⟩
        · rw [eqv_I] at c4
          have hne : ws ≠ [] := by
            intro e
            subst e
            simp at c4
          obtain ⟨u, hu, hu2, _⟩ := at_int (ns := ws) (i := 0) (by decide) (by
            have := List.length_pos_iff.mpr hne
            omega)
          have hub := hws u hu
          exact ⟨_, rfl, q, _, _, _, rfl, rfl, SqL.of (s3 _ _ (s2 _ _ hq)), hu2, s2.trans s3, u, by omega, by omega, rfl⟩
        · exact ⟨s2.trans s3, x2, x2a, x2b, rfl⟩
      · exact ⟨s2, x2, x2a, x2b, rfl⟩
      rintro σ3 H3 ⟨s3, x3, x3a, x3b, rfl⟩
      have sH3 := sH.trans s3
      refine ⟨_, rfl, _, rfl, _, rfl, a, _, _, _, rfl, rfl, sH3.seq (SqL.of ha), hat0, _, _, rfl, rfl, .inr ⟨by omega, by omega⟩, ?_⟩
      refine ⟨_, rfl, (by show 1 ≤ sizeLine; decide), fun p hp => ⟨_, rfl, p, q, _, _, rfl, rfl, upd_same, Same.upd hp _ _ (s3 _ _ hq), Nat.le_of_lt (small8 (by rw [List.length_map]; show 1 + ws.length ≤ 8; omega)), fun p3 hp3 => ?_⟩⟩
      have s4 := (sH3.trans (Same.upd hp)).trans (Same.upd (o := .lst ([V.int x3] ++ ws.map V.int)) hp3)
      refine ⟨_, rfl, _, _, rfl, rfl, ⟨by decide, by decide⟩, ⟨p3, c / 5, some (.int (0 + (i : Int))), some (.int (((ns.map V.int).length : Int) - 1 - (0 + (i : Int)))), some (.int x3), x3 :: ws, ?_, by omega, s4, upd_same, by rw [List.length_cons, hwl], fun w hw => ?_⟩⟩
      · rw [e2, hd]
        show _ = [some (V.ref a), some (V.ref b), some (V.int (c / 5)), some (V.ref p3), some (V.int (z * prod (ns.drop (ns.length - i)))), some (V.int (0 + (i : Int))), some (V.int (((ns.map V.int).length : Int) - 1 - (0 + (i : Int)))), some (V.int x3)]
        rw [Int.mul_comm z]
        rfl
      · rcases List.mem_cons.mp hw with rfl | hw
        · exact ⟨x3a, x3b⟩
        · exact hws w hw
    · rintro σ H' ⟨q, c, v5, v6, v7, ws, rfl, hle, sH, hq, hwl, hws⟩
      refine ⟨_, rfl, k _ q ws sH hq ?_ hws⟩
      rw [hwl, List.length_map]
      omega
theorem ok_flo (T : Txt K mg) : FnOk P w K mg base CX0 2 T.a_flo T.d_flo p_flo (sp_flo K) := by
  refine T.F_flo.ok sc_flo (fun vs H Q E h => ?_) (fun cdv A outer s H vs Q E hr h => ?_)
  · obtain ⟨a, ns, k, l, ax, rfl, _⟩ := h
    rfl
  · obtain ⟨a, ns, k, l, ax, rfl, hS, hk0, hk1, ⟨ts, h2, h3⟩, hsm, kk⟩ := h
    have gl := small_low hsm.2.2
    have gh := small_hig hsm.2.2
    have n1 := low_nonpos ax
    have n2 := hig_nonneg ax
    have hlen := hsm.1
    refine ⟨_, (pss_cons (ps_set (i := 3) sc_flo.nd rfl (Or.inl rfl) pe_int)
    (pss_cons (ps_set (i := 4) sc_flo.nd rfl (Or.inl rfl) pe_int)
    (pss_cons (ps_for PassesOwn.never rfl (pi_list (pv 2)) (pg_tup rfl (pgs_cons (pg_name (i := 5) sc_flo.nd rfl (Or.inl rfl)) (pgs_cons (pg_name (i := 6) sc_flo.nd rfl (Or.inl rfl)) pgs_nil)))
    (pss_cons (ps_set (i := 3) sc_flo.nd rfl (Or.inl rfl) (pe_op op_add (pv 3) (pe_callB (call_min2 rfl) (by rfl) T.z_min (by decide +kernel) (pa_cons pe_int (pa_cons (pe_op op_mul (pv 6) (pe_op op_sub (pv 5) pe_int)) pa_nil)))))
      (pss_one (ps_set (i := 4) sc_flo.nd rfl (Or.inl rfl) (pe_op op_add (pv 4) (pe_callB (call_max2 rfl) (by rfl) T.z_max (by decide +kernel) (pa_cons pe_int (pa_cons (pe_op op_mul (pv 6) (pe_op op_sub (pv 5) pe_int)) pa_nil))))))))
    (pss_cons (ps_set (i := 7) sc_flo.nd rfl (Or.inl rfl) (pe_op op_sub (pe_call (ok_dra T) hr rfl T.g_dra T.F_dra.kp T.b_dra .nil pass0 (pa_cons (pv 0) (pa_cons (pv 1) (pa_cons pe_int pa_nil)))) (pv 3)))
    (pss_one (ps_ret (pe_tup (pa_cons (pe_op op_add (pe_op op_add (pe_op op_add (pv 7) (pv 4)) pe_int) (pe_call (ok_dra T) hr rfl T.g_dra T.F_dra.kp T.b_dra .nil pass0 (pa_cons (pv 0) (pa_cons (pe_op op_add (pv 1) pe_int) (pa_cons pe_int pa_nil))))) (pa_cons (pv 7) (pa_cons (pv 2) pa_nil)))))))))), ?_⟩
    refine ⟨_, rfl, l, rfl, ⟨_, SqL.of h2⟩, for_list (K := K) (a := l) (xs := ts.map V.ref) (fun i σ H' => (∃ v5 v6, σ = [some (.ref a), some (.int k), some (.ref l), some (.int (low (ax.take i))), some (.int (hig (ax.take i))), v5, v6, none]) ∧ H' = H) ⟨⟨none, none, rfl⟩, rfl⟩ (fun i σ H' _ p => by rw [p.2]; exact SqL.of h2) ?_ ?_⟩
    · rintro i y σ H' hi ⟨⟨v5, v6, rfl⟩, rfl⟩
      obtain ⟨t, p, f1, f2, rfl, f3⟩ := item_ax h3 hi
      have hb := hsm.2.2 p (List.mem_of_getElem? f2)
      refine ⟨t, _, rfl, SqT.of f3, rfl, _, _, rfl, _, _, rfl, rfl, ?_⟩
      refine ⟨_, rfl, _, rfl, _, rfl, _, _, rfl, rfl, _, _, rfl, rfl, .inr ⟨by omega, by omega⟩, _, _, rfl, _, _, rfl, rfl, ?_⟩
      refine ⟨_, rfl, _, rfl, _, rfl, _, _, rfl, rfl, _, _, rfl, rfl, .inr ⟨by omega, by omega⟩, _, _, rfl, _, _, rfl, rfl, ⟨⟨some (.int p.1), some (.int p.2), ?_⟩, rfl⟩⟩
      rw [take_more f2, low_app, hig_app, low_one, hig_one]
      rfl
    · rintro σ H' ⟨⟨v5, v6, rfl⟩, rfl⟩
      rw [List.length_map, h3.1, List.take_length]
      refine ⟨_, rfl, _, rfl, a, ns, k, 4, rfl, hS, hk0, by omega, by decide, fun r1 r1a r1b => ?_⟩
      refine ⟨_, rfl, _, _, rfl, rfl, ?_⟩
      refine ⟨_, rfl, _, rfl, _, _, rfl, rfl, _, _, rfl, rfl, _, rfl, _, rfl, _, _, rfl, rfl, a, ns, k + 1, 6, rfl, hS, by omega, by omega, by decide, fun r2 r2a r2b => ?_⟩
      refine ⟨_, _, rfl, rfl, _, rfl, _, rfl, (by show 3 ≤ sizeLine; decide), fun p hp => ?_⟩
      refine kk _ p _ _ (Same.upd hp) ⟨l, upd_same, Axs.same ⟨ts, h2, h3⟩ (Same.upd hp)⟩ ⟨hsm.good, hsm.2.1, by omega, by omega, by omega, by omega⟩
end
end G26
namespace G26
open PySem PySem.Spec PyProof.Rows L2
section
variable {P : Program} {w : World} {K : PySem.W.Frag} {mg : Str → Option Value} {base : Heap}
theorem kit_tt {K : PySem.W.Frag} : PySem.W.kitOne K (.type "tuple") (.type "tuple") = some true := kit_ty (by decide +kernel)
theorem kit_ll {K : PySem.W.Frag} : PySem.W.kitOne K (.type "list") (.type "list") = some true := kit_ty (by decide +kernel)
theorem mapV {ns : List Int} {i : Nat} {z : Int} (h : ns[i]? = some z) : (ns.map V.int)[i]? = some (.int z) := by
  rw [List.getElem?_map, h]
  rfl
theorem ok_nee (T : Txt K mg) : FnOk P w K mg base CX0 2 T.a_nee T.d_nee p_nee (sp_nee K) := by
  refine T.F_nee.ok sc_nee (fun vs H Q E h => ?_) (fun cdv A outer s H vs Q E hr h => ?_)
  · obtain ⟨a, p, ns, ms, rfl, _⟩ := h
    rfl
  · obtain ⟨a, p, ns, ms, rfl, hS, hp, hg, hin, k⟩ := h
    refine ⟨_, (pss_cons (ps_if (PW.pt (pw_or (pt_not (pt_val (pe_callB call_isi (by rfl) T.z_isinstance (by decide +kernel) (pa_cons (pv 1) (pa_cons (pe_bltn (v := .ty "tuple") (by rfl) T.z_tuple (by decide +kernel) rfl) pa_nil))))) (pw_or1 (pt_cmpR op_ne (pe_callB call_len_seq (by rfl) T.z_len (by decide +kernel) (pa_cons (pv 1) pa_nil)) (pe_callB call_len_seq (by rfl) T.z_len (by decide +kernel) (pa_cons (pv 0) pa_nil)) (nomark _)))))
    (pss_one ps_never)
    pss_nil)
    (pss_one (ps_for PassesOwn.never rfl (ZM.pi_zipK false true (by rfl) T.z_zip (pa_cons (pv 0) (pa_cons (pv 1) pa_nil))) (pg_tup rfl (pgs_cons (pg_name (i := 2) sc_nee.nd rfl (Or.inl rfl)) (pgs_cons (pg_name (i := 3) sc_nee.nd rfl (Or.inl rfl)) pgs_nil)))
    (pss_one (ps_if (PW.pt (pw_or (pt_not (pt_val (pe_call (ok_isw T) hr rfl T.g_isw T.F_isw.kp T.b_isw .nil pass0 (pa_cons (pv 3) pa_nil)))) (pw_or (pt_cmpR op_lt (pv 3) pe_int (nomark _)) (pw_or1 (pt_cmpR op_ge (pv 3) (pv 2) (nomark _))))))
      (pss_one ps_never)
      pss_nil))))), ?_⟩
    have el : V.int (((ms.map V.int).length : Nat) : Int) = V.int (((ns.map V.int).length : Nat) : Int) := by rw [List.length_map, List.length_map, hin.1]
    refine ⟨_, rfl, _, _, _, _, _, rfl, .ty _, .base (.tup hp), kit_tt, _, rfl, _, rfl, p, _, rfl, .inr (SqT.of hp), _, rfl, a, _, rfl, .inl hS, rfl, _, rfl, iteNS el ?_⟩
    refine ⟨_, rfl, _, rfl, a, p, _, _, rfl, hS, SqT.of hp, for_it (ZM.walk_zipK (by rw [List.length_map, List.length_map, hin.1])) (fun i σ H' => (∃ v2 v3, σ = [some (.ref a), some (.ref p), v2, v3]) ∧ Same H H') ⟨⟨none, none, rfl⟩, Same.refl _⟩ (fun i σ H' _ q => ⟨q.2.seq hS, SqT.of (q.2 _ _ hp)⟩) ?_ ?_⟩
    · rintro i x σ H1 H' hi ⟨⟨v2, v3, rfl⟩, sH⟩ ⟨t, x1, x2, rfl, hT, rfl, hx, hy⟩
      obtain ⟨n, hn, rfl⟩ := item_of hx
      obtain ⟨m, hm, rfl⟩ := item_of hy
      have hb := hin.2 i m n hm hn
      refine ⟨t, _, rfl, SqT.of upd_same, rfl, _, _, rfl, _, _, rfl, rfl, ?_⟩
      refine ⟨_, rfl, _, _, rfl, .int m, _, rfl, _, rfl, _, _, rfl, rfl, _, rfl, iteD (by omega) ?_⟩
      exact ⟨_, rfl, _, rfl, _, _, rfl, rfl, _, rfl, iteD (by omega) ⟨⟨some (.int n), some (.int m), rfl⟩, sH.updR (sH.free hT)⟩⟩
    · rintro σ H' ⟨_, sH⟩
      exact k H' sH
theorem ok_num (T : Txt K mg) : FnOk P w K mg base CX0 3 T.a_num T.d_num p_num (sp_num K) := by
  refine T.F_num.ok sc_num (fun vs H Q E h => ?_) (fun cdv A outer s H vs Q E hr h => ?_)
  · obtain ⟨a, p, ns, ms, rfl, _⟩ := h
    rfl
  · obtain ⟨a, p, ns, ms, rfl, hS, hp, hg, hin, k⟩ := h
    refine ⟨_, (pss_cons (ps_expr (pe_call (ok_nee T) hr rfl T.g_nee T.F_nee.kp T.b_nee .nil pass0 (pa_cons (pv 0) (pa_cons (pv 1) pa_nil))))
    (pss_one (ps_ret (pe_callB (cr_sum rfl) (by rfl) T.z_sum (by decide +kernel) (pa_cons (pe_lc (own := [("at", 2), ("pace", 3)]) (g := gTup K 2 (gCons (gName 2) (gCons (gName 3) gNil))) (tt := tYes) rfl sc_num.nd (ZM.pi_zipK true false (by rfl) T.z_zip (pa_cons (pv 1) (pa_cons (pe_call (ok_pac T) (hr.mono (by decide)) rfl T.g_pac T.F_pac.kp T.b_pac .nil pass0 (pa_cons (pv 0) pa_nil)) pa_nil))) (blkOk_by (N := n_num) (sc := defScope s_num) (by decide +kernel)) (fun _ _ _ _ _ => (pg_tup rfl (pgs_cons (pg_name (i := 2) sc_num.nd rfl (Or.inl rfl)) (pgs_cons (pg_name (i := 3) sc_num.nd rfl (Or.inl rfl)) pgs_nil)))) (fun _ _ _ _ _ => pts_nil) (fun _ _ _ _ _ => (pe_op op_mul (pv 2) (pv 3)))) pa_nil))))), ?_⟩
    refine ⟨_, rfl, _, rfl, a, p, ns, ms, rfl, hS, hp, hg, hin, fun H1 s1 => ?_⟩
    refine ⟨_, rfl, _, rfl, a, ns, rfl, s1.seq hS, hg, fun H2 q s2 _ hq => ?_⟩
    have s12 := s1.trans s2
    have hp2 := s12 _ _ hp
    have hl : ms.length = (paces ns).length := by rw [paces_len, hin.1]
    refine ⟨p, q, _, _, rfl, SqT.of hp2, SqL.of hq, fun D hD => ?_⟩
    refine lc_it (ZM.walk_zipK (by rw [List.length_map, List.length_map, hl])) (fun i H' => Same H2 H' ∧ H' D = some (.lst (((dotL ms (paces ns)).take i).map V.int))) ⟨Same.upd hD, upd_same⟩ (fun i H' _ z => ⟨SqT.of (z.1 _ _ hp2), SqL.of (z.1 _ _ hq)⟩) ?_ ?_
    · rintro i x H3 H' hi ⟨sH, hd⟩ ⟨t, x1, x2, rfl, hT, rfl, hx, hy⟩
      obtain ⟨m, hm, rfl⟩ := item_of hx
      obtain ⟨c, hc, rfl⟩ := item_of hy
      have hi1 : i < ns.length := by
        have := (List.getElem?_eq_some_iff.mp hm).1
        have := hin.1
        omega
      have hn : ns[i]? = some ns[i] := List.getElem?_eq_getElem hi1
      have hb := hin.2 i m _ hm hn
      have hb2 := hg.1 _ (List.mem_of_getElem? hn)
      have nD : D ≠ t := ne_of_none hd hT
      refine ⟨t, _, rfl, SqT.of upd_same, rfl, _, _, rfl, _, _, rfl, rfl, rfl, ?_⟩
      refine ⟨_, rfl, _, rfl, _, _, rfl, rfl, .inl ⟨by omega, by omega⟩, _, (by rw [upd_ne nD]; exact hd), small8 ?_, (sH.updR (sH.free hT)).updR hD, ?_⟩
      · rw [List.length_map, List.length_take, dotL_len hl]
        have := hg.2
        have := hin.1
        omega
      · rw [upd_same, take_more (dotL_at hm hc), List.map_append]
        rfl
    · rintro H' ⟨sH, hd⟩
      have e : (dotL ms (paces ns)).take (ms.map V.int).length = dotL ms (paces ns) := by
        rw [List.length_map, ← dotL_len hl, List.take_length]
      rw [e] at hd
      refine ⟨D, _, rfl, SqL.of hd, ?_⟩
      rw [dotL_sum]
      exact k _ (s12.trans sH)
theorem ok_pla (T : Txt K mg) : FnOk P w K mg base CX0 2 T.a_pla T.d_pla p_pla (sp_pla K) := by
  refine T.F_pla.ok sc_pla (fun vs H Q E h => ?_) (fun cdv A outer s H vs Q E hr h => ?_)
  · obtain ⟨a, ns, n, rfl, _⟩ := h
    rfl
  · obtain ⟨a, ns, n, rfl, hS, hg, h0, h1, h2, k⟩ := h
    refine ⟨_, (pss_cons (ps_if (PW.pt (pw_or (pt_not (pt_val (pe_call (ok_isw T) hr rfl T.g_isw T.F_isw.kp T.b_isw .nil pass0 (pa_cons (pv 1) pa_nil)))) (pw_or (pt_cmpR op_lt (pv 1) pe_int (nomark _)) (pw_or1 (pt_cmpR op_ge (pv 1) (pe_call (ok_cnt T) hr rfl T.g_cnt T.F_cnt.kp T.b_cnt .nil pass0 (pa_cons (pv 0) pa_nil)) (nomark _))))))
    (pss_one ps_never)
    pss_nil)
    (pss_cons (ps_set (i := 2) sc_pla.nd rfl (Or.inl rfl) (pe_lst pa_nil))
    (pss_cons (ps_for PassesOwn.never rfl (pi_list (pe_call (ok_pac T) hr rfl T.g_pac T.F_pac.kp T.b_pac .nil pass0 (pa_cons (pv 0) pa_nil))) (pg_name (i := 3) sc_pla.nd rfl (Or.inl rfl))
    (pss_cons (ps_asg (pe_callB call_divmodW (by rfl) T.z_divmod (by decide +kernel) (pa_cons (pv 1) (pa_cons (pv 3) pa_nil))) (pg_tup rfl (pgs_cons (pg_name (i := 4) sc_pla.nd rfl (Or.inl rfl)) (pgs_cons (pg_name (i := 1) sc_pla.nd rfl (Or.inl rfl)) pgs_nil))))
      (pss_one (ps_expr (pe_bm PySem.F.plainAttrs_list PySem.F.slot_list_append PySem.F.type_list_append mt_append (pv 2) (pa_cons (pv 4) pa_nil))))))
    (pss_one (ps_ret (pe_callTy call_tuple_of (by rfl) T.z_tuple (by decide +kernel) (pa_cons (pv 2) pa_nil))))))), ?_⟩
    refine ⟨_, rfl, _, _, rfl, .int n, _, rfl, _, rfl, _, _, rfl, rfl, _, rfl, iteD (by omega) ?_⟩
    refine ⟨_, rfl, _, rfl, a, ns, rfl, hS, hg, _, _, rfl, rfl, _, rfl, iteD (by omega) ?_⟩
    refine ⟨Nat.zero_le _, fun D hD => ?_⟩
    have sD : Same H (upd H D (.lst [])) := Same.upd hD
    refine ⟨_, rfl, a, ns, rfl, sD.seq hS, hg, fun H1 q s1 hqn hq => ?_⟩
    have nqD : D ≠ q := ne_of_none upd_same hqn
    have pp : ∀ p ∈ paces ns, 1 ≤ p := fun p hp => (paces_pos hg.pos p hp).1
    refine ⟨q, rfl, ⟨_, SqL.of hq⟩, for_list (K := K) (a := q) (xs := (paces ns).map V.int) (fun i σ H' => (∃ v3 v4, σ = [some (.ref a), some (.int (rem ((paces ns).take i) n)), some (.ref D), v3, v4]) ∧ Same H H' ∧ H' q = some (.lst ((paces ns).map V.int)) ∧ H' D = some (.lst ((digits ((paces ns).take i) n).map V.int)))
      ⟨⟨none, none, rfl⟩, sD.trans s1, hq, s1 _ _ upd_same⟩ (fun i σ H' _ z => SqL.of z.2.2.1) ?_ ?_⟩
    · rintro i y σ H' hi ⟨⟨v3, v4, rfl⟩, sH, hq', hD'⟩
      obtain ⟨p, hp, rfl⟩ := item_of hi
      have hpb := paces_pos hg.pos p (List.mem_of_getElem? hp)
      have hrm := rem_ok (xs := (paces ns).take i) (n := n) (fun p hp => pp p (List.mem_of_mem_take hp)) h0
      have hbits := intBits_le_64 (k := rem ((paces ns).take i) n) (by omega) (by omega)
      refine ⟨_, rfl, _, rfl, _, _, rfl, divp_ok (by omega) (by omega), fun t ht => ?_⟩
      have nDt : D ≠ t := ne_of_none hD' ht
      have nqt : q ≠ t := ne_of_none hq' ht
      refine ⟨t, _, rfl, SqT.of upd_same, rfl, _, _, rfl, _, _, rfl, rfl, ?_⟩
      have hD2 : (upd H' t (.tup [V.int (rem ((paces ns).take i) n / p), V.int (rem ((paces ns).take i) n % p)])) D = some (.lst ((digits ((paces ns).take i) n).map V.int)) := by rw [upd_ne nDt]; exact hD'
      refine ⟨_, rfl, .inl ⟨rfl, _, SqL.of hD2⟩, _, rfl, D, _, _, rfl, rfl, hD2, small8 ?_, ⟨⟨some (.int p), some (.int (rem ((paces ns).take i) n / p)), ?_⟩, (sH.updR (sH.free ht)).updR hD, ?_, ?_⟩⟩
      · have := hg.2
        rw [List.length_map, dig_len, List.length_take, paces_len]
        omega
      · rw [take_more hp, rem_snoc]
        rfl
      · rw [upd_ne nqD.symm, upd_ne nqt]
        exact hq'
      · rw [upd_same, take_more hp, dig_snoc, List.map_append]
        rfl
    · rintro σ H' ⟨⟨v3, v4, rfl⟩, sH, hq', hD'⟩
      rw [List.length_map, List.take_length] at hD'
      exact ⟨_, rfl, D, _, rfl, .inl ⟨SqL.of hD', fun p hp => k _ p (sH.updR (sH.free hp)) upd_same⟩⟩
end
end G26
namespace G26
open PySem PySem.Spec PyProof.Rows L2
theorem Prs.keepMore {H : Hp} {ts : List Addr} {ax : List (Int × Int)} {t : Addr} {p : Int × Int} {i : Nat} (h : Prs H ts (keepA (ax.take i))) (e : ax[i]? = some p) (ht : H t = some (.tup [.int (keep1 p).1, .int (keep1 p).2])) : Prs H (ts ++ [t]) (keepA (ax.take (i + 1))) := by
  rw [take_more e]
  unfold keepA
  rw [List.map_append]
  exact Prs.snoc h ht
section
variable {P : Program} {w : World} {K : PySem.W.Frag} {mg : Str → Option Value} {base : Heap}
theorem ok_axi (T : Txt K mg) : FnOk P w K mg base CX0 2 T.a_axi T.d_axi p_axi sp_axi := by
  refine T.F_axi.ok sc_axi (fun vs H Q E h => ?_) (fun cdv A outer s H vs Q E hr h => ?_)
  · obtain ⟨t, p, rfl, _⟩ := h
    rfl
  · obtain ⟨t, p, rfl, ht, h0, h1, k⟩ := h
    refine ⟨_, (pss_cons (ps_if (PW.pt (pw_or (pt_not (pt_val (pe_callB call_isi (by rfl) T.z_isinstance (by decide +kernel) (pa_cons (pv 0) (pa_cons (pe_bltn (v := .ty "tuple") (by rfl) T.z_tuple (by decide +kernel) rfl) pa_nil))))) (pw_or1 (pt_cmpR op_ne (pe_callB call_len_seq (by rfl) T.z_len (by decide +kernel) (pa_cons (pv 0) pa_nil)) pe_int (nomark _)))))
    (pss_one (ps_ret pe_bl))
    pss_nil)
    (pss_one (ps_ret (pe_and (pe_call (ok_isw T) hr rfl T.g_isw T.F_isw.kp T.b_isw .nil pass0 (pa_cons (pe_ix ix_tup (pv 0) pe_int (fun _ _ => rfl)) pa_nil)) (pe_and (pe_chain op_le op_le pe_int (pe_ix ix_tup (pv 0) pe_int (fun _ _ => rfl)) (pe_glob (v := .int 1000000000) rfl T.g_MOST_SIZE.choose_spec ⟨_, rfl⟩)) (pe_one (pe_call (ok_isw T) hr rfl T.g_isw T.F_isw.kp T.b_isw .nil pass0 (pa_cons (pe_ix ix_tup (pv 0) pe_int (fun _ _ => rfl)) pa_nil)))))))), ?_⟩
    refine ⟨_, rfl, _, _, _, _, _, rfl, .ty _, .base (.tup ht), kit_tt, _, rfl, _, rfl, t, _, rfl, .inr (SqT.of ht), rfl, _, rfl, iteNS rfl ?_⟩
    refine ⟨_, rfl, t, _, _, _, rfl, rfl, SqT.of ht, rfl, _, _, rfl, .int p.1, _, rfl, ?_⟩
    refine iteT ?_
    refine ⟨_, rfl, t, _, _, _, rfl, rfl, SqT.of ht, rfl, _, _, rfl, rfl, _, rfl, iteE h0 ?_⟩
    refine ⟨_, _, rfl, rfl, _, rfl, iteE h1 ?_⟩
    exact ⟨_, rfl, t, _, _, _, rfl, rfl, SqT.of ht, rfl, _, _, rfl, .int p.2, k⟩
theorem ok_kep (T : Txt K mg) : FnOk P w K mg base CX0 3 T.a_kep T.d_kep p_kep sp_kep := by
  refine T.F_kep.ok sc_kep (fun vs H Q E h => ?_) (fun cdv A outer s H vs Q E hr h => ?_)
  · obtain ⟨l, ax, rfl, _⟩ := h
    rfl
  · obtain ⟨l, ax, rfl, ⟨ts, h1, h2⟩, hg, k⟩ := h
    have hlen : ax.length ≤ 8 := by
      have := hg.2
      rwa [List.length_map] at this
    refine ⟨_, (pss_cons (ps_if (PW.pt (pw_or (pt_not (pt_val (pe_callB call_isi (by rfl) T.z_isinstance (by decide +kernel) (pa_cons (pv 0) (pa_cons (pe_bltn (v := .ty "list") (by rfl) T.z_list (by decide +kernel) rfl) pa_nil))))) (pw_or1 (pt_cmpR op_gt (pe_callB call_len_seq (by rfl) T.z_len (by decide +kernel) (pa_cons (pv 0) pa_nil)) (pe_glob (v := .int 8) rfl T.g_MOST_AXES.choose_spec ⟨_, rfl⟩) (nomark _)))))
    (pss_one ps_never)
    pss_nil)
    (pss_cons (ps_set (i := 1) sc_kep.nd rfl (Or.inl rfl) (pe_lst pa_nil))
    (pss_cons (ps_for PassesOwn.never rfl (pi_list (pv 0)) (pg_name (i := 2) sc_kep.nd rfl (Or.inl rfl))
    (pss_cons (ps_if (pt_not (pt_val (pe_call (ok_axi T) hr rfl T.g_axi T.F_axi.kp T.b_axi .nil pass0 (pa_cons (pv 2) pa_nil))))
      (pss_one ps_never)
      pss_nil)
      (pss_one (ps_if (pt_cmpR op_eq (pe_ix ix_tup (pv 2) pe_int (fun _ _ => rfl)) pe_int (nomark _))
      (pss_one (ps_expr (pe_bm PySem.F.plainAttrs_list PySem.F.slot_list_append PySem.F.type_list_append mt_append (pv 1) (pa_cons (pe_tup (pa_cons pe_int (pa_cons pe_int pa_nil))) pa_nil))))
      (pss_one (ps_expr (pe_bm PySem.F.plainAttrs_list PySem.F.slot_list_append PySem.F.type_list_append mt_append (pv 1) (pa_cons (pv 2) pa_nil))))))))
    (pss_one (ps_ret (pv 1)))))), ?_⟩
    refine ⟨_, rfl, _, _, _, _, _, rfl, .ty _, .base (.lst h1), kit_ll, _, rfl, _, rfl, l, _, rfl, .inl (SqL.of h1), _, _, rfl, rfl, _, rfl, iteD (by rw [List.length_map, h2.1]; omega) ?_⟩
    refine ⟨Nat.zero_le _, fun D hD => ?_⟩
    have sD : Same H (upd H D (.lst [])) := Same.upd hD
    refine ⟨_, rfl, l, rfl, ⟨_, SqL.of (sD _ _ h1)⟩, for_list (K := K) (a := l) (xs := ts.map V.ref) (fun i σ H' => (∃ v2, σ = [some (.ref l), some (.ref D), v2]) ∧ Same H H' ∧ ∃ us : List Addr, H' D = some (.lst (us.map V.ref)) ∧ Prs H' us (keepA (ax.take i)))
      ⟨⟨none, rfl⟩, sD, [], upd_same, rfl, fun j t p e _ => by simp at e⟩ (fun i σ H' _ z => SqL.of (z.2.1 _ _ h1)) ?_ ?_⟩
    · rintro i y σ H' hi ⟨⟨v2, rfl⟩, sH, us, hu, hP⟩
      obtain ⟨t, p, f1, f2, rfl, f3⟩ := item_ax h2 hi
      have f4 := sH _ _ f3
      have hb := GoodA.at_ hg f2
      have hul : us.length < 8 := by
        have e1 : us.length = (ax.take i).length := by rw [hP.1]; unfold keepA; rw [List.length_map]
        have := (List.getElem?_eq_some_iff.mp f2).1
        rw [List.length_take] at e1
        omega
      refine ⟨_, rfl, t, p, rfl, f4, hb.1, hb.2, _, rfl, ?_⟩
      refine ⟨_, rfl, t, _, _, _, rfl, rfl, SqT.of f4, rfl, rfl, _, rfl, ite2 (fun c => ?_) (fun c => ?_)⟩
      · have c1 : p.1 = 1 := V.int.inj (of_decide_eq_true c)
        refine ⟨_, rfl, .inl ⟨rfl, _, SqL.of hu⟩, (by show 2 ≤ sizeLine; decide), fun t2 ht2 => ?_⟩
        have nD : D ≠ t2 := ne_of_none hu ht2
        have s2 : Same H' (upd H' t2 (.tup [V.int 1, V.int 0])) := Same.upd ht2
        refine ⟨D, _, _, rfl, rfl, s2 _ _ hu, small8 (by rw [List.length_map]; omega), ⟨⟨some (.ref t), rfl⟩, (sH.trans s2).updR hD, us ++ [t2], ?_, ?_⟩⟩
        · rw [upd_same, List.map_append]
          rfl
        · refine Prs.keepMore (hP.same' ?_) f2 ?_
          · intro b xs e
            have nb : b ≠ D := fun z => by rw [z, hu] at e; cases e
            rw [upd_ne nb]
            exact s2 _ _ e
          · rw [upd_ne nD.symm, upd_same]
            unfold keep1
            rw [if_pos c1]
      · have c1 : ¬ p.1 = 1 := fun z => c (decide_eq_true (congrArg V.int z))
        refine ⟨_, rfl, .inl ⟨rfl, _, SqL.of hu⟩, _, rfl, D, _, _, rfl, rfl, hu, small8 (by rw [List.length_map]; omega), ⟨⟨some (.ref t), rfl⟩, sH.updR hD, us ++ [t], ?_, ?_⟩⟩
        · rw [upd_same, List.map_append]
          rfl
        · refine Prs.keepMore (hP.same' ?_) f2 ?_
          · intro b xs e
            have nb : b ≠ D := fun z => by rw [z, hu] at e; cases e
            rw [upd_ne nb]
            exact e
          · have nt : t ≠ D := fun z => by rw [z, hu] at f4; cases f4
            rw [upd_ne nt]
            unfold keep1
            rw [if_neg c1]
            exact f4
    · rintro σ H' ⟨⟨v2, rfl⟩, sH, us, hu, hP⟩
      rw [List.length_map, h2.1, List.take_length] at hP
      exact ⟨_, rfl, k _ D sH ⟨us, hu, hP⟩⟩
theorem ok_vco (T : Txt K mg) : FnOk P w K mg base CX0 2 T.a_vco T.d_vco p_vco (sp_vco T.C) := by
  refine T.F_vco.ok sc_vco (fun vs H Q E h => ?_) (fun cdv A outer s H vs Q E hr h => ?_)
  · obtain ⟨v, r, f, ax, rfl, _⟩ := h
    rfl
  · obtain ⟨v, r, f, ax, rfl, hv, hg, k⟩ := h
    obtain ⟨dx, l, h1, h2⟩ := id hv
    refine ⟨_, (pss_one (ps_ret (pe_call (ok_cnt T) hr rfl T.g_cnt T.F_cnt.kp T.b_cnt .nil pass0 (pa_cons (pe_meth0 (pv 0) T.cl T.m_siz (ok_siz T) hr T.b_siz .nil pass0) pa_nil)))), ?_⟩
    exact ⟨_, rfl, v, dx, _, rfl, h1, vF_no _ _ _ (by decide +kernel) (by decide +kernel) (by decide +kernel), v, r, f, ax, rfl, hv, hg, fun H1 q s1 hq => ⟨q, _, rfl, SqL.of hq, hg, k _ s1⟩⟩
theorem ok_cel (T : Txt K mg) : FnOk P w K mg base CX0 4 T.a_cel T.d_cel p_cel (sp_cel T.C) := by
  refine T.F_cel.ok sc_cel (fun vs H Q E h => ?_) (fun cdv A outer s H vs Q E hr h => ?_)
  · obtain ⟨v, p, r, f, ax, ms, rfl, _⟩ := h
    rfl
  · obtain ⟨v, p, r, f, ax, ms, rfl, hv, hg, hp, hin, k⟩ := h
    obtain ⟨dx, l, h1, h2⟩ := id hv
    refine ⟨_, (pss_cons (ps_expr (pe_call (ok_num T) hr rfl T.g_num T.F_num.kp T.b_num .nil pass0 (pa_cons (pe_meth0 (pv 0) T.cl T.m_siz (ok_siz T) (hr.mono (by decide)) T.b_siz .nil pass0) (pa_cons (pv 1) pa_nil))))
    (pss_one (ps_ret (pe_op op_add (pe_fld (pv 0) rfl) (pe_callB (cr_sum rfl) (by rfl) T.z_sum (by decide +kernel) (pa_cons (pe_lc (own := [("at", 2), ("pace", 3)]) (g := gTup K 2 (gCons (gName 2) (gCons (gName 3) gNil))) (tt := tYes) rfl sc_cel.nd (ZM.pi_zipK true false (by rfl) T.z_zip (pa_cons (pv 1) (pa_cons (pe_meth0 (pv 0) T.cl T.m_vpa (ok_vpa T) (hr.mono (by decide)) T.b_vpa .nil pass0) pa_nil))) (blkOk_by (N := n_cel) (sc := defScope s_cel) (by decide +kernel)) (fun _ _ _ _ _ => (pg_tup rfl (pgs_cons (pg_name (i := 2) sc_cel.nd rfl (Or.inl rfl)) (pgs_cons (pg_name (i := 3) sc_cel.nd rfl (Or.inl rfl)) pgs_nil)))) (fun _ _ _ _ _ => pts_nil) (fun _ _ _ _ _ => (pe_op op_mul (pv 2) (pv 3)))) pa_nil)))))), ?_⟩
    refine ⟨_, rfl, v, dx, _, rfl, h1, vF_no _ _ _ (by decide +kernel) (by decide +kernel) (by decide +kernel), v, r, f, ax, rfl, hv, hg, fun H1 q s1 hq => ?_⟩
    refine ⟨_, rfl, q, p, _, ms, rfl, SqL.of hq, s1 _ _ hp, hg, hin, fun H2 s2 => ?_⟩
    have s12 := s1.trans s2
    refine ⟨_, rfl, v, T.C, dx, _, _, rfl, s12 _ _ h1, T.cl, T.f_first, vF_first _ _ _, ?_⟩
    refine ⟨_, rfl, _, rfl, v, dx, _, rfl, s12 _ _ h1, vF_no _ _ _ (by decide +kernel) (by decide +kernel) (by decide +kernel), v, r, f, ax, rfl, hv.same s12, hg, fun H3 q3 s3 hq3 => ?_⟩
    have s13 := s12.trans s3
    have hp3 := s13 _ _ hp
    have hl : ms.length = (ax.map (·.2)).length := by
      have := hin.1
      rw [List.length_map] at this
      rw [List.length_map, this]
    refine ⟨p, q3, _, _, rfl, SqT.of hp3, SqL.of hq3, fun D hD => ?_⟩
    refine lc_it (ZM.walk_zipK (by rw [List.length_map (f := V.int), List.length_map (f := V.int), hl])) (fun i H' => Same H3 H' ∧ H' D = some (.lst (((dotL ms (ax.map (·.2))).take i).map V.int))) ⟨Same.upd hD, upd_same⟩ (fun i H' _ z => ⟨SqT.of (z.1 _ _ hp3), SqL.of (z.1 _ _ hq3)⟩) ?_ ?_
    · rintro i x H4 H' hi ⟨sH, hd⟩ ⟨t, x1, x2, rfl, hT, rfl, hx, hy⟩
      obtain ⟨m, hm, rfl⟩ := item_of hx
      obtain ⟨c, hc, rfl⟩ := item_of hy
      have hi1 : i < (ax.map (·.1)).length := by
        have := (List.getElem?_eq_some_iff.mp hm).1
        have := hin.1
        omega
      have hn : (ax.map (·.1))[i]? = some (ax.map (·.1))[i] := List.getElem?_eq_getElem hi1
      have hb := hin.2 i m _ hm hn
      have hb2 := hg.1 _ (List.mem_of_getElem? hn)
      have nD : D ≠ t := ne_of_none hd hT
      refine ⟨t, _, rfl, SqT.of upd_same, rfl, _, _, rfl, _, _, rfl, rfl, rfl, ?_⟩
      refine ⟨_, rfl, _, rfl, _, _, rfl, rfl, .inl ⟨by omega, by omega⟩, _, (by rw [upd_ne nD]; exact hd), small8 ?_, (sH.updR (sH.free hT)).updR hD, ?_⟩
      · rw [List.length_map, List.length_take, dotL_len hl]
        have := hg.2
        have := hin.1
        omega
      · rw [upd_same, take_more (dotL_at hm hc), List.map_append]
        rfl
    · rintro H' ⟨sH, hd⟩
      have e : (dotL ms (ax.map (·.2))).take (ms.map V.int).length = dotL ms (ax.map (·.2)) := by
        rw [List.length_map, ← dotL_len hl, List.take_length]
      rw [e] at hd
      refine ⟨D, _, rfl, SqL.of hd, _, _, rfl, rfl, ?_⟩
      rw [dotL_sum]
      exact k _ (s13.trans sH)
theorem ok_cat (T : Txt K mg) : FnOk P w K mg base CX0 5 T.a_cat T.d_cat p_cat (sp_cat T.C) := by
  refine T.F_cat.ok sc_cat (fun vs H Q E h => ?_) (fun cdv A outer s H vs Q E hr h => ?_)
  · obtain ⟨v, n, r, f, ax, rfl, _⟩ := h
    rfl
  · obtain ⟨v, n, r, f, ax, rfl, hv, hg, h0, h1', h2', k⟩ := h
    obtain ⟨dx, l, h1, h2⟩ := id hv
    refine ⟨_, (pss_one (ps_ret (pe_meth (pv 0) T.cl T.m_cel (ok_cel T) hr T.b_cel .nil pass0 (pa_cons (pe_call (ok_pla T) (hr.mono (by decide)) rfl T.g_pla T.F_pla.kp T.b_pla .nil pass0 (pa_cons (pe_meth0 (pv 0) T.cl T.m_siz (ok_siz T) (hr.mono (by decide)) T.b_siz .nil pass0) (pa_cons (pv 1) pa_nil))) pa_nil)))), ?_⟩
    have no : ∀ {m : Str}, (m == ("room" : Str)) = false → (m == ("first" : Str)) = false → (m == ("axes" : Str)) = false → (vF r f l).lookup m = none := vF_no r f l
    refine ⟨_, rfl, v, dx, _, rfl, h1, no (by decide +kernel) (by decide +kernel) (by decide +kernel), ?_⟩
    refine ⟨_, rfl, v, dx, _, rfl, h1, no (by decide +kernel) (by decide +kernel) (by decide +kernel), v, r, f, ax, rfl, hv, hg, fun H1 q s1 hq => ?_⟩
    refine ⟨_, rfl, q, _, n, rfl, SqL.of hq, hg, h0, h1', h2', fun H2 p s2 hp => ?_⟩
    have s12 := s1.trans s2
    exact ⟨v, p, r, f, ax, _, rfl, hv.same s12, hg, hp, ⟨by rw [dig_len, paces_len], fun j d m e1 e2 => dig_ok hg.pos h0 h1' j d m e1 e2⟩, fun H3 s3 => k _ (s12.trans s3)⟩
end
end G26
namespace G26
open PySem PySem.Spec PyProof.Rows L2
section
variable {P : Program} {w : World} {K : PySem.W.Frag} {mg : Str → Option Value} {base : Heap}
theorem ok_ces (T : Txt K mg) : FnOk P w K mg base CX0 3 T.a_ces T.d_ces p_ces (sp_ces T.C) := by
  refine T.F_ces.ok sc_ces (fun vs H Q E h => ?_) (fun cdv A outer s H vs Q E hr h => ?_)
  · obtain ⟨v, r, f, ax, rfl, _⟩ := h
    rfl
  · obtain ⟨v, r, f, ax, rfl, hv, hg, hle, k⟩ := h
    obtain ⟨dx, l, h1, ts, h2, h3⟩ := id hv
    have no : ∀ {m : Str}, (m == ("room" : Str)) = false → (m == ("first" : Str)) = false → (m == ("axes" : Str)) = false → (vF r f l).lookup m = none := vF_no r f l
    refine ⟨_, (pss_cons (ps_if (pt_cmpR op_gt (pe_meth0 (pv 0) T.cl T.m_vco (ok_vco T) hr T.b_vco .nil pass0) (pe_glob (v := .int 4096) rfl T.g_MOST.choose_spec ⟨_, rfl⟩) (nomark _))
    (pss_one ps_never)
    pss_nil)
    (pss_cons (ps_set (i := 1) sc_ces.nd rfl (Or.inl rfl) (pe_lst (pa_cons (pe_fld (pv 0) rfl) pa_nil)))
    (pss_cons (ps_for PassesOwn.never rfl (pi_list (pe_fld (pv 0) rfl)) (pg_tup rfl (pgs_cons (pg_name (i := 2) sc_ces.nd rfl (Or.inl rfl)) (pgs_cons (pg_name (i := 3) sc_ces.nd rfl (Or.inr rfl)) pgs_nil)))
    (pss_cons (ps_set (i := 4) sc_ces.nd rfl (Or.inl rfl) (pe_lst pa_nil))
      (pss_cons (ps_for PassesOwn.never rfl (pi_list (pv 1)) (pg_name (i := 5) sc_ces.nd rfl (Or.inr rfl))
      (pss_one (ps_expr (pe_bm PySem.F.plainAttrs_list PySem.F.slot_list_extend PySem.F.type_list_extend mt_extend (pv 4) (pa_cons (pe_lc (own := [("at", 6)]) (g := gName 6) (tt := tYes) rfl sc_ces.nd (pi_range1 rfl T.z_range (pa_cons (pv 2) pa_nil)) (blkOk_by (N := n_ces) (sc := defScope s_ces) (by decide +kernel)) (fun _ _ _ _ _ => (pg_name (i := 6) sc_ces.nd rfl (Or.inl rfl))) (fun _ _ _ _ _ => pts_nil) (fun _ _ _ _ _ => (pe_op op_add (pv 5) (pe_op op_mul (pv 3) (pv 6))))) pa_nil)))))
      (pss_one (ps_set (i := 1) sc_ces.nd rfl (Or.inl rfl) (pv 4))))))
    (pss_one (ps_ret (pv 1)))))), ?_⟩
    refine ⟨_, rfl, v, dx, _, rfl, h1, no (by decide +kernel) (by decide +kernel) (by decide +kernel), v, r, f, ax, rfl, hv, hg, fun H1 s1 => ⟨_, _, rfl, rfl, _, rfl, iteD (by omega) ?_⟩⟩
    refine ⟨_, rfl, v, T.C, dx, _, _, rfl, s1 _ _ h1, T.cl, T.f_first, vF_first _ _ _, (by show 1 ≤ sizeLine; decide), fun q0 hq0 => ?_⟩
    have s2 : Same H (upd H1 q0 (.lst [V.int f])) := s1.updR (s1.free hq0)
    refine ⟨_, rfl, v, T.C, dx, _, _, rfl, s2 _ _ h1, T.cl, T.f_axes, vF_axes _ _ _, l, rfl, ⟨_, SqL.of (s2 _ _ h2)⟩, for_list (K := K) (a := l) (xs := ts.map V.ref) (fun i σ H' => (∃ q v2 v3 v4 v5, σ = [some (.ref v), some (.ref q), v2, v3, v4, v5, none] ∧ H' q = some (.lst ((cellsA (ax.take i) [f]).map V.int))) ∧ Same H H')
      ⟨⟨q0, none, none, none, none, rfl, upd_same⟩, s2⟩ (fun i σ H' _ z => SqL.of (z.2 _ _ h2)) ?_ ?_⟩
    · rintro i y σ H' hi ⟨⟨q, v2, v3, v4, v5, rfl, hq⟩, sH⟩
      obtain ⟨t, p, f1, f2, rfl, f3⟩ := item_ax h3 hi
      have hb := GoodA.at_ hg f2
      -- how long the lists are
      have posT : Pos ((ax.take i).map (·.1)) := fun n hn => by
        obtain ⟨p', hp', rfl⟩ := List.mem_map.mp hn
        exact (hg.1 _ (List.mem_map_of_mem (List.mem_of_mem_take hp'))).1
      have hL := cells_len (ax := ax.take i) [f] posT
      have hcut := (prod_cut (ns := ax.map (·.1)) hg.pos (i + 1)).2.1
      have e1 : (ax.map (·.1)).take (i + 1) = (ax.take i).map (·.1) ++ [p.1] := by
        rw [← List.map_take, take_more f2, List.map_append]
        rfl
      rw [e1, prod_snoc] at hcut
      have hLN : (cellsA (ax.take i) [f]).length * p.1.toNat ≤ 4096 := by
        have e2 : (((cellsA (ax.take i) [f]).length * p.1.toNat : Nat) : Int) = prod ((ax.take i).map (·.1)) * p.1 := by
          rw [Int.natCast_mul, Int.toNat_of_nonneg (by omega), hL]
          simp
        omega
      generalize hLg : cellsA (ax.take i) [f] = L at hq hL hLN
      refine ⟨t, _, rfl, SqT.of (sH _ _ f3), rfl, _, _, rfl, _, _, rfl, rfl, ?_⟩
      refine ⟨Nat.zero_le _, fun D hD => ?_⟩
      have sD : Same H' (upd H' D (.lst [])) := Same.upd hD
      refine ⟨_, rfl, q, rfl, ⟨_, SqL.of (sD _ _ hq)⟩, for_list (K := K) (a := q) (xs := L.map V.int) (fun j σ' H'' => (∃ w5, σ' = [some (.ref v), some (.ref q), some (.int p.1), some (.int p.2), some (.ref D), w5, none]) ∧ Same H' H'' ∧ H'' D = some (.lst ((stepC p (L.take j)).map V.int)))
        ⟨⟨v5, rfl⟩, sD, upd_same⟩ (fun j σ' H'' _ z => SqL.of (z.2.1 _ _ hq)) ?_ ?_⟩
      · rintro j y' σ' H'' hj ⟨⟨w5, rfl⟩, sI, hDl⟩
        obtain ⟨c, hc, rfl⟩ := item_of hj
        have jl : j < L.length := (List.getElem?_eq_some_iff.mp hc).1
        have hp4 : p.1.toNat ≤ 4096 := by
          have := Nat.mul_le_mul_right p.1.toNat (show 1 ≤ L.length by omega)
          omega
        refine ⟨_, rfl, .inl ⟨rfl, _, SqL.of hDl⟩, ?_⟩
        refine ⟨_, rfl, p.1, rfl, by omega, by omega, fun D2 hD2 => ?_⟩
        refine lc_range (lo := 0) (n := p.1.toNat) (fun i2 H3 => Same H'' H3 ∧ H3 D2 = some (.lst (((List.range i2).map fun (k : Nat) => c + p.2 * (k : Int)).map V.int))) ⟨Same.upd hD2, upd_same⟩ ?_ ?_
        · rintro i2 H3 hi2 ⟨s3, hl3⟩
          refine ⟨rfl, _, rfl, _, rfl, _, rfl, _, _, rfl, rfl, .inr ⟨by omega, by omega⟩, _, _, rfl, rfl, _, hl3, ?_, s3.updR hD2, ?_⟩
          · rw [List.length_map, List.length_map, List.length_range, sizeLine_eq]
            omega
          · rw [upd_same, List.range_succ, List.map_append, List.map_append, Int.zero_add]
            rfl
        · rintro H3 ⟨s3, hl3⟩
          have hD3 := s3 _ _ hDl
          refine ⟨D, D2, _, _, rfl, rfl, hD3, hl3, ?_, ⟨⟨_, rfl⟩, (sI.trans s3).updR hD, ?_⟩⟩
          · rw [List.length_map, List.length_map, List.length_map, List.length_range, stepC_len, List.length_take, sizeLine_eq]
            have e3 : min j L.length = j := by omega
            have e4 := Nat.mul_le_mul_right p.1.toNat (show j + 1 ≤ L.length by omega)
            rw [Nat.succ_mul] at e4
            rw [e3]
            omega
          · rw [upd_same, ← List.map_append, take_more hc]
            unfold stepC
            rw [List.flatMap_append, List.flatMap_cons, List.flatMap_nil, List.append_nil]
      · rintro σ' H'' ⟨⟨w5, rfl⟩, sI, hDl⟩
        rw [List.length_map, List.take_length] at hDl
        refine ⟨_, rfl, ⟨⟨D, _, _, _, _, rfl, ?_⟩, sH.trans sI⟩⟩
        rw [take_more f2, cells_snoc, hLg]
        exact hDl
    · rintro σ H' ⟨⟨q, v2, v3, v4, v5, rfl, hq⟩, sH⟩
      rw [List.length_map, h3.1, List.take_length] at hq
      exact ⟨_, rfl, k _ q sH hq⟩
end
end G26
namespace G26
open PySem PySem.Spec PyProof.Rows L2
theorem iteNT {c A B : Prop} [Decidable c] (hc : ¬ c) (h : A) : if (!decide c) = true then A else B := by
  rw [decide_eq_false hc, Bool.not_false, if_pos rfl]
  exact h
theorem Axs.same' {H H' : Hp} {l : Addr} {ax : List (Int × Int)} (h : Axs H l ax) (s : ∀ b xs, H b = some (.lst xs) → H' b = some (.lst xs)) (s2 : ∀ b xs, H b = some (.tup xs) → H' b = some (.tup xs)) : Axs H' l ax := by
  obtain ⟨ts, h1, h2⟩ := h
  exact ⟨ts, s _ _ h1, h2.same' s2⟩
theorem vF_put (r f : Int) (q : Addr) : putF "axes" (V.ref q) (putF "first" (V.int f) (putF "room" (V.int r) [])) = vF r f q := by
  show putF "axes" (V.ref q) (putF "first" (V.int f) [(("room" : Str), V.int r)]) = _
  have n1 : ¬ (("room" : Str) = "first") := by decide +kernel
  have n2 : ¬ (("room" : Str) = "axes") := by decide +kernel
  have n3 : ¬ (("first" : Str) = "axes") := by decide +kernel
  show putF "axes" (V.ref q) (if ("room" : Str) = "first" then _ else (("room" : Str), V.int r) :: putF "first" (V.int f) []) = _
  rw [if_neg n1]
  show (if ("room" : Str) = "axes" then _ else (("room" : Str), V.int r) :: putF "axes" (V.ref q) [(("first" : Str), V.int f)]) = _
  rw [if_neg n2]
  show (("room" : Str), V.int r) :: (if ("first" : Str) = "axes" then _ else (("first" : Str), V.int f) :: putF "axes" (V.ref q) []) = _
  rw [if_neg n3]
  rfl
section
variable {P : Program} {w : World} {K : PySem.W.Frag} {mg : Str → Option Value} {base : Heap}
theorem ok_ini (T : Txt K mg) : FnOk P w K mg base (L2.CX P w) 4 T.a_ini T.d_ini p_ini (sp_ini T.C T.N) := by
  refine T.F_ini.okX sc_ini (fun vs H Q E h => ?_) (fun cdv A outer s H vs Q E hr h => ?_)
  · obtain ⟨p, dx, x, b, f, l, ax, rfl, _⟩ := h
    rfl
  · obtain ⟨p, dx, x, b, f, l, ax, rfl, hp, hK, hA, hg, kY, kN⟩ := h
    refine ⟨_, (pss_cons (ps_if (PW.pt (pw_or (pt_not (pt_val (pe_call (ok_isw T) (hr.mono (by decide)) rfl T.g_isw T.F_isw.kp T.b_isw .nil pass0 (pa_cons (pv 1) pa_nil)))) (pw_or1 (pt_not (pt_chain op_le op_le pe_int (pv 1) (pe_glob (v := .int 1000000000000000000) rfl T.g_MOST_ROOM.choose_spec ⟨_, rfl⟩))))))
    (pss_one (ps_raise rfl (takes_of rfl rfl rfl rfl) (pmk_own PySem.F.excBase_ValueError T.xN T.gN T.kN (raises_own T.bN T.tN) rfl)))
    pss_nil)
    (pss_cons (ps_if (pt_not (pt_val (pe_call (ok_isw T) (hr.mono (by decide)) rfl T.g_isw T.F_isw.kp T.b_isw .nil pass0 (pa_cons (pv 2) pa_nil))))
    (pss_one (ps_raise rfl (takes_of rfl rfl rfl rfl) (pmk_own PySem.F.excBase_ValueError T.xN T.gN T.kN (raises_own T.bN T.tN) rfl)))
    pss_nil)
    (pss_cons (ps_fld (pv 0) (pv 1) rfl)
    (pss_cons (ps_fld (pv 0) (pv 2) rfl)
    (pss_cons (ps_fld (pv 0) (pe_call (ok_kep T) hr rfl T.g_kep T.F_kep.kp T.b_kep .nil pass0 (pa_cons (pv 3) pa_nil)) rfl)
    (pss_one (ps_if (PW.pt (pw_or (pt_cmpR op_lt (pe_meth0 (pv 0) T.cl T.m_lea (ok_lea T) (hr.mono (by decide)) T.b_lea .nil pass0) pe_int (nomark _)) (pw_or1 (pt_cmpR op_ge (pe_meth0 (pv 0) T.cl T.m_gre (ok_gre T) (hr.mono (by decide)) T.b_gre .nil pass0) (pv 1) (nomark _)))))
    (pss_one (ps_raise rfl (takes_of rfl rfl rfl rfl) (pmk_own PySem.F.excBase_ValueError T.xN T.gN T.kN (raises_own T.bN T.tN) rfl)))
    pss_nil))))))), ?_⟩
    cases b with
    | false =>
      refine ⟨_, rfl, x, false, rfl, hK, _, rfl, ?_⟩
      refine kN ?_ H fun b o e _ => e
      rintro ⟨r, rfl, _⟩
      cases hK
    | true =>
      obtain ⟨r, rfl⟩ := hK.int_of
      refine ⟨_, rfl, _, true, rfl, .int r, _, rfl, ?_⟩
      by_cases c1 : 1 ≤ r
      · by_cases c2 : r ≤ 1000000000000000000
        · refine ⟨_, rfl, _, _, rfl, rfl, _, rfl, iteE c1 ⟨_, _, rfl, rfl, _, rfl, iteNS c2 ?_⟩⟩
          refine ⟨_, rfl, _, true, rfl, .int f, _, rfl, ?_⟩
          refine ⟨_, rfl, _, rfl, p, T.C, dx, _, rfl, hp, T.cl, T.f_room, (by show 0 < 1000; decide), ?_⟩
          refine ⟨_, rfl, _, rfl, p, T.C, dx, _, rfl, upd_same, T.cl, T.f_first, (by show 1 < 1000; decide), ?_⟩
          have kp : ∀ (fs gs : List (Str × V)) b o, H b = some o → b ≠ p → (upd (upd H p (.ins T.C dx fs)) p (.ins T.C dx gs)) b = some o := fun fs gs b o e hb => by rw [upd_ne hb, upd_ne hb]; exact e
          have nl : ∀ b xs, H b = some (.lst xs) → b ≠ p := fun b xs e z => by rw [z, hp] at e; cases e
          have nt : ∀ b xs, H b = some (.tup xs) → b ≠ p := fun b xs e z => by rw [z, hp] at e; cases e
          refine ⟨_, rfl, l, ax, rfl, Axs.same' hA (fun b xs e => kp _ _ _ _ e (nl b xs e)) (fun b xs e => kp _ _ _ _ e (nt b xs e)), hg, fun H3 q s3 hq => ?_⟩
          have hp3 := s3 p _ upd_same
          have nq : q ≠ p := by
            obtain ⟨us, e1, _⟩ := hq
            intro z
            rw [z, hp3] at e1
            cases e1
          refine ⟨_, rfl, p, T.C, dx, _, rfl, hp3, T.cl, T.f_axes, (by show 2 < 1000; decide), ?_⟩
          have hv : ∀ o, o = HO.ins T.C dx (vF r f q) → ViewAt T.C (upd H3 p o) p r f (keepA ax) := fun o eo => by
            subst eo
            have nl3 : ∀ b xs, H3 b = some (.lst xs) → b ≠ p := fun b xs e z => by rw [z, hp3] at e; cases e
            have nt3 : ∀ b xs, H3 b = some (.tup xs) → b ≠ p := fun b xs e z => by rw [z, hp3] at e; cases e
            exact ⟨dx, q, upd_same, Axs.same' hq (fun b xs e => by rw [upd_ne (nl3 b xs e)]; exact e) (fun b xs e => by rw [upd_ne (nt3 b xs e)]; exact e)⟩
          have eo : HO.ins T.C dx (putF "axes" (V.ref q) (putF "first" (V.int f) (putF "room" (V.int r) []))) = HO.ins T.C dx (vF r f q) := by rw [vF_put]
          have hv4 := hv _ eo
          have k4 : ∀ b o, H b = some o → b ≠ p → (upd H3 p (HO.ins T.C dx (putF "axes" (V.ref q) (putF "first" (V.int f) (putF "room" (V.int r) []))))) b = some o := fun b o e hb => by
            rw [upd_ne hb]
            exact s3 _ _ (kp _ _ _ _ e hb)
          obtain ⟨dx4, l4, e4, _⟩ := id hv4
          have no : ∀ {m : Str}, (m == ("room" : Str)) = false → (m == ("first" : Str)) = false → (m == ("axes" : Str)) = false → (vF r f l4).lookup m = none := vF_no r f l4
          refine ⟨_, rfl, p, dx4, _, rfl, e4, no (by decide +kernel) (by decide +kernel) (by decide +kernel), p, r, f, keepA ax, rfl, hv4, hg.keep, fun H5 s5 => ⟨_, _, rfl, rfl, _, rfl, ?_⟩⟩
          by_cases c3 : f + low (keepA ax) < 0
          · refine iteE c3 ?_
            refine kN ?_ H5 fun b o e hb => s5 _ _ (k4 b o e hb)
            rintro ⟨r', er, ok⟩
            cases er
            have := ok.2.2.1
            omega
          · refine iteD c3 ?_
            have hv5 := hv4.same s5
            refine ⟨_, rfl, p, dx4, _, rfl, s5 _ _ e4, no (by decide +kernel) (by decide +kernel) (by decide +kernel), p, r, f, keepA ax, rfl, hv5, hg.keep, fun H6 s6 => ⟨_, rfl, _, _, rfl, rfl, _, rfl, ?_⟩⟩
            have k6 : ∀ b o, H b = some o → b ≠ p → H6 b = some o := fun b o e hb => s6 _ _ (s5 _ _ (k4 b o e hb))
            by_cases c4 : r ≤ f + hig (keepA ax)
            · refine iteE c4 ?_
              refine kN ?_ H6 k6
              rintro ⟨r', er, ok⟩
              cases er
              have := ok.2.2.2
              omega
            · refine iteD c4 ?_
              exact kY ⟨r, rfl, c1, c2, by omega, by omega⟩ r rfl H6 k6 (hv5.same s6)
        · refine ⟨_, rfl, _, _, rfl, rfl, _, rfl, iteE c1 ⟨_, _, rfl, rfl, _, rfl, iteNT c2 ?_⟩⟩
          refine kN ?_ H fun b o e _ => e
          rintro ⟨r', er, ok⟩
          cases er
          exact c2 ok.2.1
      · refine ⟨_, rfl, _, _, rfl, rfl, _, rfl, iteD c1 ⟨_, rfl, ?_⟩⟩
        refine kN ?_ H fun b o e _ => e
        rintro ⟨r', er, ok⟩
        cases er
        exact c1 ok.1
end
end G26
namespace G26
open PySem PySem.Spec PyProof.Rows L2
theorem axs_zip {H : Hp} {p : Addr} {ts : List Addr} {ns ms : List Int} (hl : H p = some (.lst (ts.map V.ref))) (h1 : ts.length = (ns.map V.int).length) (h2 : ms.length = ns.length)
    (h3 : ∀ (j : Nat) (t : Addr) (x y : V), ts[j]? = some t → (ns.map V.int)[j]? = some x → (ms.map V.int)[j]? = some y → H t = some (.tup [x, y])) : Axs H p (ns.zip ms) := by
  refine ⟨ts, hl, by rw [h1, List.length_map, List.length_zip, h2]; omega, fun j t q e1 e2 => ?_⟩
  have e3 : ns[j]? = some q.1 ∧ ms[j]? = some q.2 := by
    have := List.getElem?_zip_eq_some.mp (show (ns.zip ms)[j]? = some (q.1, q.2) from e2)
    exact this
  exact h3 j t _ _ e1 (by rw [List.getElem?_map, e3.1]; rfl) (by rw [List.getElem?_map, e3.2]; rfl)
theorem zip_fst {ns ms : List Int} (h : ms.length = ns.length) : (ns.zip ms).map (·.1) = ns := by
  have := List.map_fst_zip (l₁ := ns) (l₂ := ms) (by omega)
  exact this
theorem prod_le : ∀ {ns : List Int}, (∀ n ∈ ns, 1 ≤ n ∧ n ≤ 1000000000) → prod ns ≤ 1000000000 ^ ns.length
  | [], _ => by simp [prod]
  | n :: r, h => by
    have h1 := h n List.mem_cons_self
    have ih := prod_le fun m hm => h m (List.mem_cons_of_mem _ hm)
    have hp : 1 ≤ prod r := prod_pos fun m hm => (h m (List.mem_cons_of_mem _ hm)).1
    show n * prod r ≤ 1000000000 ^ (r.length + 1)
    rw [Int.pow_succ, Int.mul_comm]
    exact Int.mul_le_mul ih h1.2 (by omega) (by
      have := Int.pow_pos (n := 1000000000) (m := r.length) (by decide)
      omega)
theorem prod_72 {ns : List Int} (h : GoodS ns) : prod ns ≤ 1000000000 ^ 8 := by
  have h1 := prod_le h.1
  have h2 : (1000000000 : Int) ^ ns.length ≤ 1000000000 ^ 8 := by
    have h3 := h.2
    have hc : ns.length = 0 ∨ ns.length = 1 ∨ ns.length = 2 ∨ ns.length = 3 ∨ ns.length = 4 ∨ ns.length = 5 ∨ ns.length = 6 ∨ ns.length = 7 ∨ ns.length = 8 := by omega
    rcases hc with e | e | e | e | e | e | e | e | e <;> rw [e] <;> decide
  omega
theorem prod_log {ns : List Int} (h : GoodS ns) : (prod ns).natAbs.log2 < 1920 := by
  have h1 := prod_72 h
  have h2 := prod_pos h.pos
  have h3 : (prod ns).natAbs < 2 ^ 240 := by
    have e : (1000000000 : Int) ^ 8 < ((2 ^ 240 : Nat) : Int) := by decide +kernel
    omega
  have h4 := (Nat.log2_lt (show (prod ns).natAbs ≠ 0 by omega)).mpr h3
  omega
section
variable {P : Program} {w : World} {K : PySem.W.Frag} {mg : Str → Option Value} {base : Heap}
theorem okV_w {ns : List Int} (h : GoodS ns) (r : Int) : OkV r 0 (ns.zip (paces ns)) ↔ (prod ns ≤ r ∧ r ≤ 1000000000000000000) := by
  have h1 : low (keepA (ns.zip (paces ns))) = 0 := low_wAx h.pos
  have h2 : hig (keepA (ns.zip (paces ns))) = prod ns - 1 := hig_wAx h.pos
  have h3 := prod_pos h.pos
  unfold OkV
  rw [h1, h2]
  omega
theorem ok_who (T : Txt K mg) : FnOk P w K mg base (L2.CX P w) 6 T.a_who T.d_who p_who (sp_who K T.C T.N) := by
  refine T.F_who.ok sc_who (fun vs H Q E h => ?_) (fun cdv A outer s H vs Q E hr h => ?_)
  · obtain ⟨l, x, ns, rfl, _⟩ := h
    rfl
  · obtain ⟨l, x, ns, rfl, hS, hg, hx, kY, kN⟩ := h
    refine ⟨_, (C8.pss_cut (ps_if (pt_cmpR op_isN (pv 1) pe_non (nomark _))
    (pss_one (ps_set (i := 1) sc_who.nd rfl (Or.inl rfl) (pe_call (ok_cnt T) (hr.mono (by decide)) rfl T.g_cnt T.F_cnt.kp T.b_cnt .nil pass0 (pa_cons (pv 0) pa_nil))))
    pss_nil)
    (pss_one (ps_ret (pe_make T.mkC (ok_ini T) hr rfl T.gC T.b_ini .nil (passes_call (takes_of rfl rfl rfl rfl) (fun _ _ _ _ h => h)) (pa_cons (pv 1) (pa_cons pe_int (pa_cons (ZM.pe_listZip rfl (by rfl) T.z_list (by rfl) T.z_zip (pa_cons (pv 0) (pa_cons (pe_call (ok_pac T) (hr.mono (by decide)) rfl T.g_pac T.F_pac.kp T.b_pac .nil pass0 (pa_cons (pv 0) pa_nil)) pa_nil))) pa_nil))))))), ?_⟩
    refine ⟨fun σ' H' => H' = H ∧ ∃ y b, effR x ns = y ∧ Kn H y b ∧ σ' = [some (.ref l), some y], ⟨_, rfl, rfl, _, rfl, ite2 (fun c => ?_) (fun c => ?_)⟩, ?_⟩
    · have cx : x = .non := of_decide_eq_true c
      subst cx
      exact ⟨_, rfl, l, ns, rfl, hS, hg, rfl, .int (prod ns), true, by unfold effR; rw [if_pos rfl], .int _, rfl⟩
    · have cx : ¬ x = .non := fun z => c (decide_eq_true z)
      rcases hx with rfl | ⟨b, hK⟩
      · exact absurd rfl cx
      · exact ⟨rfl, x, b, by unfold effR; rw [if_neg cx], hK, rfl⟩
    · rintro σ' _ ⟨rfl, y, b, ey, hK, rfl⟩
      refine ⟨_, rfl, _, rfl, _, rfl, l, ns, rfl, hS, hg, fun H1 q s1 _ hq => ⟨l, q, _, _, rfl, s1.seq hS, SqL.of hq, by rw [List.length_map, List.length_map, paces_len], fun H2 p ts s2 _ _ hp hl hpr => ?_⟩⟩
      have hA : Axs H2 p (ns.zip (paces ns)) := axs_zip hp hl (paces_len ns) hpr
      have s12 : Same _ H2 := s1.trans s2
      intro v dx hv hdx ne
      have hv2 : (upd H2 dx (.own v)) v = none := by rw [upd_ne ne.symm]; exact hv
      have s3 : Same H2 (upd (upd H2 dx (.own v)) v (.ins T.C dx [])) := (Same.upd hdx).trans (Same.upd hv2)
      have hgA : GoodA (ns.zip (paces ns)) := by
        unfold GoodA
        rw [zip_fst (paces_len ns)]
        exact hg
      have sf : ∀ H' : Hp, (∀ b o, (upd (upd H2 dx (.own v)) v (.ins T.C dx [])) b = some o → b ≠ v → H' b = some o) → Same _ H' := fun H' k => s12.trans (Same.made hv hdx k)
      refine ⟨v, dx, y, b, 0, p, _, rfl, upd_same, hK.same (s12.trans s3), hA.same s3, hgA, fun ok r er H' k hV => ⟨rfl, ?_⟩, fun no H' k => ?_⟩
      · obtain ⟨r', er', ok'⟩ := ok
        rw [er] at er'
        cases er'
        have o2 := (okV_w hg r).mp ok'
        exact kY ⟨r, ey.trans er, o2.1, o2.2⟩ r (ey.trans er) H' v (sf H' k) hV
      · refine kN ?_ H' (sf H' k)
        rintro ⟨r, er, o1, o2⟩
        exact no ⟨r, ey.symm.trans er, (okV_w hg r).mpr ⟨o1, o2⟩⟩
theorem ok_tol (T : Txt K mg) : FnOk P w K mg base CX0 7 T.a_tol T.d_tol p_tol (sp_tol K T.C) := by
  refine T.F_tol.ok sc_tol (fun vs H Q E h => ?_) (fun cdv A outer s H vs Q E hr h => ?_)
  · obtain ⟨l, x, b, ns, rfl, _⟩ := h
    rfl
  · obtain ⟨l, x, b, ns, rfl, hS, hg, hx, kY, kN⟩ := h
    refine ⟨_, (pss_cons (ps_set (i := 3) sc_tol.nd rfl (Or.inl rfl) pe_non)
    (pss_cons (ps_set (i := 4) sc_tol.nd rfl (Or.inl rfl) pe_str)
    (C8.pss_cut (ps_try_only rfl rfl ⟨rfl, by decide, .inl T.gN⟩ takes0 (fun W pn xe tk _ =>
    (pss_one (ps_if (pt_val (pv 2))
      (pss_one (ps_set (i := 3) sc_tol.nd rfl (Or.inl rfl) (pe_callSD (ok_who T) hr rfl T.g_who T.F_who.kp T.b_who1 T.v_who (fun σ => passAt tk σ) (pa_cons (pv 0) pa_nil))))
      (pss_one (ps_set (i := 3) sc_tol.nd rfl (Or.inl rfl) (pe_callSD (ok_who T) hr rfl T.g_who T.F_who.kp T.b_who2 .nil (fun σ => passAt tk σ) (pa_cons (pv 0) (pa_cons (pv 1) pa_nil))))))))
    (fun a oe cls d pn _ _ => (pss_one (ps_set (i := 4) sc_tol.nd rfl (Or.inl rfl) pe_str))))
    (pss_one (ps_ret (pe_tup (pa_cons (pv 4) (pa_cons (pv 3) pa_nil)))))))), ?_⟩
    let Mid : L2.St → Hp → Prop := fun σ' H' => Same H H' ∧ ((∃ r v, effR (if b then .non else x) ns = .int r ∧ OkR (if b then .non else x) ns ∧ ViewAt T.C H' v r 0 (wAx ns) ∧ σ' = [some (.ref l), some x, some (.bl b), some (.ref v), some (.str "told")]) ∨
      (¬ OkR (if b then .non else x) ns ∧ σ' = [some (.ref l), some x, some (.bl b), some .non, some (.str "view")]))
    refine ⟨Mid, ?_, ?_⟩
    · refine ⟨_, rfl, b, rfl, ?_⟩
      cases b with
      | true =>
        refine ⟨_, rfl, l, .non, ns, rfl, hS, hg, .inl rfl, fun ok r er H' v s' hV => ⟨s', .inl ⟨r, v, er, ok, hV, rfl⟩⟩, fun no H' s' => ?_⟩
        exact ⟨true, T.eN, fun _ a ha => ⟨s', .inr ⟨no, rfl⟩⟩, fun q => nomatch q⟩
      | false =>
        refine ⟨_, rfl, _, rfl, l, x, ns, rfl, hS, hg, hx, fun ok r er H' v s' hV => ⟨s', .inl ⟨r, v, er, ok, hV, rfl⟩⟩, fun no H' s' => ?_⟩
        exact ⟨true, T.eN, fun _ a ha => ⟨s', .inr ⟨no, rfl⟩⟩, fun q => nomatch q⟩
    · rintro σ' H' ⟨s', ⟨r, v, er, ok, hV, rfl⟩ | ⟨no, rfl⟩⟩
      · refine ⟨_, rfl, _, rfl, (by show 2 ≤ sizeLine; decide), fun t ht => ?_⟩
        exact kY ok r er _ t v (s'.updR (s'.free ht)) upd_same (hV.same (Same.upd ht))
      · refine ⟨_, rfl, _, rfl, (by show 2 ≤ sizeLine; decide), fun t ht => ?_⟩
        exact kN no _ t (s'.updR (s'.free ht)) upd_same
theorem ok_odd (T : Txt K mg) : FnOk P w K mg base CX0 8 T.a_odd T.d_odd p_odd (sp_odd K) := by
  refine T.F_odd.ok sc_odd (fun vs H Q E h => ?_) (fun cdv A outer s H vs Q E hr h => ?_)
  · obtain ⟨l, ns, rfl, _⟩ := h
    rfl
  · obtain ⟨l, ns, rfl, hS, hg, k⟩ := h
    refine ⟨_, (pss_cons (ps_for PassesOwn.never rfl (pi_list (pe_lst (pa_cons pe_bl (pa_cons pe_bl (pa_cons (pe_callTy call_str_int (by rfl) T.z_str (by decide +kernel) (pa_cons (pv 1) pa_nil)) (pa_cons (pe_tup (pa_cons (pv 1) pa_nil)) (pa_cons (pe_lst (pa_cons (pv 1) pa_nil)) (pa_cons pe_dnewK (pa_cons pe_str pa_nil))))))))) (pg_name (i := 2) sc_odd.nd rfl (Or.inl rfl))
    (pss_one (ps_if (pt_cmpR op_ne (pe_ix ix_tup (pe_call (ok_tol T) hr rfl T.g_tol T.F_tol.kp T.b_tol .nil pass0 (pa_cons (pv 0) (pa_cons (pv 2) (pa_cons pe_bl pa_nil)))) pe_int (fun _ _ => rfl)) pe_str (nomark _))
      (pss_one (ps_ret pe_bl))
      pss_nil)))
    (pss_one (ps_ret pe_bl))), ?_⟩
    refine ⟨_, rfl, _, rfl, prod_log hg, _, rfl, (by show 1 ≤ sizeLine; decide), fun p1 hp1 => ?_⟩
    refine ⟨_, rfl, (by show 1 ≤ sizeLine; decide), fun p2 hp2 => ?_⟩
    intro p3 hp3
    refine ⟨(by show 7 ≤ sizeLine; decide), fun p4 hp4 => ?_⟩
    have e1 := Same.upd (o := .tup [V.int (prod ns)]) hp1
    have e2 := Same.upd (o := .lst [V.int (prod ns)]) hp2
    have e3 := Same.upd (o := .dK []) hp3
    have e4 := Same.upd (o := .lst [V.bl true, V.bl false, V.str (toString (prod ns)), V.ref p1, V.ref p2, V.ref p3, V.str ""]) hp4
    have s0 := ((e1.trans e2).trans e3).trans e4
    refine ⟨p4, rfl, ⟨_, SqL.of upd_same⟩, ?_⟩
    have h1 := e4 _ _ (e3 _ _ (e2 p1 _ upd_same))
    have h2 := e4 _ _ (e3 p2 _ upd_same)
    have h3 := e4 p3 _ upd_same
    have h4 : ∀ H', Same (upd (upd (upd (upd H p1 (.tup [V.int (prod ns)])) p2 (.lst [V.int (prod ns)])) p3 (.dK [])) p4 (.lst [V.bl true, V.bl false, V.str (toString (prod ns)), V.ref p1, V.ref p2, V.ref p3, V.str ""])) H' →
        H' p4 = some (.lst [V.bl true, V.bl false, V.str (toString (prod ns)), V.ref p1, V.ref p2, V.ref p3, V.str ""]) := fun H' s' => s' _ _ upd_same
    generalize (upd (upd (upd (upd H p1 (.tup [V.int (prod ns)])) p2 (.lst [V.int (prod ns)])) p3 (.dK [])) p4 (.lst [V.bl true, V.bl false, V.str (toString (prod ns)), V.ref p1, V.ref p2, V.ref p3, V.str ""])) = H0 at *
    refine for_list (K := K) (a := p4) (xs := [V.bl true, V.bl false, V.str (toString (prod ns)), V.ref p1, V.ref p2, V.ref p3, V.str ""]) (fun i σ H' => (∃ v, σ = [some (.ref l), some (.int (prod ns)), v]) ∧ Same H0 H') ⟨⟨none, rfl⟩, Same.refl _⟩ (fun i σ H' _ z => SqL.of (h4 _ z.2)) ?_ ?_
    · rintro i x σ H' hi ⟨⟨v, rfl⟩, sH⟩
      have hK : Kn H0 x false ∧ x ≠ .non := by
        have hm := List.mem_of_getElem? hi
        simp only [List.mem_cons, List.not_mem_nil, or_false] at hm
        rcases hm with rfl | rfl | rfl | rfl | rfl | rfl | rfl
        · exact ⟨.bl _, by intro z; cases z⟩
        · exact ⟨.bl _, by intro z; cases z⟩
        · exact ⟨.str _, by intro z; cases z⟩
        · exact ⟨.tup h1, by intro z; cases z⟩
        · exact ⟨.lst h2, by intro z; cases z⟩
        · exact ⟨.dK h3, by intro z; cases z⟩
        · exact ⟨.str _, by intro z; cases z⟩
      have no : ¬ OkR (if false then .non else x) ns := by
        rintro ⟨r, er, _⟩
        have e : effR (if false then .non else x) ns = x := by
          show (if x = .non then _ else x) = x
          rw [if_neg hK.2]
        rw [e] at er
        subst er
        have := hK.1
        cases this
      refine ⟨_, rfl, _, rfl, l, x, false, ns, rfl, (s0.trans sH).seq hS, hg, .inr ⟨false, hK.1.same sH⟩, fun ok => absurd ok no, fun _ H2 t s2 ht => ?_⟩
      refine ⟨t, _, _, _, rfl, rfl, SqT.of ht, rfl, rfl, _, rfl, iteNS rfl ?_⟩
      exact ⟨⟨_, rfl⟩, sH.trans s2⟩
    · rintro σ H' ⟨⟨v, rfl⟩, sH⟩
      exact k _ (s0.trans sH)
end
end G26
namespace G26
open PySem PySem.Spec PyProof.Rows L2
theorem keep1_idem (p : Int × Int) : keep1 (keep1 p) = keep1 p := by
  unfold keep1
  by_cases c : p.1 = 1
  · simp [c]
  · simp [c]
theorem keepA_idem (ax : List (Int × Int)) : keepA (keepA ax) = keepA ax := by
  unfold keepA
  rw [List.map_map]
  exact List.map_congr_left fun p _ => keep1_idem p
theorem keep1_eq {s x : Int} (h : 1 ≤ s) : (x * if decide (1 < s) = true then 1 else 0) = (keep1 (s, x)).2 := by
  unfold keep1
  by_cases c : s = 1
  · subst c
    simp
  · have c2 : 1 < s := by omega
    simp [c, c2]
section
variable {P : Program} {w : World} {K : PySem.W.Frag} {mg : Str → Option Value} {base : Heap}
theorem ok_lsi (T : Txt K mg) : FnOk P w K mg base CX0 2 T.a_lsi T.d_lsi p_lsi (sp_lsi K) := by
  refine T.F_lsi.ok sc_lsi (fun vs H Q E h => ?_) (fun cdv A outer s H vs Q E hr h => ?_)
  · obtain ⟨a, ns, rfl, _⟩ := h
    rfl
  · obtain ⟨a, ns, rfl, hS, kk⟩ := h
    refine ⟨_, (pss_cons (ps_set (i := 1) sc_lsi.nd rfl (Or.inl rfl) (pe_lst pa_nil))
    (pss_cons (ps_set (i := 2) sc_lsi.nd rfl (Or.inl rfl) pe_int)
    (pss_cons (ps_set (i := 3) sc_lsi.nd rfl (Or.inl rfl) (pe_cmpR op_eq (pe_call (ok_dra T) hr rfl T.g_dra T.F_dra.kp T.b_dra .nil pass0 (pa_cons (pv 0) (pa_cons pe_int (pa_cons pe_int pa_nil)))) pe_int (nomark _)))
    (pss_cons (ps_for PassesOwn.never rfl (pi_range1 rfl T.z_range (pa_cons (pe_call (ok_dra T) hr rfl T.g_dra T.F_dra.kp T.b_dra .nil pass0 (pa_cons (pv 0) (pa_cons pe_int (pa_cons pe_int pa_nil)))) pa_nil)) (pg_name (i := 4) sc_lsi.nd rfl (Or.inl rfl))
    (pss_cons (ps_set (i := 5) sc_lsi.nd rfl (Or.inl rfl) (pe_call (ok_dra T) hr rfl T.g_dra T.F_dra.kp T.b_dra .nil pass0 (pa_cons (pv 0) (pa_cons (pe_op op_add pe_int (pv 4)) (pa_cons (pe_op op_pow pe_int pe_int) pa_nil)))))
      (pss_cons (ps_set (i := 6) sc_lsi.nd rfl (Or.inl rfl) (pe_op op_add pe_int (pe_op op_mod (pe_op op_fdiv (pv 5) pe_int) pe_int)))
      (C8.pss_cut (ps_if (pt_val (pv 3))
      (pss_one (ps_set (i := 6) sc_lsi.nd rfl (Or.inl rfl) (pe_ix ix_list (pe_lst (pa_cons (pe_op op_add pe_int (pe_op op_mod (pe_op op_fdiv (pv 5) pe_int) (pe_op op_pow pe_int pe_int))) (pa_cons (pe_op op_pow pe_int pe_int) (pa_cons (pe_op op_add pe_int (pe_op op_mod (pe_op op_fdiv (pv 5) pe_int) pe_int)) (pa_cons pe_int pa_nil))))) (pe_op op_mod (pv 5) pe_int) (fun _ _ => rfl))))
      pss_nil)
      (pss_one (ps_if (PW.pt (pw_or (pt_val (pv 3)) (pw_or1 (pt_cmpR op_le (pe_op op_mul (pv 2) (pv 6)) pe_int (nomark _)))))
      (pss_cons (ps_set (i := 2) sc_lsi.nd rfl (Or.inl rfl) (pe_op op_mul (pv 2) (pv 6)))
        (pss_one (ps_expr (pe_bm PySem.F.plainAttrs_list PySem.F.slot_list_append PySem.F.type_list_append mt_append (pv 1) (pa_cons (pv 6) pa_nil)))))
      pss_nil))))))
    (pss_one (ps_ret (pe_tup (pa_cons (pv 1) (pa_cons (pv 2) pa_nil))))))))), ?_⟩
    refine ⟨Nat.zero_le _, fun D hD => ?_⟩
    have sD : Same H (upd H D (.lst [])) := Same.upd hD
    refine ⟨_, rfl, a, ns, 0, 4, rfl, sD.seq hS, by decide, by decide, by decide, fun r0 _ _ => ⟨rfl, ?_⟩⟩
    generalize decide (V.int r0 = V.int 0) = g
    refine ⟨_, rfl, a, ns, 1, 9, rfl, sD.seq hS, by decide, by decide, by decide, fun r hr0 hr1 => ⟨r, rfl, by omega, by omega, ?_⟩⟩
    refine for_range (n := r.toNat) (fun i σ H' => ∃ ms v4 v5 v6, σ = [some (.ref a), some (.ref D), some (.int (prod ms)), some (.bl g), v4, v5, v6] ∧ Same H H' ∧ H' D = some (.lst (ms.map V.int)) ∧ (∀ n ∈ ms, 1 ≤ n ∧ n ≤ 1000000000) ∧ ms.length ≤ i)
      ⟨[], none, none, none, rfl, sD, upd_same, fun n hn => by simp at hn, Nat.le_refl _⟩ ?_ ?_
    · rintro i σ H' hi ⟨ms, v4, v5, v6, rfl, sH, hl, hb, hlen⟩
      refine ⟨_, rfl, _, rfl, _, _, rfl, rfl, _, _, rfl, rfl, ⟨by decide, by decide, by decide⟩, a, ns, _, _, rfl, sH.seq hS, by omega, by omega, by decide, fun c hc0 hc1 => ?_⟩
      refine ⟨_, rfl, _, _, rfl, rfl, ⟨by decide, by decide⟩, _, _, rfl, rfl, (by show (0 : Int) < 6; decide), _, _, rfl, rfl, ?_⟩
      have a0 := Int.emod_nonneg (c / 4) (b := 6) (by decide)
      have a1 := Int.emod_lt_of_pos (c / 4) (b := 6) (by decide)
      refine ⟨fun σ' H'' => Same H' H'' ∧ ∃ z : Int, 1 ≤ z ∧ z ≤ 1000000000 ∧ σ' = [some (.ref a), some (.ref D), some (.int (prod ms)), some (.bl g), some (.int (0 + (i : Int))), some (.int c), some (.int z)], ⟨_, rfl, g, rfl, ?_⟩, ?_⟩
      · cases g with
        | false => exact ⟨Same.refl _, 1 + c / 4 % 6, by omega, by omega, rfl⟩
        | true =>
          refine ⟨_, rfl, _, _, rfl, rfl, ⟨by decide, by decide⟩, _, _, rfl, rfl, ⟨by decide, by decide, by decide⟩, _, _, rfl, rfl, (by show (0 : Int) < 10 ^ (9 : Int).toNat; decide), _, _, rfl, rfl, ?_⟩
          refine ⟨_, _, rfl, rfl, ⟨by decide, by decide, by decide⟩, ?_⟩
          refine ⟨_, rfl, _, _, rfl, rfl, ⟨by decide, by decide⟩, _, _, rfl, rfl, (by show (0 : Int) < 1000; decide), _, _, rfl, rfl, ?_⟩
          refine ⟨(by show 4 ≤ sizeLine; decide), fun p hp => ?_⟩
          have key : ∃ z : Int, atI [V.int (1 + c / 4 % 10 ^ (9 : Int).toNat), V.int (10 ^ (9 : Int).toNat), V.int (1 + c / 4 % 1000), V.int 2] (c % 4) = some (V.int z) ∧ 1 ≤ z ∧ z ≤ 1000000000 := by
            have b0 := Int.emod_nonneg (c / 4) (b := 1000000000) (by decide)
            have b1 := Int.emod_lt_of_pos (c / 4) (b := 1000000000) (by decide)
            have b2 := Int.emod_nonneg (c / 4) (b := 1000) (by decide)
            have b3 := Int.emod_lt_of_pos (c / 4) (b := 1000) (by decide)
            have e9 : (10 : Int) ^ (9 : Int).toNat = 1000000000 := by decide
            rw [e9]
            have hc : c % 4 = 0 ∨ c % 4 = 1 ∨ c % 4 = 2 ∨ c % 4 = 3 := by omega
            rcases hc with e | e | e | e <;> rw [e]
            · exact ⟨_, rfl, by omega, by omega⟩
            · exact ⟨_, rfl, by decide, by decide⟩
            · exact ⟨_, rfl, by omega, by omega⟩
            · exact ⟨_, rfl, by decide, by decide⟩
          obtain ⟨z, hz, z0, z1⟩ := key
          exact ⟨_, rfl, _, _, rfl, rfl, (by show (0 : Int) < 4; decide), p, _, _, _, rfl, rfl, SqL.of upd_same, hz, Same.upd hp, z, z0, z1, rfl⟩
      · rintro σ' H'' ⟨s2, z, z0, z1, rfl⟩
        have hl2 := s2 _ _ hl
        have sHH := sH.trans s2
        have inv : ∀ v4 v5 v6, ∃ ms' w4 w5 w6, [some (V.ref a), some (.ref D), some (.int (prod ms * z)), some (.bl g), v4, v5, v6] = [some (V.ref a), some (.ref D), some (.int (prod ms')), some (.bl g), w4, w5, w6] ∧ Same H (upd H'' D (.lst (ms.map V.int ++ [V.int z]))) ∧
            (upd H'' D (.lst (ms.map V.int ++ [V.int z]))) D = some (.lst (ms'.map V.int)) ∧ (∀ n ∈ ms', 1 ≤ n ∧ n ≤ 1000000000) ∧ ms'.length ≤ i + 1 := fun v4 v5 v6 => by
          refine ⟨ms ++ [z], v4, v5, v6, by rw [prod_snoc], sHH.updR hD, ?_, fun n hn => ?_, by rw [List.length_append, List.length_singleton]; omega⟩
          · rw [upd_same, List.map_append]
            rfl
          · rcases List.mem_append.mp hn with hn | hn
            · exact hb n hn
            · rw [List.mem_singleton.mp hn]
              exact ⟨z0, z1⟩
        have hsz : (ms.map V.int).length < sizeLine := small8 (by rw [List.length_map]; omega)
        refine ⟨_, rfl, g, rfl, ?_⟩
        cases g with
        | true =>
          refine ⟨_, rfl, _, rfl, _, _, rfl, rfl, .inr ⟨by omega, by omega⟩, _, rfl, .inl ⟨rfl, _, SqL.of hl2⟩, _, rfl, D, _, _, rfl, rfl, hl2, hsz, ?_⟩
          exact inv _ _ _
        | false =>
          refine ⟨_, rfl, _, rfl, _, _, rfl, rfl, .inr ⟨by omega, by omega⟩, _, _, rfl, rfl, _, rfl, ite2 (fun _ => ?_) (fun _ => ?_)⟩
          · refine ⟨_, rfl, _, rfl, _, _, rfl, rfl, .inr ⟨by omega, by omega⟩, _, rfl, .inl ⟨rfl, _, SqL.of hl2⟩, _, rfl, D, _, _, rfl, rfl, hl2, hsz, ?_⟩
            exact inv _ _ _
          · exact ⟨ms, _, _, _, rfl, sHH, hl2, hb, by omega⟩
    · rintro σ H' ⟨ms, v4, v5, v6, rfl, sH, hl, hb, hlen⟩
      refine ⟨_, rfl, _, rfl, (by show 2 ≤ sizeLine; decide), fun t ht => ?_⟩
      have s2 : Same H' (upd H' t (.tup [V.ref D, V.int (prod ms)])) := Same.upd ht
      exact kk _ t D ms (sH.trans s2) upd_same (s2 _ _ hl) ⟨hb, by omega⟩
theorem ok_sma (T : Txt K mg) : FnOk P w K mg base CX0 3 T.a_sma T.d_sma p_sma (sp_sma K) := by
  refine T.F_sma.ok sc_sma (fun vs H Q E h => ?_) (fun cdv A outer s H vs Q E hr h => ?_)
  · obtain ⟨a, ns, k, rfl, _⟩ := h
    rfl
  · obtain ⟨a, ns, k, rfl, hS, hk0, hk1, kk⟩ := h
    refine ⟨_, (pss_cons (ps_set (i := 2) sc_sma.nd rfl (Or.inl rfl) (pe_lst pa_nil))
    (pss_cons (ps_set (i := 3) sc_sma.nd rfl (Or.inl rfl) (pe_lst pa_nil))
    (pss_cons (ps_set (i := 4) sc_sma.nd rfl (Or.inl rfl) pe_int)
    (pss_cons (ps_for PassesOwn.never rfl (pi_range1 rfl T.z_range (pa_cons (pe_call (ok_dra T) (hr.mono (by decide)) rfl T.g_dra T.F_dra.kp T.b_dra .nil pass0 (pa_cons (pv 0) (pa_cons (pv 1) (pa_cons pe_int pa_nil)))) pa_nil)) (pg_name (i := 5) sc_sma.nd rfl (Or.inl rfl))
    (pss_cons (ps_set (i := 6) sc_sma.nd rfl (Or.inl rfl) (pe_call (ok_dra T) (hr.mono (by decide)) rfl T.g_dra T.F_dra.kp T.b_dra .nil pass0 (pa_cons (pv 0) (pa_cons (pe_op op_add (pe_op op_add (pv 1) pe_int) (pv 5)) (pa_cons (pe_op op_pow pe_int pe_int) pa_nil)))))
      (pss_cons (ps_set (i := 7) sc_sma.nd rfl (Or.inl rfl) (pe_op op_add pe_int (pe_op op_mod (pv 6) pe_int)))
      (pss_one (ps_if (pt_cmpR op_le (pe_op op_mul (pv 4) (pv 7)) pe_int (nomark _))
      (pss_cons (ps_set (i := 4) sc_sma.nd rfl (Or.inl rfl) (pe_op op_mul (pv 4) (pv 7)))
        (pss_cons (ps_expr (pe_bm PySem.F.plainAttrs_list PySem.F.slot_list_append PySem.F.type_list_append mt_append (pv 2) (pa_cons (pv 7) pa_nil)))
        (pss_one (ps_expr (pe_bm PySem.F.plainAttrs_list PySem.F.slot_list_append PySem.F.type_list_append mt_append (pv 3) (pa_cons (pe_op op_sub (pe_op op_mod (pe_op op_fdiv (pv 6) pe_int) pe_int) pe_int) pa_nil))))))
      pss_nil)))))
    (pss_cons (ps_set (i := 8) sc_sma.nd rfl (Or.inl rfl) (ZM.pe_listZip rfl (by rfl) T.z_list (by rfl) T.z_zip (pa_cons (pv 2) (pa_cons (pe_call (ok_lpa T) (hr.mono (by decide)) rfl T.g_lpa T.F_lpa.kp T.b_lpa .nil pass0 (pa_cons (pv 2) (pa_cons (pv 3) (pa_cons (pe_call (ok_dra T) (hr.mono (by decide)) rfl T.g_dra T.F_dra.kp T.b_dra .nil pass0 (pa_cons (pv 0) (pa_cons (pe_op op_add (pv 1) pe_int) (pa_cons (pe_op op_pow pe_int pe_int) pa_nil)))) pa_nil)))) pa_nil))))
    (pss_one (ps_ret (pe_call (ok_flo T) hr rfl T.g_flo T.F_flo.kp T.b_flo .nil pass0 (pa_cons (pv 0) (pa_cons (pe_op op_add (pv 1) pe_int) (pa_cons (pe_lc (own := [("_law_size", 7), ("_law_pace", 9)]) (g := gTup K 2 (gCons (gName 7) (gCons (gName 9) gNil))) (tt := tYes) rfl sc_sma.nd (pi_list (pv 8)) (blkOk_by (N := n_sma) (sc := defScope s_sma) (by decide +kernel)) (fun _ _ _ _ _ => (pg_tup rfl (pgs_cons (pg_name (i := 7) sc_sma.nd rfl (Or.inl rfl)) (pgs_cons (pg_name (i := 9) sc_sma.nd rfl (Or.inl rfl)) pgs_nil)))) (fun _ _ _ _ _ => pts_nil) (fun _ _ _ _ _ => (pe_tup (pa_cons (pv 7) (pa_cons (pe_op op_mul (pv 9) (pe_callTy call_int1 (by rfl) T.z_int (by decide +kernel) (pa_cons (pe_cmpR op_gt (pv 7) pe_int (nomark _)) pa_nil))) pa_nil))))) pa_nil))))))))))), ?_⟩
    refine ⟨Nat.zero_le _, fun D1 hD1 => ?_⟩
    refine ⟨Nat.zero_le _, fun D2 hD2 => ?_⟩
    have n12 : D1 ≠ D2 := ne_of_none upd_same hD2
    have s1 : Same H (upd H D1 (.lst [])) := Same.upd hD1
    have s12 : Same H (upd (upd H D1 (.lst [])) D2 (.lst [])) := s1.trans (Same.upd hD2)
    have hD2H : H D2 = none := s1.free hD2
    refine ⟨_, rfl, _, rfl, a, ns, k, 6, rfl, s12.seq hS, hk0, by omega, by decide, fun r hr0 hr1 => ⟨r, rfl, by omega, by omega, ?_⟩⟩
    refine for_range (n := r.toNat) (fun i σ H' => ∃ ms ps v5 v6 v7, σ = [some (.ref a), some (.int k), some (.ref D1), some (.ref D2), some (.int (prod ms)), v5, v6, v7, none, none] ∧ Same H H' ∧ H' D1 = some (.lst (ms.map V.int)) ∧ H' D2 = some (.lst (ps.map V.int)) ∧ ps.length = ms.length ∧ ms.length ≤ i ∧ (∀ n ∈ ms, 1 ≤ n ∧ n ≤ 6) ∧ prod ms ≤ 200 ∧ (∀ p ∈ ps, -9 ≤ p ∧ p ≤ 9))
      ⟨[], [], none, none, none, rfl, s12, (by rw [upd_ne n12, upd_same]; rfl), upd_same, rfl, Nat.le_refl _, fun n hn => by simp at hn, by decide, fun n hn => by simp at hn⟩ ?_ ?_
    · rintro i σ H' hi ⟨ms, ps, v5, v6, v7, rfl, sH, h1, h2, hpl, hlen, hb, hpr, hps⟩
      refine ⟨_, rfl, _, rfl, _, _, rfl, rfl, _, rfl, _, _, rfl, rfl, _, _, rfl, rfl, ⟨by decide, by decide, by decide⟩, a, ns, _, _, rfl, sH.seq hS, by omega, by omega, by decide, fun c hc0 hc1 => ?_⟩
      have a0 := Int.emod_nonneg c (b := 6) (by decide)
      have a1 := Int.emod_lt_of_pos c (b := 6) (by decide)
      have a2 := Int.emod_nonneg (c / 6) (b := 19) (by decide)
      have a3 := Int.emod_lt_of_pos (c / 6) (b := 19) (by decide)
      refine ⟨_, rfl, _, _, rfl, rfl, (by show (0 : Int) < 6; decide), _, _, rfl, rfl, ?_⟩
      refine ⟨_, rfl, _, rfl, _, _, rfl, rfl, .inr ⟨by omega, by omega⟩, _, _, rfl, rfl, _, rfl, ite2 (fun c2 => ?_) (fun _ => ?_)⟩
      · have c3 := of_decide_eq_true c2
        have h2' : (upd H' D1 (.lst (ms.map V.int ++ [V.int (1 + c % 6)]))) D2 = some (.lst (ps.map V.int)) := by rw [upd_ne n12.symm]; exact h2
        refine ⟨_, rfl, _, rfl, _, _, rfl, rfl, .inr ⟨by omega, by omega⟩, _, rfl, .inl ⟨rfl, _, SqL.of h1⟩, _, rfl, D1, _, _, rfl, rfl, h1, small8 (by rw [List.length_map]; omega), ?_⟩
        refine ⟨_, rfl, .inl ⟨rfl, _, SqL.of h2'⟩, _, rfl, _, _, rfl, rfl, ⟨by decide, by decide⟩, _, _, rfl, rfl, (by show (0 : Int) < 19; decide), _, _, rfl, rfl, D2, _, _, rfl, rfl, h2', small8 (by rw [List.length_map]; omega), ?_⟩
        refine ⟨ms ++ [1 + c % 6], ps ++ [c / 6 % 19 - 9], _, _, _, by rw [prod_snoc]; rfl, (sH.updR hD1).updR hD2H, ?_, ?_, by rw [List.length_append, List.length_append, hpl]; rfl, by rw [List.length_append, List.length_singleton]; omega, fun n hn => ?_, by rw [prod_snoc]; exact c3, fun n hn => ?_⟩
        · rw [upd_ne n12, upd_same, List.map_append]
          rfl
        · rw [upd_same, List.map_append]
          rfl
        · rcases List.mem_append.mp hn with hn | hn
          · exact hb n hn
          · rw [List.mem_singleton.mp hn]
            omega
        · rcases List.mem_append.mp hn with hn | hn
          · exact hps n hn
          · rw [List.mem_singleton.mp hn]
            omega
      · exact ⟨ms, ps, _, _, _, rfl, sH, h1, h2, hpl, by omega, hb, hpr, hps⟩
    · rintro σ H' ⟨ms, ps, v5, v6, v7, rfl, sH, h1, h2, hpl, hlen, hb, hpr, hps⟩
      have hl8 : ms.length ≤ 8 := by omega
      refine ⟨_, rfl, _, rfl, _, rfl, _, rfl, _, rfl, _, _, rfl, rfl, _, _, rfl, rfl, ⟨by decide, by decide, by decide⟩, a, ns, _, _, rfl, sH.seq hS, by omega, by omega, by decide, fun c hc0 hc1 => ⟨D1, D2, ms, ps, c, rfl, h1, h2, hpl, hl8, hb, hpr, hps, fun H2 q ws s2 hq hwl hwb => ?_⟩⟩
      refine ⟨D1, q, _, _, rfl, SqL.of (s2 _ _ h1), SqL.of hq, by rw [List.length_map, List.length_map, hwl], fun H3 p ts s3 _ _ hp hl hpr3 => ?_⟩
      have hA : Axs H3 p (ms.zip ws) := axs_zip hp hl hwl hpr3
      have sH3 : Same H H3 := (sH.trans s2).trans s3
      obtain ⟨ts2, g1, g2⟩ := hA
      refine ⟨_, rfl, _, rfl, _, _, rfl, rfl, _, rfl, p, rfl, ⟨_, SqL.of g1⟩, fun D hD => ?_⟩
      refine lc_list (K := K) (a := p) (xs := ts2.map V.ref) (fun i H4 => Same H3 H4 ∧ ∃ us : List Addr, H4 D = some (.lst (us.map V.ref)) ∧ Prs H4 us (keepA ((ms.zip ws).take i))) ⟨Same.upd hD, [], upd_same, rfl, fun j t q e _ => by simp at e⟩ (fun i H4 _ z => z.1.seq (SqL.of g1)) ?_ ?_
      · rintro i y H4 hi ⟨s4, us, hu, hP⟩
        obtain ⟨t, x, f1, f2, rfl, f3⟩ := item_ax g2 hi
        have f4 := s4 _ _ f3
        have ez := List.getElem?_zip_eq_some.mp (show (ms.zip ws)[i]? = some (x.1, x.2) from f2)
        have hxb := hb x.1 (List.mem_of_getElem? ez.1)
        have hul : us.length < 8 := by
          have e1 : us.length = ((ms.zip ws).take i).length := by rw [hP.1]; unfold keepA; rw [List.length_map]
          have e2 := (List.getElem?_eq_some_iff.mp f2).1
          rw [List.length_take] at e1
          rw [List.length_zip] at e1 e2
          omega
        refine ⟨t, _, rfl, SqT.of f4, rfl, _, _, rfl, _, _, rfl, rfl, rfl, ?_⟩
        have hm : CMul x.2 (if decide (1 < x.1) = true then 1 else 0) := .inr (by split <;> exact ⟨by decide, by decide⟩)
        refine ⟨_, rfl, _, rfl, _, rfl, _, _, rfl, rfl, .inr ⟨_, rfl, _, _, rfl, rfl, hm, (by show 2 ≤ sizeLine; decide), fun t2 ht2 => ?_⟩⟩
        have nD : D ≠ t2 := ne_of_none hu ht2
        have s5 : Same H4 (upd H4 t2 (.tup [V.int x.1, V.int (x.2 * if decide (1 < x.1) = true then 1 else 0)])) := Same.upd ht2
        refine ⟨_, s5 _ _ hu, small8 (by rw [List.length_map]; omega), (s4.trans s5).updR hD, us ++ [t2], ?_, ?_⟩
        · rw [upd_same, List.map_append]
          rfl
        · refine Prs.keepMore (hP.same' ?_) f2 ?_
          · intro b xs e
            have nb : b ≠ D := fun z => by rw [z, hu] at e; cases e
            rw [upd_ne nb]
            exact s5 _ _ e
          · rw [upd_ne nD.symm, upd_same]
            show some (HO.tup [V.int x.1, V.int (x.2 * if decide (1 < x.1) = true then 1 else 0)]) = _
            rw [keep1_eq hxb.1]
            have e1 : (keep1 x).1 = x.1 := by
              unfold keep1
              by_cases c1 : x.1 = 1
              · rw [if_pos c1, c1]
              · rw [if_neg c1]
            rw [e1]
      · rintro H4 ⟨s4, us, hu, hP⟩
        rw [List.length_map, g2.1, List.take_length] at hP
        have hsm : SmallA (keepA (ms.zip ws)) := by
          refine ⟨?_, keepA_idem _, fun q hq => ?_⟩
          · unfold keepA
            rw [List.length_map, List.length_zip]
            omega
          · obtain ⟨x, hx, rfl⟩ := List.mem_map.mp hq
            have hx1 := (List.of_mem_zip (show (x.1, x.2) ∈ ms.zip ws from hx))
            have hxb := hb x.1 hx1.1
            have hyb := hwb x.2 hx1.2
            unfold keep1
            by_cases c1 : x.1 = 1
            · rw [if_pos c1]
              decide
            · rw [if_neg c1]
              exact ⟨hxb.1, hxb.2, hyb.1, hyb.2⟩
        exact ⟨a, ns, k + 1, D, keepA (ms.zip ws), rfl, (sH3.trans s4).seq hS, by omega, by omega, ⟨us, hu, hP⟩, hsm, fun H5 t r f s5 hp5 hok => kk H5 t r f _ ((sH3.trans s4).trans s5) hp5 hok⟩
end
end G26
namespace G26
open PySem PySem.Spec PyProof.Rows L2
theorem iteNB {b : Bool} {A B : Prop} (hb : b = true) (h : B) : if (!b) = true then A else B := by
  subst hb
  exact h
theorem wAx_good {ns : List Int} (h : GoodS ns) : GoodA (wAx ns) := by
  unfold GoodA
  rw [wAx_fst]
  exact h
theorem rg_ints {n : Int} (h : 0 ≤ n) : rgV 0 n = ((List.range n.toNat).map fun (k : Nat) => (0 : Int) + (k : Int)).map V.int := by
  unfold rgV
  rw [List.map_map, Int.sub_zero]
  rfl
theorem cells_w0 {ns : List Int} (h : Pos ns) : cellsA (wAx ns) [0] = (List.range (prod ns).toNat).map fun (k : Nat) => (0 : Int) + (k : Int) := by
  rw [cells_wAx _ h, List.flatMap_cons, List.flatMap_nil, List.append_nil]
/-- the cell of a number is the number -/
theorem cell_is {ns : List Int} {n : Int} (h : GoodS ns) (h0 : 0 ≤ n) (h1 : n < prod ns) : 0 + dot (digits (paces ((wAx ns).map (·.1))) n) ((wAx ns).map (·.2)) = n := by
  rw [wAx_fst, dot_keep ns _ (by rw [dig_len, paces_len]) fun j d m e1 e2 => dig_ok h.pos h0 h1 j d m e1 e2, dig_dot h.pos h0 h1]
  omega
section
variable {P : Program} {w : World} {K : PySem.W.Frag} {mg : Str → Option Value} {base : Heap}
theorem ok_liw (T : Txt K mg) : FnOk P w K mg base CX0 6 T.a_liw T.d_liw p_liw (sp_liw K T.C) := by
  refine T.F_liw.ok sc_liw (fun vs H Q E h => ?_) (fun cdv A outer s H vs Q E hr h => ?_)
  · obtain ⟨v, l, r, ns, c, rfl, _⟩ := h
    rfl
  · obtain ⟨v, l, r, ns, c, rfl, hS, hg, hv, hr0, hr1, k⟩ := h
    obtain ⟨dx, q, h1, h2⟩ := id hv
    have no : ∀ {m : Str}, (m == ("room" : Str)) = false → (m == ("first" : Str)) = false → (m == ("axes" : Str)) = false → (vF r 0 q).lookup m = none := vF_no r 0 q
    have hpos := prod_pos hg.pos
    have hgA := wAx_good hg
    refine ⟨_, (pss_cons (ps_if (PW.pt (pw_or (pt_not (pt_val (pe_callB call_isi (by rfl) T.z_isinstance (by decide +kernel) (pa_cons (pv 0) (pa_cons (pe_glob (v := .ref T.C) rfl T.gC rfl) pa_nil))))) (pw_or1 (pt_cmpR (op_neD hr.units) (pe_tup (pa_cons (pe_fld (pv 0) rfl) (pa_cons (pe_fld (pv 0) rfl) (pa_cons (pe_fld (pv 0) rfl) pa_nil)))) (pe_tup (pa_cons (pv 2) (pa_cons pe_int (pa_cons (pe_call (ok_lax T) (hr.mono (by decide)) rfl T.g_lax T.F_lax.kp T.b_lax .nil pass0 (pa_cons (pv 1) pa_nil)) pa_nil)))) (nomark _)))))
    (pss_one (ps_ret pe_bl))
    pss_nil)
    (pss_cons (ps_for PassesOwn.never rfl (pi_list (pe_lst (pa_cons pe_int (pa_cons (pe_op op_sub (pv 3) pe_int) (pa_cons (pe_op op_mod (pv 4) (pv 3)) (pa_cons (pe_op op_mod (pe_op op_fdiv (pv 4) pe_int) (pv 3)) pa_nil)))))) (pg_name (i := 5) sc_liw.nd rfl (Or.inl rfl))
    (pss_one (ps_if (pt_cmpR op_ne (pe_meth (pv 0) T.cl T.m_cat (ok_cat T) hr T.b_cat .nil pass0 (pa_cons (pv 5) pa_nil)) (pv 5) (nomark _))
      (pss_one (ps_ret pe_bl))
      pss_nil)))
    (pss_one (ps_ret (pe_or (pe_cmpR op_gt (pv 3) pe_int (nomark _)) (pe_one (pe_cmpR (op_eqD hr.units) (pe_meth0 (pv 0) T.cl T.m_ces (ok_ces T) (hr.mono (by decide)) T.b_ces .nil pass0) (pe_listRg rfl (by rfl) T.z_list (prg_1 (by rfl) T.z_range (pv 3))) (nomark _)))))))), ?_⟩
    refine ⟨_, rfl, _, _, _, _, _, rfl, .own _, .base (.ins h1 T.cl T.haC T.hnC T.htC T.hmC), T.kitC, _, rfl, ?_⟩
    refine ⟨_, rfl, v, T.C, dx, _, _, rfl, h1, T.cl, T.f_room, vF_room _ _ _, _, rfl, v, T.C, dx, _, _, rfl, h1, T.cl, T.f_first, vF_first _ _ _, _, rfl, v, T.C, dx, _, _, rfl, h1, T.cl, T.f_axes, vF_axes _ _ _, (by show 3 ≤ sizeLine; decide), fun t1 ht1 => ?_⟩
    have e1 : Same H (upd H t1 (.tup [V.int r, V.int 0, V.ref q])) := Same.upd ht1
    refine ⟨_, rfl, _, rfl, l, ns, rfl, e1.seq hS, hg, fun H2 q2 s2 hq2 => ⟨(by show 3 ≤ sizeLine; decide), fun t2 ht2 => ?_⟩⟩
    have e3 : Same H2 (upd H2 t2 (.tup [V.int r, V.int 0, V.ref q2])) := Same.upd ht2
    have s3 := (e1.trans s2).trans e3
    refine ⟨pdT r 0 (wAx ns), pdT r 0 (wAx ns), dpT (e3 _ _ (s2 _ _ upd_same)) (h2.same s3), dpT upd_same (hq2.same e3), shaped_T _ _ _, shaped_T _ _ _, _, rfl, iteNB (by rw [eqv_T]; exact decide_eq_true ⟨rfl, rfl, rfl⟩) ?_⟩
    generalize upd H2 t2 (.tup [V.int r, V.int 0, V.ref q2]) = H3 at s3
    have m1 := Int.emod_nonneg c (b := prod ns) (by omega)
    have m2 := Int.emod_lt_of_pos c (b := prod ns) (by omega)
    have m3 := Int.emod_nonneg (c / 7) (b := prod ns) (by omega)
    have m4 := Int.emod_lt_of_pos (c / 7) (b := prod ns) (by omega)
    refine ⟨_, rfl, _, _, rfl, rfl, _, rfl, _, rfl, _, _, rfl, rfl, (by omega), _, rfl, _, _, rfl, rfl, ⟨by decide, by decide⟩, _, rfl, _, _, rfl, rfl, (by omega), (by show 4 ≤ sizeLine; decide), fun p4 hp4 => ?_⟩
    refine ⟨p4, rfl, ⟨_, SqL.of upd_same⟩, ?_⟩
    have s4 : Same H3 (upd H3 p4 (.lst ([0, prod ns - 1, c % prod ns, c / 7 % prod ns].map V.int))) := Same.upd hp4
    refine for_list (K := K) (a := p4) (xs := [0, prod ns - 1, c % prod ns, c / 7 % prod ns].map V.int) (fun i σ H' => (∃ v5, σ = [some (.ref v), some (.ref l), some (.int r), some (.int (prod ns)), some (.int c), v5]) ∧ Same (upd H3 p4 (.lst ([0, prod ns - 1, c % prod ns, c / 7 % prod ns].map V.int))) H') ⟨⟨none, rfl⟩, Same.refl _⟩ (fun i σ H' _ z => SqL.of (z.2 _ _ upd_same)) ?_ ?_
    · rintro i y σ H' hi ⟨⟨v5, rfl⟩, sH⟩
      obtain ⟨n, hn, rfl⟩ := item_of hi
      have hb : 0 ≤ n ∧ n < prod ns := by
        have hm := List.mem_of_getElem? hn
        simp only [List.mem_cons, List.not_mem_nil, or_false] at hm
        rcases hm with rfl | rfl | rfl | rfl
        · exact ⟨Int.le_refl _, by omega⟩
        · exact ⟨by omega, by omega⟩
        · exact ⟨m1, m2⟩
        · exact ⟨m3, m4⟩
      have sA := (s3.trans s4).trans sH
      refine ⟨_, rfl, v, dx, _, rfl, sA _ _ h1, no (by decide +kernel) (by decide +kernel) (by decide +kernel), _, rfl, v, n, r, 0, wAx ns, rfl, hv.same sA, hgA, hb.1, by rw [wAx_fst]; exact hb.2, by rw [wAx_fst]; omega, fun H5 s5 => ⟨_, rfl, rfl, _, rfl, iteNS (congrArg V.int (cell_is hg hb.1 hb.2)) ?_⟩⟩
      exact ⟨⟨_, rfl⟩, sH.trans s5⟩
    · rintro σ H' ⟨⟨v5, rfl⟩, sH⟩
      have sA := (s3.trans s4).trans sH
      refine ⟨_, rfl, _, _, rfl, rfl, _, rfl, ite2 (fun _ => k _ sA) (fun c5 => ?_)⟩
      have c6 : ¬ 300 < prod ns := fun z => c5 (decide_eq_true z)
      refine ⟨_, rfl, v, dx, _, rfl, sA _ _ h1, no (by decide +kernel) (by decide +kernel) (by decide +kernel), v, r, 0, wAx ns, rfl, hv.same sA, hgA, by rw [wAx_fst]; omega, fun H5 p5 s5 hp5 => ?_⟩
      refine ⟨_, rfl, _, rfl, RgOk.of_le (Int.le_refl 0) (by omega) (by decide) (by omega), fun p6 hp6 => ?_⟩
      have e6 : Same H5 (upd H5 p6 (.lst (rgV 0 (prod ns)))) := Same.upd hp6
      have h6 : (upd H5 p6 (.lst (rgV 0 (prod ns)))) p6 = some (.lst ((cellsA (wAx ns) [0]).map V.int)) := by
        rw [upd_same, cells_w0 hg.pos, rg_ints (by omega)]
      refine ⟨pdI (cellsA (wAx ns) [0]), pdI (cellsA (wAx ns) [0]), dpI (SqL.of (e6 _ _ hp5)), dpI (SqL.of h6), shaped_I _, shaped_I _, ?_⟩
      rw [eqv_I, decide_eq_true rfl]
      exact k _ ((sA.trans s5).trans e6)
end
end G26
namespace G26
open PySem PySem.Spec PyProof.Rows L2
/-- a size of 1 with another pace -/
def bump (p : Int × Int) : Int × Int := (p.1, p.2 + 5 * (if decide (V.int p.1 = V.int 1) = true then 1 else 0))
theorem bump_keep (ax : List (Int × Int)) : keepA (ax.map bump) = keepA ax := by
  unfold keepA
  rw [List.map_map]
  refine List.map_congr_left fun p _ => ?_
  show keep1 (bump p) = keep1 p
  obtain ⟨s, q⟩ := p
  unfold keep1 bump
  by_cases c : s = 1
  · simp [c]
  · have c2 : ¬ V.int s = V.int 1 := fun z => c (V.int.inj z)
    simp [c, c2]
theorem bump_fst (ax : List (Int × Int)) : (ax.map bump).map (·.1) = ax.map (·.1) := by
  rw [List.map_map]
  rfl
theorem PartsOk.okV {r f : Int} {ax : List (Int × Int)} {m : Int} (h : PartsOk r f ax m) (hm : m ≤ 1000000000000000000) : OkV r f ax := by
  have h1 := h.r1
  have h2 := h.rm
  refine ⟨h1, by omega, ?_, ?_⟩
  · rw [h.kept]; exact h.lo
  · rw [h.kept]; exact h.hi
theorem PartsOk.okB {r f : Int} {ax : List (Int × Int)} {m : Int} (h : PartsOk r f ax m) (hm : m ≤ 1000000000000000000) : OkV r f (ax.map bump) := by
  have h1 := h.r1
  have h2 := h.rm
  refine ⟨h1, by omega, ?_, ?_⟩
  · rw [bump_keep, h.kept]; exact h.lo
  · rw [bump_keep, h.kept]; exact h.hi
theorem PartsOk.up {r f : Int} {ax : List (Int × Int)} {m n : Int} (h : PartsOk r f ax m) (hm : m ≤ n) : PartsOk r f ax n := ⟨h.good, h.kept, h.lo, h.hi, h.r1, Int.le_trans h.rm hm⟩
theorem kit_bb {K : PySem.W.Frag} : PySem.W.kitOne K (.type "bool") (.type "bool") = some true := kit_ty (by decide +kernel)
section
variable {P : Program} {w : World} {K : PySem.W.Frag} {mg : Str → Option Value} {base : Heap}
theorem ok_ali (T : Txt K mg) : FnOk P w K mg base CX0 6 T.a_ali T.d_ali p_ali sp_ali := by
  refine T.F_ali.ok sc_ali (fun vs H Q E h => ?_) (fun cdv A outer s H vs Q E hr h => ?_)
  · obtain ⟨t1, r1, f1, ax1, t2, r2, f2, ax2, rfl, _⟩ := h
    rfl
  · obtain ⟨t1, r1, f1, ax1, t2, r2, f2, ax2, rfl, ⟨l1, g1, A1⟩, o1, ⟨l2, g2, A2⟩, o2, k⟩ := h
    refine ⟨_, (pss_cons (ps_set (i := 2) sc_ali.nd rfl (Or.inl rfl) (pe_cmpR (op_eqD hr.units) (pv 0) (pv 1) (nomark _)))
    (pss_cons (ps_set (i := 3) sc_ali.nd rfl (Or.inl rfl) (pe_make T.mkC (ok_ini T) hr rfl T.gC T.b_ini .nil passL (pa_cons (pe_ix ix_tup (pv 0) pe_int (fun _ _ => rfl)) (pa_cons (pe_ix ix_tup (pv 0) pe_int (fun _ _ => rfl)) (pa_cons (pe_callTy call_list_of (by rfl) T.z_list (by decide +kernel) (pa_cons (pe_ix ix_tup (pv 0) pe_int (fun _ _ => rfl)) pa_nil)) pa_nil)))))
    (pss_cons (ps_set (i := 4) sc_ali.nd rfl (Or.inl rfl) (pe_make T.mkC (ok_ini T) hr rfl T.gC T.b_ini .nil passL (pa_cons (pe_ix ix_tup (pv 1) pe_int (fun _ _ => rfl)) (pa_cons (pe_ix ix_tup (pv 1) pe_int (fun _ _ => rfl)) (pa_cons (pe_lc (own := [("_law_size", 6), ("_law_pace", 7)]) (g := gTup K 2 (gCons (gName 6) (gCons (gName 7) gNil))) (tt := tYes) rfl sc_ali.nd (pi_list (pe_ix ix_tup (pv 1) pe_int (fun _ _ => rfl))) (blkOk_by (N := n_ali) (sc := defScope s_ali) (by decide +kernel)) (fun _ _ _ _ _ => (pg_tup rfl (pgs_cons (pg_name (i := 6) sc_ali.nd rfl (Or.inl rfl)) (pgs_cons (pg_name (i := 7) sc_ali.nd rfl (Or.inl rfl)) pgs_nil)))) (fun _ _ _ _ _ => pts_nil) (fun _ _ _ _ _ => (pe_tup (pa_cons (pv 6) (pa_cons (pe_op op_add (pv 7) (pe_op op_mul pe_int (pe_callTy call_int1 (by rfl) T.z_int (by decide +kernel) (pa_cons (pe_cmpR op_eq (pv 6) pe_int (nomark _)) pa_nil)))) pa_nil))))) pa_nil)))))
    (pss_cons (ps_for PassesOwn.never rfl (pi_list (pe_lst (pa_cons (pe_call (ok_sam T) (hr.mono (by decide)) rfl T.g_sam T.F_sam.kp T.b_sam .nil pass0 (pa_cons (pv 3) (pa_cons (pv 4) pa_nil))) (pa_cons (pe_call (ok_sam T) (hr.mono (by decide)) rfl T.g_sam T.F_sam.kp T.b_sam .nil pass0 (pa_cons (pv 4) (pa_cons (pv 3) pa_nil))) pa_nil)))) (pg_name (i := 5) sc_ali.nd rfl (Or.inl rfl))
    (pss_one (ps_if (PW.pt (pw_or (pt_not (pt_val (pe_callB call_isi (by rfl) T.z_isinstance (by decide +kernel) (pa_cons (pv 5) (pa_cons (pe_bltn (v := .ty "bool") (by rfl) T.z_bool (by decide +kernel) rfl) pa_nil))))) (pw_or1 (pt_cmpR op_ne (pv 5) (pv 2) (nomark _)))))
      (pss_one (ps_ret pe_bl))
      pss_nil)))
    (pss_one (ps_ret (pe_cmpR op_isBl (pe_call (ok_sam T) (hr.mono (by decide)) rfl T.g_sam T.F_sam.kp T.b_sam .nil pass0 (pa_cons (pv 3) (pa_cons (pv 3) pa_nil))) pe_bl (nomark _)))))))), ?_⟩
    refine ⟨_, rfl, _, rfl, pdT r1 f1 ax1, pdT r2 f2 ax2, dpT g1 A1, dpT g2 A2, shaped_T _ _ _, shaped_T _ _ _, ?_⟩
    generalize hd : PyData.eqv (pdT r1 f1 ax1) (pdT r2 f2 ax2) = due
    rw [eqv_T] at hd
    -- the one view
    obtain ⟨ts1, i1, j1⟩ := id A1
    refine ⟨_, rfl, t1, _, _, _, rfl, rfl, SqT.of g1, rfl, _, rfl, t1, _, _, _, rfl, rfl, SqT.of g1, rfl, _, rfl, t1, _, _, _, rfl, rfl, SqT.of g1, rfl, l1, _, rfl, .inl (SqL.of i1), fun c1 hc1 => ?_⟩
    have sc : Same H (upd H c1 (.lst (ts1.map V.ref))) := Same.upd hc1
    have Ac : Axs (upd H c1 (.lst (ts1.map V.ref))) c1 ax1 := ⟨ts1, upd_same, j1.same sc⟩
    generalize upd H c1 (.lst (ts1.map V.ref)) = H1 at sc Ac
    intro v dx hv hdx ne
    have hv2 : (upd H1 dx (.own v)) v = none := by rw [upd_ne ne.symm]; exact hv
    have s3 : Same H1 (upd (upd H1 dx (.own v)) v (.ins T.C dx [])) := (Same.upd hdx).trans (Same.upd hv2)
    refine ⟨v, dx, .int r1, true, f1, c1, ax1, rfl, upd_same, .int r1, Ac.same s3, o1.good, fun _ r er H2 k2 hV => ⟨rfl, ?_⟩, fun no => absurd ⟨r1, rfl, o1.okV (by decide)⟩ no⟩
    cases er
    rw [o1.kept] at hV
    have s2 : Same H H2 := sc.trans (Same.made hv hdx k2)
    -- the other one
    obtain ⟨ts2, i2, j2⟩ := A2.same s2
    have h2 := s2 _ _ g2
    refine ⟨_, rfl, t2, _, _, _, rfl, rfl, SqT.of h2, rfl, _, rfl, t2, _, _, _, rfl, rfl, SqT.of h2, rfl, _, rfl, t2, _, _, _, rfl, rfl, SqT.of h2, rfl, l2, rfl, ⟨_, SqL.of i2⟩, fun D hD => ?_⟩
    have hlen : ax2.length ≤ 8 := by
      have := o2.good.2
      rwa [List.length_map] at this
    refine lc_list (K := K) (a := l2) (xs := ts2.map V.ref) (fun i H' => Same H2 H' ∧ ∃ us : List Addr, H' D = some (.lst (us.map V.ref)) ∧ Prs H' us ((ax2.take i).map bump)) ⟨Same.upd hD, [], upd_same, rfl, fun j t p e1 e2 => by simp at e1⟩ (fun i H' _ p => p.1.seq (SqL.of i2)) ?_ ?_
    · rintro i y H' hi ⟨sH, us, hl, hP⟩
      obtain ⟨t, p, e1, e2, rfl, e3⟩ := item_ax j2 hi
      have hul : us.length < 8 := by
        have q1 := hP.1
        rw [List.length_map, List.length_take] at q1
        have := (List.getElem?_eq_some_iff.mp e2).1
        omega
      refine ⟨t, _, rfl, SqT.of (sH _ _ e3), rfl, _, _, rfl, _, _, rfl, rfl, rfl, ?_⟩
      have hm : CMul 5 (if decide (V.int p.1 = V.int 1) = true then 1 else 0) := .inr (by split <;> exact ⟨by decide, by decide⟩)
      refine ⟨_, rfl, _, rfl, _, rfl, rfl, .inr ⟨_, rfl, _, _, rfl, rfl, hm, _, _, rfl, rfl, (by show 2 ≤ sizeLine; decide), fun t3 ht3 => ?_⟩⟩
      have nD : D ≠ t3 := ne_of_none hl ht3
      have s5 : Same H' (upd H' t3 (.tup [V.int p.1, V.int (p.2 + 5 * if decide (V.int p.1 = V.int 1) = true then 1 else 0)])) := Same.upd ht3
      refine ⟨_, s5 _ _ hl, small8 (by rw [List.length_map]; omega), (sH.trans s5).updR hD, us ++ [t3], ?_, ?_⟩
      · rw [upd_same, List.map_append]
        rfl
      · rw [take_more e2, List.map_append]
        refine Prs.snoc (hP.same' ?_) ?_
        · intro b xs e
          have nb : b ≠ D := fun z => by rw [z, hl] at e; cases e
          rw [upd_ne nb]
          exact s5 _ _ e
        · rw [upd_ne nD.symm, upd_same]
          rfl
    · rintro H3 ⟨sH, us, hl, hP⟩
      rw [List.length_map, j2.1, List.take_length] at hP
      have Ab : Axs H3 D (ax2.map bump) := ⟨us, hl, hP⟩
      have hgb : GoodA (ax2.map bump) := by
        unfold GoodA
        rw [bump_fst]
        exact o2.good
      have hV3 := hV.same sH
      have sK := s2.trans sH
      intro v' dx' hv' hdx' ne'
      have hv2' : (upd H3 dx' (.own v')) v' = none := by rw [upd_ne ne'.symm]; exact hv'
      have s3' : Same H3 (upd (upd H3 dx' (.own v')) v' (.ins T.C dx' [])) := (Same.upd hdx').trans (Same.upd hv2')
      refine ⟨v', dx', .int r2, true, f2, D, ax2.map bump, rfl, upd_same, .int r2, Ab.same s3', hgb, fun _ r er H4 k4 hW => ⟨rfl, ?_⟩, fun no => absurd ⟨r2, rfl, o2.okB (by decide)⟩ no⟩
      cases er
      rw [bump_keep, o2.kept] at hW
      have s4 : Same H3 H4 := Same.made hv' hdx' k4
      have hV4 := hV3.same s4
      refine ⟨_, rfl, _, rfl, v, v', r1, f1, ax1, r2, f2, ax2, rfl, hV4, hW, ?_⟩
      refine ⟨_, rfl, _, rfl, v', v, r2, f2, ax2, r1, f1, ax1, rfl, hW, hV4, ?_⟩
      refine ⟨(by show 2 ≤ sizeLine; decide), fun q hq => ⟨q, rfl, ⟨_, SqL.of upd_same⟩, ?_⟩⟩
      have d1 : decide (r1 = r2 ∧ f1 = f2 ∧ ax1 = ax2) = due := hd
      have d2 : decide (r2 = r1 ∧ f2 = f1 ∧ ax2 = ax1) = due := by
        rw [← d1]
        exact decide_eq_decide.mpr ⟨fun ⟨a, b, c⟩ => ⟨a.symm, b.symm, c.symm⟩, fun ⟨a, b, c⟩ => ⟨a.symm, b.symm, c.symm⟩⟩
      rw [d1, d2]
      have s5 : Same H4 (upd H4 q (.lst [V.bl due, V.bl due])) := Same.upd hq
      refine for_list (K := K) (a := q) (xs := [V.bl due, V.bl due]) (fun i σ H' => (∃ v5 v6 v7, σ = [some (.ref t1), some (.ref t2), some (.bl due), some (.ref v), some (.ref v'), v5, v6, v7]) ∧ Same (upd H4 q (.lst [V.bl due, V.bl due])) H') ⟨⟨_, _, _, rfl⟩, Same.refl _⟩ (fun i σ H' _ z => SqL.of (z.2 _ _ upd_same)) ?_ ?_
      · rintro i y σ H' hi ⟨⟨v5, v6, v7, rfl⟩, sI⟩
        have hy : y = V.bl due := by
          have hm := List.mem_of_getElem? hi
          simp only [List.mem_cons, List.not_mem_nil, or_false, or_self] at hm
          exact hm
        subst hy
        refine ⟨_, rfl, _, _, _, _, _, rfl, .ty _, .base (.bl _), kit_bb, _, rfl, _, rfl, _, rfl, rfl, _, rfl, iteNS rfl ?_⟩
        exact ⟨⟨_, _, _, rfl⟩, sI⟩
      · rintro σ H' ⟨⟨v5, v6, v7, rfl⟩, sI⟩
        have hV5 := hV4.same (s5.trans sI)
        refine ⟨_, rfl, _, rfl, v, v, r1, f1, ax1, r1, f1, ax1, rfl, hV5, hV5, _, _, rfl, rfl, ?_⟩
        rw [decide_eq_true (show r1 = r1 ∧ f1 = f1 ∧ ax1 = ax1 from ⟨rfl, rfl, rfl⟩)]
        exact k _ (((sK.trans s4).trans s5).trans sI)
end
end G26
namespace G26
open PySem PySem.Spec PyProof.Rows L2
abbrev lev_law : Nat := 9
theorem pos63 : (0 : Int) < 10 ^ (60 : Int).toNat := by decide
section
variable {P : Program} {w : World} {K : PySem.W.Frag} {mg : Str → Option Value} {base : Heap}
theorem ok_law (T : Txt K mg) : FnOk P w K mg base CX0 lev_law T.a_law T.d_law p_law (sp_law K) := by
  refine T.F_law.ok sc_law (fun vs H Q E h => ?_) (fun cdv A outer s H vs Q E hr h => ?_)
  · obtain ⟨a, ns, rfl, _⟩ := h
    rfl
  · obtain ⟨a, ns, rfl, hS, hlen, k⟩ := h
    refine ⟨_, (pss_cons (ps_asg (pe_call (ok_lsi T) (hr.mono (by decide)) rfl T.g_lsi T.F_lsi.kp T.b_lsi .nil pass0 (pa_cons (pv 0) pa_nil)) (pg_tup rfl (pgs_cons (pg_name (i := 1) sc_law.nd rfl (Or.inl rfl)) (pgs_cons (pg_name (i := 2) sc_law.nd rfl (Or.inl rfl)) pgs_nil))))
    (pss_cons (ps_set (i := 3) sc_law.nd rfl (Or.inl rfl) (pe_call (ok_dra T) (hr.mono (by decide)) rfl T.g_dra T.F_dra.kp T.b_dra .nil pass0 (pa_cons (pv 0) (pa_cons pe_int (pa_cons (pe_op op_pow pe_int pe_int) pa_nil)))))
    (pss_cons (ps_set (i := 4) sc_law.nd rfl (Or.inl rfl) (pe_call (ok_roo T) (hr.mono (by decide)) rfl T.g_roo T.F_roo.kp T.b_roo .nil pass0 (pa_cons (pv 2) (pa_cons (pv 3) pa_nil))))
    (pss_cons (ps_set (i := 5) sc_law.nd rfl (Or.inl rfl) (pe_callTy call_list_of (by rfl) T.z_list (by decide +kernel) (pa_cons (pv 1) pa_nil)))
    (C8.pss_cut (ps_asg (pe_call (ok_tol T) (hr.mono (by decide)) rfl T.g_tol T.F_tol.kp T.b_tol .nil pass0 (pa_cons (pv 5) (pa_cons (pv 4) (pa_cons (pe_and (pe_cmpR op_eq (pe_op op_mod (pe_op op_fdiv (pv 3) pe_int) pe_int) pe_int (nomark _)) (pe_one (pe_cmpR op_isN (pv 4) pe_non (nomark _)))) pa_nil)))) (pg_tup rfl (pgs_cons (pg_name (i := 6) sc_law.nd rfl (Or.inl rfl)) (pgs_cons (pg_name (i := 7) sc_law.nd rfl (Or.inl rfl)) pgs_nil))))
    (C8.pss_cut (ps_if (pt_cmpR op_isN (pv 4) pe_non (nomark _))
    (pss_one (ps_set (i := 4) sc_law.nd rfl (Or.inl rfl) (pv 2)))
    pss_nil)
    (pss_cons (ps_if (pt_not (pt_val (pe_call (ok_odd T) hr rfl T.g_odd T.F_odd.kp T.b_odd .nil pass0 (pa_cons (pv 1) (pa_cons (pv 2) pa_nil)))))
    (pss_one (ps_ret pe_bl))
    pss_nil)
    (C8.pss_cut (ps_if (PW.pt (pw_or (pt_cmpR (op_neD hr.units) (pv 5) (pv 1) (nomark _)) (pw_or1 (pt_cmpR op_ne (pe_cmpR op_eq (pv 6) pe_str (nomark _)) (pe_or (pe_cmpR op_lt (pv 4) (pv 2) (nomark _)) (pe_one (pe_cmpR op_gt (pv 4) (pe_op op_pow pe_int pe_int) (nomark _)))) (nomark _)))))
    (pss_one (ps_ret pe_bl))
    pss_nil)
    (C8.pss_cut (ps_if (PW.pt (pw_and (pt_cmpR op_eq (pv 6) pe_str (nomark _)) (pw_and1 (pt_not (pt_val (pe_call (ok_liw T) (hr.mono (by decide)) rfl T.g_liw T.F_liw.kp T.b_liw .nil pass0 (pa_cons (pv 7) (pa_cons (pv 1) (pa_cons (pv 4) (pa_cons (pv 2) (pa_cons (pe_op op_fdiv (pv 3) pe_int) pa_nil)))))))))))
    (pss_one (ps_ret pe_bl))
    pss_nil)
    (pss_cons (ps_set (i := 8) sc_law.nd rfl (Or.inl rfl) (pe_call (ok_sma T) (hr.mono (by decide)) rfl T.g_sma T.F_sma.kp T.b_sma .nil pass0 (pa_cons (pv 0) (pa_cons pe_int pa_nil))))
    (pss_cons (ps_set (i := 9) sc_law.nd rfl (Or.inl rfl) (pe_call (ok_oth T) (hr.mono (by decide)) rfl T.g_oth T.F_oth.kp T.b_oth .nil pass0 (pa_cons (pv 8) (pa_cons (pe_call (ok_dra T) (hr.mono (by decide)) rfl T.g_dra T.F_dra.kp T.b_dra .nil pass0 (pa_cons (pv 0) (pa_cons pe_int (pa_cons (pe_op op_pow pe_int pe_int) pa_nil)))) pa_nil))))
    (pss_cons (ps_if (PW.pt (pw_or (pt_not (pt_val (pe_call (ok_ali T) (hr.mono (by decide)) rfl T.g_ali T.F_ali.kp T.b_ali .nil pass0 (pa_cons (pv 8) (pa_cons (pv 9) pa_nil))))) (pw_or1 (pt_not (pt_val (pe_call (ok_ali T) (hr.mono (by decide)) rfl T.g_ali T.F_ali.kp T.b_ali .nil pass0 (pa_cons (pv 8) (pa_cons (pe_call (ok_sma T) (hr.mono (by decide)) rfl T.g_sma T.F_sma.kp T.b_sma .nil pass0 (pa_cons (pv 0) (pa_cons pe_int pa_nil))) pa_nil))))))))
    (pss_one (ps_ret pe_bl))
    pss_nil)
    (pss_one (ps_ret (pe_call (ok_sam T) (hr.mono (by decide)) rfl T.g_sam T.F_sam.kp T.b_sam .nil pass0 (pa_cons (pe_call (ok_who T) (hr.mono (by decide)) rfl T.g_who T.F_who.kp T.b_who1 T.v_who passL (pa_cons (pe_lst pa_nil) pa_nil)) (pa_cons (pe_make T.mkC (ok_ini T) (hr.mono (by decide)) rfl T.gC T.b_ini .nil passL (pa_cons pe_int (pa_cons pe_int (pa_cons (pe_lst pa_nil) pa_nil)))) pa_nil))))))))))))))))), ?_⟩
    refine ⟨_, rfl, a, ns, rfl, hS, fun H1 t l ms s1 ht hl hg => ⟨t, _, rfl, SqT.of ht, rfl, _, _, rfl, _, _, rfl, rfl, ?_⟩⟩
    refine ⟨_, rfl, _, _, rfl, rfl, ⟨by decide, by decide, by decide⟩, a, ns, 10, _, rfl, s1.seq hS, by decide, by decide, pos63, fun c hc0 hc1 => ?_⟩
    clear hc1
    refine ⟨_, rfl, _, rfl, prod ms, c, rfl, fun H2 x s2 hx => ?_⟩
    have s12 := s1.trans s2
    refine ⟨_, rfl, l, _, rfl, .inl (SqL.of (s2 _ _ hl)), fun l2 hl2 => ?_⟩
    have e2 : Same H2 (upd H2 l2 (.lst (ms.map V.int))) := Same.upd hl2
    have s13 := s12.trans e2
    have g1 := e2 _ _ (s2 _ _ hl)
    have g2 : (upd H2 l2 (.lst (ms.map V.int))) l2 = some (.lst (ms.map V.int)) := upd_same
    generalize upd H2 l2 (.lst (ms.map V.int)) = H3 at *
    -- what is told
    let told : V → Hp → V → V → Prop := fun x H' wd fo => (∃ r v, effR x ms = .int r ∧ prod ms ≤ r ∧ r ≤ 1000000000000000000 ∧ ViewAt T.C H' v r 0 (wAx ms) ∧ wd = .str "told" ∧ fo = .ref v) ∨ ((¬ OkR x ms) ∧ wd = .str "view" ∧ fo = .non)
    have hxK : x = .non ∨ ∃ (b : Bool), Kn H3 x b := by
      rcases hx with rfl | ⟨i, rfl⟩
      · exact .inl rfl
      · exact .inr ⟨true, .int i⟩
    refine ⟨fun σ' H' => Same H3 H' ∧ ∃ wd fo, told x H' wd fo ∧ σ' = [some (.ref a), some (.ref l), some (.int (prod ms)), some (.int c), some x, some (.ref l2), some wd, some fo, none, none], ?_, ?_⟩
    · have tel : ∀ {r : Int}, OkR x ms → effR x ms = .int r → prod ms ≤ r ∧ r ≤ 1000000000000000000 := fun {r} ok er => by
        obtain ⟨r', er', b1, b2⟩ := ok
        rw [er] at er'
        cases er'
        exact ⟨b1, b2⟩
      have key : ∀ b : Bool, (b = true → x = .non) → (if b then V.non else x) = x := fun b hb => by
        cases b with
        | false => rfl
        | true => exact (hb rfl).symm
      refine ⟨_, rfl, _, rfl, _, rfl, _, _, rfl, rfl, ⟨by decide, by decide⟩, _, _, rfl, rfl, (by show (0 : Int) < 2; decide), rfl, _, rfl, ite2 (fun _ => ?_) (fun _ => ?_)⟩
      · refine ⟨_, rfl, rfl, ?_⟩
        have kb := key (decide (x = .non)) of_decide_eq_true
        refine ⟨l2, x, _, ms, rfl, SqL.of g2, hg, hxK, ?_, ?_⟩
        · rw [kb]
          exact fun ok r er H' t v s' ht hV => ⟨t, _, rfl, SqT.of ht, rfl, _, _, rfl, _, _, rfl, rfl, s', _, _, .inl ⟨r, v, er, (tel ok er).1, (tel ok er).2, hV, rfl, rfl⟩, rfl⟩
        · rw [kb]
          exact fun no H' t s' ht => ⟨t, _, rfl, SqT.of ht, rfl, _, _, rfl, _, _, rfl, rfl, s', _, _, .inr ⟨no, rfl, rfl⟩, rfl⟩
      · refine ⟨l2, x, false, ms, rfl, SqL.of g2, hg, hxK, ?_, ?_⟩
        · exact fun ok r er H' t v s' ht hV => ⟨t, _, rfl, SqT.of ht, rfl, _, _, rfl, _, _, rfl, rfl, s', _, _, .inl ⟨r, v, er, (tel ok er).1, (tel ok er).2, hV, rfl, rfl⟩, rfl⟩
        · exact fun no H' t s' ht => ⟨t, _, rfl, SqT.of ht, rfl, _, _, rfl, _, _, rfl, rfl, s', _, _, .inr ⟨no, rfl, rfl⟩, rfl⟩
    rintro σ1 H4 ⟨s4, wd, fo, hw, rfl⟩
    -- the room that is meant
    have hef : ∃ r, effR x ms = .int r := by
      rcases hx with rfl | ⟨i, rfl⟩
      · exact ⟨_, rfl⟩
      · exact ⟨i, rfl⟩
    obtain ⟨r, er⟩ := hef
    refine ⟨fun σ' H' => H4 = H' ∧ σ' = [some (.ref a), some (.ref l), some (.int (prod ms)), some (.int c), some (.int r), some (.ref l2), some wd, some fo, none, none], ?_, ?_⟩
    · rcases hx with rfl | ⟨i, rfl⟩
      · have e : prod ms = r := V.int.inj er
        subst e
        exact ⟨_, rfl, rfl, _, rfl, iteE rfl ⟨_, rfl, rfl, rfl⟩⟩
      · have e : i = r := V.int.inj er
        subst e
        exact ⟨_, rfl, rfl, _, rfl, iteD (fun z => by cases z) ⟨rfl, rfl⟩⟩
    rintro σ2 _ ⟨rfl, rfl⟩
    have tld : (∃ v, prod ms ≤ r ∧ r ≤ 1000000000000000000 ∧ ViewAt T.C H4 v r 0 (wAx ms) ∧ wd = .str "told" ∧ fo = .ref v) ∨ (¬ (prod ms ≤ r ∧ r ≤ 1000000000000000000) ∧ wd = .str "view" ∧ fo = .non) := by
      rcases hw with ⟨r', v, er', b1, b2, hV, e1, e2⟩ | ⟨no, e1, e2⟩
      · rw [er] at er'
        cases er'
        exact .inl ⟨v, b1, b2, hV, e1, e2⟩
      · exact .inr ⟨fun z => no ⟨r, er, z.1, z.2⟩, e1, e2⟩
    clear hw
    refine ⟨_, rfl, _, rfl, l, ms, rfl, SqL.of (s4 _ _ g1), hg, fun H5 s5 => ⟨_, rfl, ?_⟩⟩
    have s35 := s4.trans s5
    -- the two words
    refine ⟨fun σ' H' => H5 = H' ∧ σ' = [some (.ref a), some (.ref l), some (.int (prod ms)), some (.int c), some (.int r), some (.ref l2), some wd, some fo, none, none], ?_, ?_⟩
    · refine ⟨_, rfl, _, rfl, pdI ms, pdI ms, dpI (SqL.of (s35 _ _ g2)), dpI (SqL.of (s35 _ _ g1)), shaped_I _, shaped_I _, _, rfl, iteNB (by rw [eqv_I]; exact decide_eq_true rfl) ?_⟩
      have e18 : (10 : Int) ^ (18 : Int).toNat = 1000000000000000000 := by decide
      rcases tld with ⟨v, b1, b2, hV, rfl, rfl⟩ | ⟨no, rfl, rfl⟩
      · refine ⟨_, rfl, rfl, ?_⟩
        refine ⟨_, rfl, _, rfl, _, _, rfl, rfl, _, rfl, iteD (by omega) ?_⟩
        refine ⟨_, rfl, _, _, rfl, rfl, ⟨by decide, by decide, by decide⟩, _, _, rfl, rfl, ?_⟩
        have hgt : decide ((10 : Int) ^ (18 : Int).toNat < r) = false := decide_eq_false (by rw [e18]; omega)
        have hwd : decide (V.str "told" = V.str "view") = false := by decide +kernel
        exact ⟨rfl, _, rfl, iteNS (congrArg V.bl (hwd.trans hgt.symm)) ⟨rfl, rfl⟩⟩
      · have hwd : decide (V.str "view" = V.str "view") = true := decide_eq_true rfl
        refine ⟨_, rfl, rfl, ?_⟩
        refine ⟨_, rfl, _, rfl, _, _, rfl, rfl, _, rfl, ite2 (fun _ => ?_) (fun c1 => ?_)⟩
        · exact ⟨rfl, _, rfl, iteNS (congrArg V.bl hwd) ⟨rfl, rfl⟩⟩
        · have c2 : ¬ r < prod ms := fun z => c1 (decide_eq_true z)
          refine ⟨_, rfl, _, _, rfl, rfl, ⟨by decide, by decide, by decide⟩, _, _, rfl, rfl, ?_⟩
          have hgt : decide ((10 : Int) ^ (18 : Int).toNat < r) = true := decide_eq_true (by rw [e18]; omega)
          exact ⟨rfl, _, rfl, iteNS (congrArg V.bl (hwd.trans hgt.symm)) ⟨rfl, rfl⟩⟩
    rintro σ3 _ ⟨rfl, rfl⟩
    -- a view is the whole
    refine ⟨fun σ' H' => Same H5 H' ∧ σ' = [some (.ref a), some (.ref l), some (.int (prod ms)), some (.int c), some (.int r), some (.ref l2), some wd, some fo, none, none], ?_, ?_⟩
    · rcases tld with ⟨v, b1, b2, hV, rfl, rfl⟩ | ⟨no, rfl, rfl⟩
      · refine ⟨_, rfl, rfl, _, rfl, ?_⟩
        refine iteE rfl ?_
        refine ⟨_, rfl, _, rfl, _, rfl, _, rfl, _, rfl, _, _, rfl, rfl, ⟨by decide, by decide⟩, v, l, r, ms, _, rfl, SqL.of (s35 _ _ g1), hg, hV.same s5, b1, b2, fun H6 s6 => ⟨_, rfl, s6, rfl⟩⟩
      · refine ⟨_, rfl, rfl, _, rfl, ?_⟩
        exact iteD (fun z => by cases z) ⟨Same.refl _, rfl⟩
    rintro σ4 H6 ⟨s6, rfl⟩
    have s16 := (s13.trans s35).trans s6
    -- the small views
    refine ⟨_, rfl, a, ns, 11, rfl, s16.seq hS, by decide, by decide, fun H7 t1 r1 f1 ax1 s7 hp1 ok1 => ?_⟩
    have s17 := s16.trans s7
    refine ⟨_, rfl, _, rfl, _, _, rfl, rfl, ⟨by decide, by decide, by decide⟩, a, ns, 20, _, rfl, s17.seq hS, by decide, by decide, (by decide), fun c2 _ _ => ?_⟩
    refine ⟨t1, r1, f1, ax1, c2, rfl, hp1, ok1, fun H8 t2 r2 f2 ax2 s8 hp2 ok2 => ?_⟩
    have s18 := s17.trans s8
    refine ⟨_, rfl, _, rfl, t1, r1, f1, ax1, t2, r2, f2, ax2, rfl, hp1.same s8, ok1.up (by decide), hp2, ok2, fun H9 s9 => ⟨_, rfl, ?_⟩⟩
    have s19 := s18.trans s9
    refine ⟨_, rfl, _, rfl, a, ns, 21, rfl, s19.seq hS, by decide, by decide, fun H10 t3 r3 f3 ax3 s10 hp3 ok3 => ?_⟩
    refine ⟨t1, r1, f1, ax1, t3, r3, f3, ax3, rfl, hp1.same ((s8.trans s9).trans s10), ok1.up (by decide), hp3, ok3.up (by decide), fun H11 s11 => ⟨_, rfl, ?_⟩⟩
    -- the whole of no sizes
    refine ⟨Nat.zero_le _, fun q hq => ?_⟩
    refine ⟨q, .non, [], rfl, SqL.of upd_same, ⟨fun n hn => by simp at hn, by decide⟩, .inl rfl, fun ok r0 er0 H12 v s12 hV => ?_, fun no => absurd ⟨1, rfl, by decide, by decide⟩ no⟩
    have e0 : (1 : Int) = r0 := V.int.inj er0
    subst e0
    refine ⟨Nat.zero_le _, fun q2 hq2 => ?_⟩
    have s13' : Same H12 (upd H12 q2 (.lst [])) := Same.upd hq2
    have h13 : (upd H12 q2 (.lst [])) q2 = some (.lst []) := upd_same
    generalize upd H12 q2 (.lst []) = H13 at *
    intro v' dx' hv' hdx' ne'
    have hv2' : (upd H13 dx' (.own v')) v' = none := by rw [upd_ne ne'.symm]; exact hv'
    have s3' : Same H13 (upd (upd H13 dx' (.own v')) v' (.ins T.C dx' [])) := (Same.upd hdx').trans (Same.upd hv2')
    refine ⟨v', dx', .int 1, true, 0, q2, [], rfl, upd_same, .int 1, ⟨[], s3' _ _ h13, rfl, fun j t p e1 e2 => by simp at e1⟩, ⟨fun n hn => by simp at hn, by decide⟩, fun _ r9 er9 H14 k14 hW => ⟨rfl, ?_⟩, fun no => absurd ⟨1, rfl, by decide, by decide, by decide, by decide⟩ no⟩
    cases er9
    have s14 : Same H13 H14 := Same.made hv' hdx' k14
    refine ⟨v, v', 1, 0, [], 1, 0, [], rfl, hV.same (s13'.trans s14), hW, ?_⟩
    exact k _
end
end G26
namespace G26
open PySem PySem.Spec PyProof.Rows L2
theorem all_mk {w : World} {K : PySem.W.Frag} {h : Heap} {mg : Str → Option Value} {fa C N TW f_isw f_cnt f_pac f_nee f_num f_pla f_axi f_kep f_sam f_dra f_lpa f_flo f_sma f_lsi f_roo f_odd f_tol f_lax f_liw f_oth f_ali f_law f_ini f_siz f_vpa f_vco f_cel f_cat f_ces f_lea f_gre f_who : Addr} (X : K.In h) (G : h.Ns mainGlobals mg) (hfa : mg "law" = some (.ref fa))
    {od_isw an_isw od_cnt an_cnt od_pac an_pac od_nee an_nee od_num an_num od_pla an_pla od_axi an_axi od_kep an_kep od_sam an_sam od_dra an_dra od_lpa an_lpa od_flo an_flo od_sma an_sma od_lsi an_lsi od_roo an_roo od_odd an_odd od_tol an_tol od_lax an_lax od_liw an_liw od_oth an_oth od_ali an_ali od_law an_law od_ini an_ini od_siz an_siz od_vpa an_vpa od_vco an_vco od_cel an_cel od_cat an_cat od_ces an_ces od_lea an_lea od_gre an_gre od_who an_who odTW : Option Addr} {sl_isw sl_cnt sl_pac sl_nee sl_num sl_pla sl_axi sl_kep sl_sam sl_dra sl_lpa sl_flo sl_sma sl_lsi sl_roo sl_odd sl_tol sl_lax sl_liw sl_oth sl_ali sl_law sl_ini sl_siz sl_vpa sl_vco sl_cel sl_cat sl_ces sl_lea sl_gre sl_who slTW : Array (Option Value)} {oc_isw kV_isw dc_isw pm_isw cd_isw ct_isw oc_cnt kV_cnt dc_cnt pm_cnt cd_cnt ct_cnt oc_pac kV_pac dc_pac pm_pac cd_pac ct_pac oc_nee kV_nee dc_nee pm_nee cd_nee ct_nee oc_num kV_num dc_num pm_num cd_num ct_num oc_pla kV_pla dc_pla pm_pla cd_pla ct_pla oc_axi kV_axi dc_axi pm_axi cd_axi ct_axi oc_kep kV_kep dc_kep pm_kep cd_kep ct_kep oc_sam kV_sam dc_sam pm_sam cd_sam ct_sam oc_dra kV_dra dc_dra pm_dra cd_dra ct_dra oc_lpa kV_lpa dc_lpa pm_lpa cd_lpa ct_lpa oc_flo kV_flo dc_flo pm_flo cd_flo ct_flo oc_sma kV_sma dc_sma pm_sma cd_sma ct_sma oc_lsi kV_lsi dc_lsi pm_lsi cd_lsi ct_lsi oc_roo kV_roo dc_roo pm_roo cd_roo ct_roo oc_odd kV_odd dc_odd pm_odd cd_odd ct_odd oc_tol kV_tol dc_tol pm_tol cd_tol ct_tol oc_lax kV_lax dc_lax pm_lax cd_lax ct_lax oc_liw kV_liw dc_liw pm_liw cd_liw ct_liw oc_oth kV_oth dc_oth pm_oth cd_oth ct_oth oc_ali kV_ali dc_ali pm_ali cd_ali ct_ali oc_law kV_law dc_law pm_law cd_law ct_law oc_ini kV_ini dc_ini pm_ini cd_ini ct_ini oc_siz kV_siz dc_siz pm_siz cd_siz ct_siz oc_vpa kV_vpa dc_vpa pm_vpa cd_vpa ct_vpa oc_vco kV_vco dc_vco pm_vco cd_vco ct_vco oc_cel kV_cel dc_cel pm_cel cd_cel ct_cel oc_cat kV_cat dc_cat pm_cat cd_cat ct_cat oc_ces kV_ces dc_ces pm_ces cd_ces ct_ces oc_lea kV_lea dc_lea pm_lea cd_lea ct_lea oc_gre kV_gre dc_gre pm_gre cd_gre ct_gre oc_who kV_who dc_who pm_who cd_who ct_who ocTW : Value} {t_MOST t_MOST_ROOM t_MOST_AXES t_MOST_SIZE : Tok}
    (aC : PySem.W.nsIn K mainGlobals "View" = some (some (.ref C)))
    (aN : PySem.W.nsIn K mainGlobals "NoView" = some (some (.ref N)))
    (a_isw : PySem.W.nsIn K mainGlobals "is_whole" = some (some (.ref f_isw)))
    (l_isw : K.lookup f_isw = some ⟨oc_isw, od_isw, .func (PySem.W.fnOf "is_whole" "is_whole" (defArgs s_isw) (defBody s_isw) (defScope s_isw) .none kV_isw dc_isw pm_isw an_isw cd_isw ct_isw), sl_isw⟩)
    (c_isw : PySem.W.codeIn K cd_isw "is_whole" = true)
    (k_isw : PySem.W.keepIn K (.ref f_isw) = true)
    (a_cnt : PySem.W.nsIn K mainGlobals "count_of" = some (some (.ref f_cnt)))
    (l_cnt : K.lookup f_cnt = some ⟨oc_cnt, od_cnt, .func (PySem.W.fnOf "count_of" "count_of" (defArgs s_cnt) (defBody s_cnt) (defScope s_cnt) .none kV_cnt dc_cnt pm_cnt an_cnt cd_cnt ct_cnt), sl_cnt⟩)
    (c_cnt : PySem.W.codeIn K cd_cnt "count_of" = true)
    (k_cnt : PySem.W.keepIn K (.ref f_cnt) = true)
    (a_pac : PySem.W.nsIn K mainGlobals "paces_of" = some (some (.ref f_pac)))
    (l_pac : K.lookup f_pac = some ⟨oc_pac, od_pac, .func (PySem.W.fnOf "paces_of" "paces_of" (defArgs s_pac) (defBody s_pac) (defScope s_pac) .none kV_pac dc_pac pm_pac an_pac cd_pac ct_pac), sl_pac⟩)
    (c_pac : PySem.W.codeIn K cd_pac "paces_of" = true)
    (k_pac : PySem.W.keepIn K (.ref f_pac) = true)
    (a_nee : PySem.W.nsIn K mainGlobals "need_place" = some (some (.ref f_nee)))
    (l_nee : K.lookup f_nee = some ⟨oc_nee, od_nee, .func (PySem.W.fnOf "need_place" "need_place" (defArgs s_nee) (defBody s_nee) (defScope s_nee) .none kV_nee dc_nee pm_nee an_nee cd_nee ct_nee), sl_nee⟩)
    (c_nee : PySem.W.codeIn K cd_nee "need_place" = true)
    (k_nee : PySem.W.keepIn K (.ref f_nee) = true)
    (a_num : PySem.W.nsIn K mainGlobals "number_of" = some (some (.ref f_num)))
    (l_num : K.lookup f_num = some ⟨oc_num, od_num, .func (PySem.W.fnOf "number_of" "number_of" (defArgs s_num) (defBody s_num) (defScope s_num) .none kV_num dc_num pm_num an_num cd_num ct_num), sl_num⟩)
    (c_num : PySem.W.codeIn K cd_num "number_of" = true)
    (k_num : PySem.W.keepIn K (.ref f_num) = true)
    (a_pla : PySem.W.nsIn K mainGlobals "place_at" = some (some (.ref f_pla)))
    (l_pla : K.lookup f_pla = some ⟨oc_pla, od_pla, .func (PySem.W.fnOf "place_at" "place_at" (defArgs s_pla) (defBody s_pla) (defScope s_pla) .none kV_pla dc_pla pm_pla an_pla cd_pla ct_pla), sl_pla⟩)
    (c_pla : PySem.W.codeIn K cd_pla "place_at" = true)
    (k_pla : PySem.W.keepIn K (.ref f_pla) = true)
    (a_axi : PySem.W.nsIn K mainGlobals "is_axis" = some (some (.ref f_axi)))
    (l_axi : K.lookup f_axi = some ⟨oc_axi, od_axi, .func (PySem.W.fnOf "is_axis" "is_axis" (defArgs s_axi) (defBody s_axi) (defScope s_axi) .none kV_axi dc_axi pm_axi an_axi cd_axi ct_axi), sl_axi⟩)
    (c_axi : PySem.W.codeIn K cd_axi "is_axis" = true)
    (k_axi : PySem.W.keepIn K (.ref f_axi) = true)
    (a_kep : PySem.W.nsIn K mainGlobals "kept_axes" = some (some (.ref f_kep)))
    (l_kep : K.lookup f_kep = some ⟨oc_kep, od_kep, .func (PySem.W.fnOf "kept_axes" "kept_axes" (defArgs s_kep) (defBody s_kep) (defScope s_kep) .none kV_kep dc_kep pm_kep an_kep cd_kep ct_kep), sl_kep⟩)
    (c_kep : PySem.W.codeIn K cd_kep "kept_axes" = true)
    (k_kep : PySem.W.keepIn K (.ref f_kep) = true)
    (a_sam : PySem.W.nsIn K mainGlobals "same_view" = some (some (.ref f_sam)))
    (l_sam : K.lookup f_sam = some ⟨oc_sam, od_sam, .func (PySem.W.fnOf "same_view" "same_view" (defArgs s_sam) (defBody s_sam) (defScope s_sam) .none kV_sam dc_sam pm_sam an_sam cd_sam ct_sam), sl_sam⟩)
    (c_sam : PySem.W.codeIn K cd_sam "same_view" = true)
    (k_sam : PySem.W.keepIn K (.ref f_sam) = true)
    (a_dra : PySem.W.nsIn K mainGlobals "_law_draw" = some (some (.ref f_dra)))
    (l_dra : K.lookup f_dra = some ⟨oc_dra, od_dra, .func (PySem.W.fnOf "_law_draw" "_law_draw" (defArgs s_dra) (defBody s_dra) (defScope s_dra) .none kV_dra dc_dra pm_dra an_dra cd_dra ct_dra), sl_dra⟩)
    (c_dra : PySem.W.codeIn K cd_dra "_law_draw" = true)
    (k_dra : PySem.W.keepIn K (.ref f_dra) = true)
    (a_lpa : PySem.W.nsIn K mainGlobals "_law_paces" = some (some (.ref f_lpa)))
    (l_lpa : K.lookup f_lpa = some ⟨oc_lpa, od_lpa, .func (PySem.W.fnOf "_law_paces" "_law_paces" (defArgs s_lpa) (defBody s_lpa) (defScope s_lpa) .none kV_lpa dc_lpa pm_lpa an_lpa cd_lpa ct_lpa), sl_lpa⟩)
    (c_lpa : PySem.W.codeIn K cd_lpa "_law_paces" = true)
    (k_lpa : PySem.W.keepIn K (.ref f_lpa) = true)
    (a_flo : PySem.W.nsIn K mainGlobals "_law_floor" = some (some (.ref f_flo)))
    (l_flo : K.lookup f_flo = some ⟨oc_flo, od_flo, .func (PySem.W.fnOf "_law_floor" "_law_floor" (defArgs s_flo) (defBody s_flo) (defScope s_flo) .none kV_flo dc_flo pm_flo an_flo cd_flo ct_flo), sl_flo⟩)
    (c_flo : PySem.W.codeIn K cd_flo "_law_floor" = true)
    (k_flo : PySem.W.keepIn K (.ref f_flo) = true)
    (a_sma : PySem.W.nsIn K mainGlobals "_law_small" = some (some (.ref f_sma)))
    (l_sma : K.lookup f_sma = some ⟨oc_sma, od_sma, .func (PySem.W.fnOf "_law_small" "_law_small" (defArgs s_sma) (defBody s_sma) (defScope s_sma) .none kV_sma dc_sma pm_sma an_sma cd_sma ct_sma), sl_sma⟩)
    (c_sma : PySem.W.codeIn K cd_sma "_law_small" = true)
    (k_sma : PySem.W.keepIn K (.ref f_sma) = true)
    (a_lsi : PySem.W.nsIn K mainGlobals "_law_sizes" = some (some (.ref f_lsi)))
    (l_lsi : K.lookup f_lsi = some ⟨oc_lsi, od_lsi, .func (PySem.W.fnOf "_law_sizes" "_law_sizes" (defArgs s_lsi) (defBody s_lsi) (defScope s_lsi) .none kV_lsi dc_lsi pm_lsi an_lsi cd_lsi ct_lsi), sl_lsi⟩)
    (c_lsi : PySem.W.codeIn K cd_lsi "_law_sizes" = true)
    (k_lsi : PySem.W.keepIn K (.ref f_lsi) = true)
    (a_roo : PySem.W.nsIn K mainGlobals "_law_room" = some (some (.ref f_roo)))
    (l_roo : K.lookup f_roo = some ⟨oc_roo, od_roo, .func (PySem.W.fnOf "_law_room" "_law_room" (defArgs s_roo) (defBody s_roo) (defScope s_roo) .none kV_roo dc_roo pm_roo an_roo cd_roo ct_roo), sl_roo⟩)
    (c_roo : PySem.W.codeIn K cd_roo "_law_room" = true)
    (k_roo : PySem.W.keepIn K (.ref f_roo) = true)
    (a_odd : PySem.W.nsIn K mainGlobals "_law_odd_rooms" = some (some (.ref f_odd)))
    (l_odd : K.lookup f_odd = some ⟨oc_odd, od_odd, .func (PySem.W.fnOf "_law_odd_rooms" "_law_odd_rooms" (defArgs s_odd) (defBody s_odd) (defScope s_odd) .none kV_odd dc_odd pm_odd an_odd cd_odd ct_odd), sl_odd⟩)
    (c_odd : PySem.W.codeIn K cd_odd "_law_odd_rooms" = true)
    (k_odd : PySem.W.keepIn K (.ref f_odd) = true)
    (a_tol : PySem.W.nsIn K mainGlobals "_law_told" = some (some (.ref f_tol)))
    (l_tol : K.lookup f_tol = some ⟨oc_tol, od_tol, .func (PySem.W.fnOf "_law_told" "_law_told" (defArgs s_tol) (defBody s_tol) (defScope s_tol) .none kV_tol dc_tol pm_tol an_tol cd_tol ct_tol), sl_tol⟩)
    (c_tol : PySem.W.codeIn K cd_tol "_law_told" = true)
    (k_tol : PySem.W.keepIn K (.ref f_tol) = true)
    (a_lax : PySem.W.nsIn K mainGlobals "_law_axes" = some (some (.ref f_lax)))
    (l_lax : K.lookup f_lax = some ⟨oc_lax, od_lax, .func (PySem.W.fnOf "_law_axes" "_law_axes" (defArgs s_lax) (defBody s_lax) (defScope s_lax) .none kV_lax dc_lax pm_lax an_lax cd_lax ct_lax), sl_lax⟩)
    (c_lax : PySem.W.codeIn K cd_lax "_law_axes" = true)
    (k_lax : PySem.W.keepIn K (.ref f_lax) = true)
    (a_liw : PySem.W.nsIn K mainGlobals "_law_is_whole" = some (some (.ref f_liw)))
    (l_liw : K.lookup f_liw = some ⟨oc_liw, od_liw, .func (PySem.W.fnOf "_law_is_whole" "_law_is_whole" (defArgs s_liw) (defBody s_liw) (defScope s_liw) .none kV_liw dc_liw pm_liw an_liw cd_liw ct_liw), sl_liw⟩)
    (c_liw : PySem.W.codeIn K cd_liw "_law_is_whole" = true)
    (k_liw : PySem.W.keepIn K (.ref f_liw) = true)
    (a_oth : PySem.W.nsIn K mainGlobals "_law_other" = some (some (.ref f_oth)))
    (l_oth : K.lookup f_oth = some ⟨oc_oth, od_oth, .func (PySem.W.fnOf "_law_other" "_law_other" (defArgs s_oth) (defBody s_oth) (defScope s_oth) .none kV_oth dc_oth pm_oth an_oth cd_oth ct_oth), sl_oth⟩)
    (c_oth : PySem.W.codeIn K cd_oth "_law_other" = true)
    (k_oth : PySem.W.keepIn K (.ref f_oth) = true)
    (a_ali : PySem.W.nsIn K mainGlobals "_law_alike" = some (some (.ref f_ali)))
    (l_ali : K.lookup f_ali = some ⟨oc_ali, od_ali, .func (PySem.W.fnOf "_law_alike" "_law_alike" (defArgs s_ali) (defBody s_ali) (defScope s_ali) .none kV_ali dc_ali pm_ali an_ali cd_ali ct_ali), sl_ali⟩)
    (c_ali : PySem.W.codeIn K cd_ali "_law_alike" = true)
    (k_ali : PySem.W.keepIn K (.ref f_ali) = true)
    (a_law : PySem.W.nsIn K mainGlobals "law" = some (some (.ref f_law)))
    (l_law : K.lookup f_law = some ⟨oc_law, od_law, .func (PySem.W.fnOf "law" "law" (defArgs s_law) (defBody s_law) (defScope s_law) .none kV_law dc_law pm_law an_law cd_law ct_law), sl_law⟩)
    (c_law : PySem.W.codeIn K cd_law "law" = true)
    (k_law : PySem.W.keepIn K (.ref f_law) = true)
    (a_ini : PySem.W.findIn K (.ref C) "__init__" = some (some (.ref f_ini)))
    (i_ini : PySem.W.isFn K (.ref f_ini) = true)
    (l_ini : K.lookup f_ini = some ⟨oc_ini, od_ini, .func (PySem.W.fnOf "__init__" "View.__init__" (defArgs s_ini) (defBody s_ini) (defScope s_ini) .none kV_ini dc_ini pm_ini an_ini cd_ini ct_ini), sl_ini⟩)
    (c_ini : PySem.W.codeIn K cd_ini "View.__init__" = true)
    (k_ini : PySem.W.keepIn K (.ref f_ini) = true)
    (a_siz : PySem.W.findIn K (.ref C) "sizes" = some (some (.ref f_siz)))
    (i_siz : PySem.W.isFn K (.ref f_siz) = true)
    (l_siz : K.lookup f_siz = some ⟨oc_siz, od_siz, .func (PySem.W.fnOf "sizes" "View.sizes" (defArgs s_siz) (defBody s_siz) (defScope s_siz) .none kV_siz dc_siz pm_siz an_siz cd_siz ct_siz), sl_siz⟩)
    (c_siz : PySem.W.codeIn K cd_siz "View.sizes" = true)
    (k_siz : PySem.W.keepIn K (.ref f_siz) = true)
    (a_vpa : PySem.W.findIn K (.ref C) "paces" = some (some (.ref f_vpa)))
    (i_vpa : PySem.W.isFn K (.ref f_vpa) = true)
    (l_vpa : K.lookup f_vpa = some ⟨oc_vpa, od_vpa, .func (PySem.W.fnOf "paces" "View.paces" (defArgs s_vpa) (defBody s_vpa) (defScope s_vpa) .none kV_vpa dc_vpa pm_vpa an_vpa cd_vpa ct_vpa), sl_vpa⟩)
    (c_vpa : PySem.W.codeIn K cd_vpa "View.paces" = true)
    (k_vpa : PySem.W.keepIn K (.ref f_vpa) = true)
    (a_vco : PySem.W.findIn K (.ref C) "count" = some (some (.ref f_vco)))
    (i_vco : PySem.W.isFn K (.ref f_vco) = true)
    (l_vco : K.lookup f_vco = some ⟨oc_vco, od_vco, .func (PySem.W.fnOf "count" "View.count" (defArgs s_vco) (defBody s_vco) (defScope s_vco) .none kV_vco dc_vco pm_vco an_vco cd_vco ct_vco), sl_vco⟩)
    (c_vco : PySem.W.codeIn K cd_vco "View.count" = true)
    (k_vco : PySem.W.keepIn K (.ref f_vco) = true)
    (a_cel : PySem.W.findIn K (.ref C) "cell" = some (some (.ref f_cel)))
    (i_cel : PySem.W.isFn K (.ref f_cel) = true)
    (l_cel : K.lookup f_cel = some ⟨oc_cel, od_cel, .func (PySem.W.fnOf "cell" "View.cell" (defArgs s_cel) (defBody s_cel) (defScope s_cel) .none kV_cel dc_cel pm_cel an_cel cd_cel ct_cel), sl_cel⟩)
    (c_cel : PySem.W.codeIn K cd_cel "View.cell" = true)
    (k_cel : PySem.W.keepIn K (.ref f_cel) = true)
    (a_cat : PySem.W.findIn K (.ref C) "cell_at" = some (some (.ref f_cat)))
    (i_cat : PySem.W.isFn K (.ref f_cat) = true)
    (l_cat : K.lookup f_cat = some ⟨oc_cat, od_cat, .func (PySem.W.fnOf "cell_at" "View.cell_at" (defArgs s_cat) (defBody s_cat) (defScope s_cat) .none kV_cat dc_cat pm_cat an_cat cd_cat ct_cat), sl_cat⟩)
    (c_cat : PySem.W.codeIn K cd_cat "View.cell_at" = true)
    (k_cat : PySem.W.keepIn K (.ref f_cat) = true)
    (a_ces : PySem.W.findIn K (.ref C) "cells" = some (some (.ref f_ces)))
    (i_ces : PySem.W.isFn K (.ref f_ces) = true)
    (l_ces : K.lookup f_ces = some ⟨oc_ces, od_ces, .func (PySem.W.fnOf "cells" "View.cells" (defArgs s_ces) (defBody s_ces) (defScope s_ces) .none kV_ces dc_ces pm_ces an_ces cd_ces ct_ces), sl_ces⟩)
    (c_ces : PySem.W.codeIn K cd_ces "View.cells" = true)
    (k_ces : PySem.W.keepIn K (.ref f_ces) = true)
    (a_lea : PySem.W.findIn K (.ref C) "least" = some (some (.ref f_lea)))
    (i_lea : PySem.W.isFn K (.ref f_lea) = true)
    (l_lea : K.lookup f_lea = some ⟨oc_lea, od_lea, .func (PySem.W.fnOf "least" "View.least" (defArgs s_lea) (defBody s_lea) (defScope s_lea) .none kV_lea dc_lea pm_lea an_lea cd_lea ct_lea), sl_lea⟩)
    (c_lea : PySem.W.codeIn K cd_lea "View.least" = true)
    (k_lea : PySem.W.keepIn K (.ref f_lea) = true)
    (a_gre : PySem.W.findIn K (.ref C) "greatest" = some (some (.ref f_gre)))
    (i_gre : PySem.W.isFn K (.ref f_gre) = true)
    (l_gre : K.lookup f_gre = some ⟨oc_gre, od_gre, .func (PySem.W.fnOf "greatest" "View.greatest" (defArgs s_gre) (defBody s_gre) (defScope s_gre) .none kV_gre dc_gre pm_gre an_gre cd_gre ct_gre), sl_gre⟩)
    (c_gre : PySem.W.codeIn K cd_gre "View.greatest" = true)
    (k_gre : PySem.W.keepIn K (.ref f_gre) = true)
    (a_who : PySem.W.nsIn K mainGlobals "whole" = some (some (.ref f_who)))
    (l_who : K.lookup f_who = some ⟨oc_who, od_who, .func (PySem.W.fnOf "whole" "whole" (defArgs s_who) (defBody s_who) (defScope s_who) (.ref TW) kV_who dc_who pm_who an_who cd_who ct_who), sl_who⟩)
    (c_who : PySem.W.codeIn K cd_who "whole" = true)
    (k_who : PySem.W.keepIn K (.ref f_who) = true)
    (lTW : K.lookup TW = some ⟨ocTW, odTW, .seq [Value.none].toArray 0, slTW⟩)
    (pgC : PySem.W.plainGet K C Str.empty = true)
    (hdC : PySem.W.hasDictIn K C = true)
    (poC : PySem.W.plainOver K C = true)
    (saC : PySem.W.findIn K (.ref C) "__setattr__" = some (some (.builtin "object.__setattr__")))
    (mkC : PySem.W.makesIn K C = true)
    (kcC : PySem.W.keepIn K (.ref C) = true)
    (n_room : PySem.W.findIn K (.ref C) "room" = some none)
    (n_first : PySem.W.findIn K (.ref C) "first" = some none)
    (n_axes : PySem.W.findIn K (.ref C) "axes" = some none)
    (haC : PySem.W.findIn K (.ref C) "__class__" = some (some (.builtin "object.__class__")))
    (hnC : PySem.W.specialIn K (.builtin "object.__class__") "__get__" = some (some (.builtin "getset_descriptor.__get__")))
    (htC : PySem.W.takesIn K (.builtin "object.__class__") = some true)
    (hmC : PySem.W.mroIn K C (.type "object") = some true)
    (kitC : PySem.W.kitOne K (.ref C) (.ref C) = some true)
    (xN : PySem.W.excIn K N [.type "ValueError", .type "Exception", .type "BaseException", .type "object"] "ValueError.__new__" = true)
    (kN : PySem.W.keepIn K (.ref N) = true)
    (bN : PySem.W.subIn K (.ref N) (.type "BaseException") = some true)
    (tN : PySem.W.typeIn K (.ref N) = some (.type "type"))
    (iN : PySem.W.isClsIn K N = true)
    (sN : PySem.W.subIn K (.ref N) (.ref N) = some true)
    (c_MOST : PySem.W.nsIn K mainGlobals "MOST" = some (some (.int 4096 t_MOST)))
    (c_MOST_ROOM : PySem.W.nsIn K mainGlobals "MOST_ROOM" = some (some (.int 1000000000000000000 t_MOST_ROOM)))
    (c_MOST_AXES : PySem.W.nsIn K mainGlobals "MOST_AXES" = some (some (.int 8 t_MOST_AXES)))
    (c_MOST_SIZE : PySem.W.nsIn K mainGlobals "MOST_SIZE" = some (some (.int 1000000000 t_MOST_SIZE)))
    (z_isinstance : PySem.W.nsIn K mainGlobals "isinstance" = some none)
    (z_int : PySem.W.nsIn K mainGlobals "int" = some none)
    (z_bool : PySem.W.nsIn K mainGlobals "bool" = some none)
    (z_tuple : PySem.W.nsIn K mainGlobals "tuple" = some none)
    (z_list : PySem.W.nsIn K mainGlobals "list" = some none)
    (z_len : PySem.W.nsIn K mainGlobals "len" = some none)
    (z_zip : PySem.W.nsIn K mainGlobals "zip" = some none)
    (z_sum : PySem.W.nsIn K mainGlobals "sum" = some none)
    (z_reversed : PySem.W.nsIn K mainGlobals "reversed" = some none)
    (z_divmod : PySem.W.nsIn K mainGlobals "divmod" = some none)
    (z_range : PySem.W.nsIn K mainGlobals "range" = some none)
    (z_min : PySem.W.nsIn K mainGlobals "min" = some none)
    (z_max : PySem.W.nsIn K mainGlobals "max" = some none)
    (z_str : PySem.W.nsIn K mainGlobals "str" = some none)
    : ∃ fd : FuncData, (∀ (s : Shared) (v : Value), BindsTo s fd ⟨[v], []⟩ [("_law_script", v)]) ∧ ∀ base : Heap, K.In base → base.Ns mainGlobals mg → FnOk PySem.Challenge.pw_pacehall_k26_wholes w K mg base CX0 lev_law fa fd ["_law_script"] (sp_law K) := by
  have e := hfa.symm.trans (PySem.W.mg_of X G a_law)
  cases e
  have F_isw := fun_mk (st := s_isw) l_isw c_isw k_isw
  have b_isw := F_isw.binds (ps := p_isw) fun _ _ _ _ _ _ us hl => match us, hl with | [_], _ => rfl
  have F_cnt := fun_mk (st := s_cnt) l_cnt c_cnt k_cnt
  have b_cnt := F_cnt.binds (ps := p_cnt) fun _ _ _ _ _ _ us hl => match us, hl with | [_], _ => rfl
  have F_pac := fun_mk (st := s_pac) l_pac c_pac k_pac
  have b_pac := F_pac.binds (ps := p_pac) fun _ _ _ _ _ _ us hl => match us, hl with | [_], _ => rfl
  have F_nee := fun_mk (st := s_nee) l_nee c_nee k_nee
  have b_nee := F_nee.binds (ps := p_nee) fun _ _ _ _ _ _ us hl => match us, hl with | [_, _], _ => rfl
  have F_num := fun_mk (st := s_num) l_num c_num k_num
  have b_num := F_num.binds (ps := p_num) fun _ _ _ _ _ _ us hl => match us, hl with | [_, _], _ => rfl
  have F_pla := fun_mk (st := s_pla) l_pla c_pla k_pla
  have b_pla := F_pla.binds (ps := p_pla) fun _ _ _ _ _ _ us hl => match us, hl with | [_, _], _ => rfl
  have F_axi := fun_mk (st := s_axi) l_axi c_axi k_axi
  have b_axi := F_axi.binds (ps := p_axi) fun _ _ _ _ _ _ us hl => match us, hl with | [_], _ => rfl
  have F_kep := fun_mk (st := s_kep) l_kep c_kep k_kep
  have b_kep := F_kep.binds (ps := p_kep) fun _ _ _ _ _ _ us hl => match us, hl with | [_], _ => rfl
  have F_sam := fun_mk (st := s_sam) l_sam c_sam k_sam
  have b_sam := F_sam.binds (ps := p_sam) fun _ _ _ _ _ _ us hl => match us, hl with | [_, _], _ => rfl
  have F_dra := fun_mk (st := s_dra) l_dra c_dra k_dra
  have b_dra := F_dra.binds (ps := p_dra) fun _ _ _ _ _ _ us hl => match us, hl with | [_, _, _], _ => rfl
  have F_lpa := fun_mk (st := s_lpa) l_lpa c_lpa k_lpa
  have b_lpa := F_lpa.binds (ps := p_lpa) fun _ _ _ _ _ _ us hl => match us, hl with | [_, _, _], _ => rfl
  have F_flo := fun_mk (st := s_flo) l_flo c_flo k_flo
  have b_flo := F_flo.binds (ps := p_flo) fun _ _ _ _ _ _ us hl => match us, hl with | [_, _, _], _ => rfl
  have F_sma := fun_mk (st := s_sma) l_sma c_sma k_sma
  have b_sma := F_sma.binds (ps := p_sma) fun _ _ _ _ _ _ us hl => match us, hl with | [_, _], _ => rfl
  have F_lsi := fun_mk (st := s_lsi) l_lsi c_lsi k_lsi
  have b_lsi := F_lsi.binds (ps := p_lsi) fun _ _ _ _ _ _ us hl => match us, hl with | [_], _ => rfl
  have F_roo := fun_mk (st := s_roo) l_roo c_roo k_roo
  have b_roo := F_roo.binds (ps := p_roo) fun _ _ _ _ _ _ us hl => match us, hl with | [_, _], _ => rfl
  have F_odd := fun_mk (st := s_odd) l_odd c_odd k_odd
  have b_odd := F_odd.binds (ps := p_odd) fun _ _ _ _ _ _ us hl => match us, hl with | [_, _], _ => rfl
  have F_tol := fun_mk (st := s_tol) l_tol c_tol k_tol
  have b_tol := F_tol.binds (ps := p_tol) fun _ _ _ _ _ _ us hl => match us, hl with | [_, _, _], _ => rfl
  have F_lax := fun_mk (st := s_lax) l_lax c_lax k_lax
  have b_lax := F_lax.binds (ps := p_lax) fun _ _ _ _ _ _ us hl => match us, hl with | [_], _ => rfl
  have F_liw := fun_mk (st := s_liw) l_liw c_liw k_liw
  have b_liw := F_liw.binds (ps := p_liw) fun _ _ _ _ _ _ us hl => match us, hl with | [_, _, _, _, _], _ => rfl
  have F_oth := fun_mk (st := s_oth) l_oth c_oth k_oth
  have b_oth := F_oth.binds (ps := p_oth) fun _ _ _ _ _ _ us hl => match us, hl with | [_, _], _ => rfl
  have F_ali := fun_mk (st := s_ali) l_ali c_ali k_ali
  have b_ali := F_ali.binds (ps := p_ali) fun _ _ _ _ _ _ us hl => match us, hl with | [_, _], _ => rfl
  have F_law := fun_mk (st := s_law) l_law c_law k_law
  have b_law := F_law.binds (ps := p_law) fun _ _ _ _ _ _ us hl => match us, hl with | [_], _ => rfl
  have F_ini := fun_mk (st := s_ini) l_ini c_ini k_ini
  have b_ini := F_ini.binds (ps := p_ini) fun _ _ _ _ _ _ us hl => match us, hl with | [_, _, _, _], _ => rfl
  have F_siz := fun_mk (st := s_siz) l_siz c_siz k_siz
  have b_siz := F_siz.binds (ps := p_siz) fun _ _ _ _ _ _ us hl => match us, hl with | [_], _ => rfl
  have F_vpa := fun_mk (st := s_vpa) l_vpa c_vpa k_vpa
  have b_vpa := F_vpa.binds (ps := p_vpa) fun _ _ _ _ _ _ us hl => match us, hl with | [_], _ => rfl
  have F_vco := fun_mk (st := s_vco) l_vco c_vco k_vco
  have b_vco := F_vco.binds (ps := p_vco) fun _ _ _ _ _ _ us hl => match us, hl with | [_], _ => rfl
  have F_cel := fun_mk (st := s_cel) l_cel c_cel k_cel
  have b_cel := F_cel.binds (ps := p_cel) fun _ _ _ _ _ _ us hl => match us, hl with | [_, _], _ => rfl
  have F_cat := fun_mk (st := s_cat) l_cat c_cat k_cat
  have b_cat := F_cat.binds (ps := p_cat) fun _ _ _ _ _ _ us hl => match us, hl with | [_, _], _ => rfl
  have F_ces := fun_mk (st := s_ces) l_ces c_ces k_ces
  have b_ces := F_ces.binds (ps := p_ces) fun _ _ _ _ _ _ us hl => match us, hl with | [_], _ => rfl
  have F_lea := fun_mk (st := s_lea) l_lea c_lea k_lea
  have b_lea := F_lea.binds (ps := p_lea) fun _ _ _ _ _ _ us hl => match us, hl with | [_], _ => rfl
  have F_gre := fun_mk (st := s_gre) l_gre c_gre k_gre
  have b_gre := F_gre.binds (ps := p_gre) fun _ _ _ _ _ _ us hl => match us, hl with | [_], _ => rfl
  have F_who : FunD K "whole" "whole" (defArgs s_who) (defBody s_who) (defScope s_who) [V.non] [] f_who _ := ⟨⟨_, _, _, _, _, _, _, _, _, _, rfl, l_who, c_who, .inr ⟨by simp, TW, _, _, _, rfl, lTW, rfl, .cons rfl .nil⟩, .inl rfl⟩, k_who⟩
  obtain ⟨ds1, v1, b1⟩ := F_who.binds1 (ps := p_who) 1 0 (by simp) rfl fun T kV doc pm an cdv ct us its h1 h2 => match us, h1, its, h2 with | [a], _, [b], _ => ⟨_, rfl, rfl⟩
  obtain ⟨ds2, v2, b2⟩ := F_who.binds1 (ps := p_who) 2 1 (by simp) rfl fun T kV doc pm an cdv ct us its h1 h2 => match us, h1, its, h2 with | [a, a'], _, [b], _ => ⟨_, rfl, rfl⟩
  cases v2
  let T : Txt K mg :=
    { a_isw := _, d_isw := _, F_isw := F_isw, b_isw := b_isw, g_isw := PySem.W.mg_of X G a_isw,
      a_cnt := _, d_cnt := _, F_cnt := F_cnt, b_cnt := b_cnt, g_cnt := PySem.W.mg_of X G a_cnt,
      a_pac := _, d_pac := _, F_pac := F_pac, b_pac := b_pac, g_pac := PySem.W.mg_of X G a_pac,
      a_nee := _, d_nee := _, F_nee := F_nee, b_nee := b_nee, g_nee := PySem.W.mg_of X G a_nee,
      a_num := _, d_num := _, F_num := F_num, b_num := b_num, g_num := PySem.W.mg_of X G a_num,
      a_pla := _, d_pla := _, F_pla := F_pla, b_pla := b_pla, g_pla := PySem.W.mg_of X G a_pla,
      a_axi := _, d_axi := _, F_axi := F_axi, b_axi := b_axi, g_axi := PySem.W.mg_of X G a_axi,
      a_kep := _, d_kep := _, F_kep := F_kep, b_kep := b_kep, g_kep := PySem.W.mg_of X G a_kep,
      a_sam := _, d_sam := _, F_sam := F_sam, b_sam := b_sam, g_sam := PySem.W.mg_of X G a_sam,
      a_dra := _, d_dra := _, F_dra := F_dra, b_dra := b_dra, g_dra := PySem.W.mg_of X G a_dra,
      a_lpa := _, d_lpa := _, F_lpa := F_lpa, b_lpa := b_lpa, g_lpa := PySem.W.mg_of X G a_lpa,
      a_flo := _, d_flo := _, F_flo := F_flo, b_flo := b_flo, g_flo := PySem.W.mg_of X G a_flo,
      a_sma := _, d_sma := _, F_sma := F_sma, b_sma := b_sma, g_sma := PySem.W.mg_of X G a_sma,
      a_lsi := _, d_lsi := _, F_lsi := F_lsi, b_lsi := b_lsi, g_lsi := PySem.W.mg_of X G a_lsi,
      a_roo := _, d_roo := _, F_roo := F_roo, b_roo := b_roo, g_roo := PySem.W.mg_of X G a_roo,
      a_odd := _, d_odd := _, F_odd := F_odd, b_odd := b_odd, g_odd := PySem.W.mg_of X G a_odd,
      a_tol := _, d_tol := _, F_tol := F_tol, b_tol := b_tol, g_tol := PySem.W.mg_of X G a_tol,
      a_lax := _, d_lax := _, F_lax := F_lax, b_lax := b_lax, g_lax := PySem.W.mg_of X G a_lax,
      a_liw := _, d_liw := _, F_liw := F_liw, b_liw := b_liw, g_liw := PySem.W.mg_of X G a_liw,
      a_oth := _, d_oth := _, F_oth := F_oth, b_oth := b_oth, g_oth := PySem.W.mg_of X G a_oth,
      a_ali := _, d_ali := _, F_ali := F_ali, b_ali := b_ali, g_ali := PySem.W.mg_of X G a_ali,
      a_law := _, d_law := _, F_law := F_law, b_law := b_law, g_law := PySem.W.mg_of X G a_law,
      a_ini := _, d_ini := _, F_ini := F_ini, b_ini := b_ini,
      a_siz := _, d_siz := _, F_siz := F_siz, b_siz := b_siz,
      a_vpa := _, d_vpa := _, F_vpa := F_vpa, b_vpa := b_vpa,
      a_vco := _, d_vco := _, F_vco := F_vco, b_vco := b_vco,
      a_cel := _, d_cel := _, F_cel := F_cel, b_cel := b_cel,
      a_cat := _, d_cat := _, F_cat := F_cat, b_cat := b_cat,
      a_ces := _, d_ces := _, F_ces := F_ces, b_ces := b_ces,
      a_lea := _, d_lea := _, F_lea := F_lea, b_lea := b_lea,
      a_gre := _, d_gre := _, F_gre := F_gre, b_gre := b_gre,
      a_who := f_who, d_who := _, F_who := F_who, ds_who := ds1, v_who := v1, b_who1 := b1, b_who2 := b2, g_who := PySem.W.mg_of X G a_who,
      C := C, N := N, gC := PySem.W.mg_of X G aC, cl := ⟨pgC, hdC, poC, saC⟩, mkC := ⟨mkC, a_ini, i_ini, kcC⟩,
      m_siz := ⟨a_siz, i_siz, k_siz⟩,
      m_vpa := ⟨a_vpa, i_vpa, k_vpa⟩,
      m_vco := ⟨a_vco, i_vco, k_vco⟩,
      m_cel := ⟨a_cel, i_cel, k_cel⟩,
      m_cat := ⟨a_cat, i_cat, k_cat⟩,
      m_ces := ⟨a_ces, i_ces, k_ces⟩,
      m_lea := ⟨a_lea, i_lea, k_lea⟩,
      m_gre := ⟨a_gre, i_gre, k_gre⟩,
      f_room := n_room,
      f_first := n_first,
      f_axes := n_axes,
      haC := haC, hnC := hnC, htC := htC, hmC := hmC, kitC := kitC,
      gN := PySem.W.mg_of X G aN, xN := xN, kN := kN, bN := bN, tN := tN, eN := exm_self bN iN tN sN,
      g_MOST := ⟨_, PySem.W.mg_of X G c_MOST⟩,
      g_MOST_ROOM := ⟨_, PySem.W.mg_of X G c_MOST_ROOM⟩,
      g_MOST_AXES := ⟨_, PySem.W.mg_of X G c_MOST_AXES⟩,
      g_MOST_SIZE := ⟨_, PySem.W.mg_of X G c_MOST_SIZE⟩,
      z_isinstance := PySem.W.mg_none_of X G z_isinstance,
      z_int := PySem.W.mg_none_of X G z_int,
      z_bool := PySem.W.mg_none_of X G z_bool,
      z_tuple := PySem.W.mg_none_of X G z_tuple,
      z_list := PySem.W.mg_none_of X G z_list,
      z_len := PySem.W.mg_none_of X G z_len,
      z_zip := PySem.W.mg_none_of X G z_zip,
      z_sum := PySem.W.mg_none_of X G z_sum,
      z_reversed := PySem.W.mg_none_of X G z_reversed,
      z_divmod := PySem.W.mg_none_of X G z_divmod,
      z_range := PySem.W.mg_none_of X G z_range,
      z_min := PySem.W.mg_none_of X G z_min,
      z_max := PySem.W.mg_none_of X G z_max,
      z_str := PySem.W.mg_none_of X G z_str }
  exact ⟨_, fun s v => .of_eq rfl, fun base _ _ => ok_law T⟩
end G26
open PySem PySem.W PyProof.Rows
set_option maxRecDepth 100000 in
set_option maxHeartbeats 0 in
theorem PySem.Challenge.cw_pacehall_k26_wholes_holds : PySem.Challenge.rw_pacehall_k26_wholes.Holds := by
  w_on; o_law; k_headL; (case hw => w_witness2)
  k_fill
  refine L2.walk_ofK (l := PySem.Challenge.rw_pacehall_k26_wholes) (n := 63) (k := G26.lev_law) (x := "_law_script") (CX := L2.CX0) (sp := G26.sp_law) rfl (by decide) rfl ⟨rfl, by decide, by decide⟩ (fun w h Y => PySem.W.kIn_of Y) ?F (fun _ _ a ns hl _ hS => G26.law_end hl hS) fun _ _ _ _ z => z
  case F =>
    intro w mg fa h KX G hmg
    refine' G26.all_mk KX G hmg ?aC ?aN ?a_isw ?l_isw ?c_isw ?k_isw ?a_cnt ?l_cnt ?c_cnt ?k_cnt ?a_pac ?l_pac ?c_pac ?k_pac ?a_nee ?l_nee ?c_nee ?k_nee ?a_num ?l_num ?c_num ?k_num ?a_pla ?l_pla ?c_pla ?k_pla ?a_axi ?l_axi ?c_axi ?k_axi ?a_kep ?l_kep ?c_kep ?k_kep ?a_sam ?l_sam ?c_sam ?k_sam ?a_dra ?l_dra ?c_dra ?k_dra ?a_lpa ?l_lpa ?c_lpa ?k_lpa ?a_flo ?l_flo ?c_flo ?k_flo ?a_sma ?l_sma ?c_sma ?k_sma ?a_lsi ?l_lsi ?c_lsi ?k_lsi ?a_roo ?l_roo ?c_roo ?k_roo ?a_odd ?l_odd ?c_odd ?k_odd ?a_tol ?l_tol ?c_tol ?k_tol ?a_lax ?l_lax ?c_lax ?k_lax ?a_liw ?l_liw ?c_liw ?k_liw ?a_oth ?l_oth ?c_oth ?k_oth ?a_ali ?l_ali ?c_ali ?k_ali ?a_law ?l_law ?c_law ?k_law ?a_ini ?i_ini ?l_ini ?c_ini ?k_ini ?a_siz ?i_siz ?l_siz ?c_siz ?k_siz ?a_vpa ?i_vpa ?l_vpa ?c_vpa ?k_vpa ?a_vco ?i_vco ?l_vco ?c_vco ?k_vco ?a_cel ?i_cel ?l_cel ?c_cel ?k_cel ?a_cat ?i_cat ?l_cat ?c_cat ?k_cat ?a_ces ?i_ces ?l_ces ?c_ces ?k_ces ?a_lea ?i_lea ?l_lea ?c_lea ?k_lea ?a_gre ?i_gre ?l_gre ?c_gre ?k_gre ?a_who ?l_who ?c_who ?k_who ?lTW ?pgC ?hdC ?poC ?saC ?mkC ?kcC ?n_room ?n_first ?n_axes ?haC ?hnC ?htC ?hmC ?kitC ?xN ?kN ?bN ?tN ?iN ?sN ?c_MOST ?c_MOST_ROOM ?c_MOST_AXES ?c_MOST_SIZE ?z_isinstance ?z_int ?z_bool ?z_tuple ?z_list ?z_len ?z_zip ?z_sum ?z_reversed ?z_divmod ?z_range ?z_min ?z_max ?z_str
    (case aC => k_is)
    (case aN => k_is)
    (case a_isw => k_is)
    (case l_isw => k_is)
    (case c_isw => k_is)
    (case k_isw => k_is)
    (case a_cnt => k_is)
    (case l_cnt => k_is)
    (case c_cnt => k_is)
    (case k_cnt => k_is)
    (case a_pac => k_is)
    (case l_pac => k_is)
    (case c_pac => k_is)
    (case k_pac => k_is)
    (case a_nee => k_is)
    (case l_nee => k_is)
    (case c_nee => k_is)
    (case k_nee => k_is)
    (case a_num => k_is)
    (case l_num => k_is)
    (case c_num => k_is)
    (case k_num => k_is)
    (case a_pla => k_is)
    (case l_pla => k_is)
    (case c_pla => k_is)
    (case k_pla => k_is)
    (case a_axi => k_is)
    (case l_axi => k_is)
    (case c_axi => k_is)
    (case k_axi => k_is)
    (case a_kep => k_is)
    (case l_kep => k_is)
    (case c_kep => k_is)
    (case k_kep => k_is)
    (case a_sam => k_is)
    (case l_sam => k_is)
    (case c_sam => k_is)
    (case k_sam => k_is)
    (case a_dra => k_is)
    (case l_dra => k_is)
    (case c_dra => k_is)
    (case k_dra => k_is)
    (case a_lpa => k_is)
    (case l_lpa => k_is)
    (case c_lpa => k_is)
    (case k_lpa => k_is)
    (case a_flo => k_is)
    (case l_flo => k_is)
    (case c_flo => k_is)
    (case k_flo => k_is)
    (case a_sma => k_is)
    (case l_sma => k_is)
    (case c_sma => k_is)
    (case k_sma => k_is)
    (case a_lsi => k_is)
    (case l_lsi => k_is)
    (case c_lsi => k_is)
    (case k_lsi => k_is)
    (case a_roo => k_is)
    (case l_roo => k_is)
    (case c_roo => k_is)
    (case k_roo => k_is)
    (case a_odd => k_is)
    (case l_odd => k_is)
    (case c_odd => k_is)
    (case k_odd => k_is)
    (case a_tol => k_is)
    (case l_tol => k_is)
    (case c_tol => k_is)
    (case k_tol => k_is)
    (case a_lax => k_is)
    (case l_lax => k_is)
    (case c_lax => k_is)
    (case k_lax => k_is)
    (case a_liw => k_is)
    (case l_liw => k_is)
    (case c_liw => k_is)
    (case k_liw => k_is)
    (case a_oth => k_is)
    (case l_oth => k_is)
    (case c_oth => k_is)
    (case k_oth => k_is)
    (case a_ali => k_is)
    (case l_ali => k_is)
    (case c_ali => k_is)
    (case k_ali => k_is)
    (case a_law => k_is)
    (case l_law => k_is)
    (case c_law => k_is)
    (case k_law => k_is)
    (case a_ini => k_is)
    (case i_ini => k_is)
    (case l_ini => k_is)
    (case c_ini => k_is)
    (case k_ini => k_is)
    (case a_siz => k_is)
    (case i_siz => k_is)
    (case l_siz => k_is)
    (case c_siz => k_is)
    (case k_siz => k_is)
    (case a_vpa => k_is)
    (case i_vpa => k_is)
    (case l_vpa => k_is)
    (case c_vpa => k_is)
    (case k_vpa => k_is)
    (case a_vco => k_is)
    (case i_vco => k_is)
    (case l_vco => k_is)
    (case c_vco => k_is)
    (case k_vco => k_is)
    (case a_cel => k_is)
    (case i_cel => k_is)
    (case l_cel => k_is)
    (case c_cel => k_is)
    (case k_cel => k_is)
    (case a_cat => k_is)
    (case i_cat => k_is)
    (case l_cat => k_is)
    (case c_cat => k_is)
    (case k_cat => k_is)
    (case a_ces => k_is)
    (case i_ces => k_is)
    (case l_ces => k_is)
    (case c_ces => k_is)
    (case k_ces => k_is)
    (case a_lea => k_is)
    (case i_lea => k_is)
    (case l_lea => k_is)
    (case c_lea => k_is)
    (case k_lea => k_is)
    (case a_gre => k_is)
    (case i_gre => k_is)
    (case l_gre => k_is)
    (case c_gre => k_is)
    (case k_gre => k_is)
    (case a_who => k_is)
    (case l_who => k_is)
    (case c_who => k_is)
    (case k_who => k_is)
    (case lTW => k_is)
    (case pgC => k_is)
    (case hdC => k_is)
    (case poC => k_is)
    (case saC => k_is)
    (case mkC => k_is)
    (case kcC => k_is)
    (case n_room => k_is)
    (case n_first => k_is)
    (case n_axes => k_is)
    (case haC => k_is)
    (case hnC => k_is)
    (case htC => k_is)
    (case hmC => k_is)
    (case kitC => first | rfl | k_is)
    (case xN => k_exc)
    (case kN => k_is)
    (case bN => k_is)
    (case tN => k_is)
    (case iN => k_is)
    (case sN => first | rfl | k_is)
    (case c_MOST => k_is)
    (case c_MOST_ROOM => k_is)
    (case c_MOST_AXES => k_is)
    (case c_MOST_SIZE => k_is)
    (case z_isinstance => k_is)
    (case z_int => k_is)
    (case z_bool => k_is)
    (case z_tuple => k_is)
    (case z_list => k_is)
    (case z_len => k_is)
    (case z_zip => k_is)
    (case z_sum => k_is)
    (case z_reversed => k_is)
    (case z_divmod => k_is)
    (case z_range => k_is)
    (case z_min => k_is)
    (case z_max => k_is)
    (case z_str => k_is)
