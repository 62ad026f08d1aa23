import PyProof.Rows.All
import Wide.All
import OpenK.AllK
import Wide.FinOn
import KE.KDictItemsList
import HandS.ForMost
import PyProof.EqAt
import PyProof.EqKinds
import PyProof.EnumMake
import HandS.Exc
import HandS.Conv
import HandS.Evl
import HandS.IsInst
import HandS.Style
import HandS.TupAny
import HandS.Defaults
import HandS.HeadHook4
import HandS.Walk
import HandS.More
import KE.KExcInit
import KE.KExcIs
import HandS.ExcOwn
import HandS.ExcInit
import HandS.ExcValue
import HandS.Head0
import HandS.Head1
import HandS.Head2
import HandS.HeadEnd
import HandS.HeadHook1
import HandS.HeadHook2
import HandS.HeadHook3
import PySem.Challenge.RW_finallycopies_k05_error_classes_and_inte
set_option Elab.async false
set_option linter.all false
set_option maxRecDepth 100000
set_option maxHeartbeats 4000000
/-! list(enumerate(xs)): the pairs of a list, in order -/
namespace FcE
open PySem PySem.W PySem.Calls PyProof.Rows PyProof.V PySem.Spec

/-- an enumerate object behind a pair that it gave out and that still lives at a -/
def EnB (h : Heap) (e it a : Addr) (f : Bool) (i : Int) (item : Value) : Prop :=
  h.get? e = some { cls := .type "enumerate", dict := none, data := .fields #[rawInt a, .bool f, .ref it, rawInt i, .none, item], slots := #[] }

section
variable {prog : Program} {w : World} {A : Around} {E : Value → Shared → Prop} {s : Shared}
theorem enB_next {e it l a : Addr} {f : Bool} {oa : Obj} {i : Nat} {items : Array Value} {x item : Value} {Q : Option Value → Shared → Prop}
    (he : EnB s.heap e it a f i item) (ha : s.heap.get? a = some oa) (hae : a ≠ e) (hai : a ≠ it) (hit : s.heap.IsListIter it l i) (hl : s.heap.IsList l items) (hx : items[i]? = some x) (hne : e ≠ it)
    (hQ : ∀ h', EnB h' e it a true ((i : Int) + 1) item → h'.IsListIter it l (i + 1) →
      h'.get? s.heap.objs.size = some { cls := .type "tuple", data := .seq #[.int i s.toks, x] } → h'.objs.size = s.heap.objs.size + 1 →
      (∀ b o, b ≠ e → b ≠ it → s.heap.get? b = some o → h'.get? b = some o) → Q (some (.ref s.heap.objs.size)) { s with heap := h', toks := s.toks + 1 }) :
    wpAny (model prog w) A (pyNext (.ref e)) Q E s := by
  obtain ⟨hp, g, d, tk, os⟩ := s
  have hT : Shared.TypeIs ⟨hp, g, d, tk, os⟩ (.ref e) "enumerate" := ⟨_, he, rfl⟩
  unfold pyNext
  refine wpAny_bind (wpAny_attempt (wpAny_callSpecial?_slot (name := Str.ofString "__next__") hT F.slot_enumerate_next
    (wpAny_call_entry F.slot_enumerate_next hT F.entry_enumerate_next ?_ (F.args_enumerate_next_1 _))))
  show wpAny _ _ (field (.ref e) 2 >>= _) _ _ _
  refine wpAny_bind (wpAny_field he rfl (x := .ref it) rfl ?_)
  refine wpAny_bind (wpAny_nextOf_list_item hit hl hx fun h1 hit1 hs1 => ?_)
  replace hs1 : Heap.SameBut it hp h1 := hs1
  have he1 : EnB h1 e it a f i item := (hs1.2 e hne).trans he
  show wpAny _ _ (field (.ref e) 3 >>= _) _ _ ⟨h1, g, d, tk, os⟩
  refine wpAny_bind (wpAny_field he1 rfl (x := rawInt i) rfl ?_)
  show wpAny _ _ (field (.ref e) 4 >>= _) _ _ ⟨h1, g, d, tk, os⟩
  refine wpAny_bind (wpAny_field he1 rfl (x := .none) rfl ?_)
  show wpAny _ _ (mkInt i >>= _) _ _ ⟨h1, g, d, tk, os⟩
  refine wpAny_bind (wpAny_mkInt ?_)
  show wpAny _ _ (setField (.ref e) 3 (rawInt ((i : Int) + 1)) >>= _) _ _ ⟨h1, g, d, tk + 1, os⟩
  refine wpAny_bind (wpAny_setField_rec he1 (by simp) fun h2 he2 hs2 => ?_)
  replace hs2 : Heap.SameBut e h1 h2 := hs2
  replace he2 : EnB h2 e it a f ((i : Int) + 1) item := he2
  show wpAny _ _ (setField (.ref e) 4 .none >>= _) _ _ ⟨h2, g, d, tk + 1, os⟩
  refine wpAny_bind (wpAny_setField_rec he2 (by simp) fun h3 he3 hs3 => ?_)
  replace hs3 : Heap.SameBut e h2 h3 := hs3
  replace he3 : EnB h3 e it a f ((i : Int) + 1) item := he3
  show wpAny _ _ (newTuple [.int i tk, x] >>= _) _ _ ⟨h3, g, d, tk + 1, os⟩
  refine wpAny_bind (wpAny_newTuple ?_)
  have he4 : EnB (h3.push { cls := .type "tuple", data := .seq #[.int i tk, x] }) e it a f ((i : Int) + 1) item := Heap.get?_push_of_some _ he3
  generalize hh4 : h3.push { cls := .type "tuple", data := .seq #[.int i tk, x] } = h4 at he4
  have hsz : h3.objs.size = hp.objs.size := by rw [hs3.1, hs2.1, hs1.1]
  have hel : e < hp.objs.size := Heap.lt_size he
  have ht4 : h4.get? hp.objs.size = some { cls := .type "tuple", data := .seq #[.int i tk, x] } := by rw [← hh4, ← hsz]; exact Heap.get?_push_size _ rfl
  have hz4 : h4.objs.size = hp.objs.size + 1 := by rw [← hh4, Heap.size_push, hsz]
  have hk4 : ∀ b o, b ≠ e → b ≠ it → hp.get? b = some o → h4.get? b = some o := fun b o hbe hbi hb => by
    rw [← hh4]; exact Heap.get?_push_of_some _ (hs3.extBut b o hbe (hs2.extBut b o hbe (hs1.extBut b o hbi hb)))
  have hit4 : h4.IsListIter it l (i + 1) := by
    rw [← hh4]; obtain ⟨o, ho, r⟩ := (hit1.extBut hs2.extBut (Ne.symm hne)).extBut hs3.extBut (Ne.symm hne); exact ⟨o, Heap.get?_push_of_some _ ho, r⟩
  show wpAny _ _ (Builtin.SmallTypes.ownedTupleIsFree (.ref e) >>= _) _ _ ⟨h4, g, d, tk + 1, os⟩
  rw [hsz]
  have ha4 : h4.get? a = some oa := hk4 a oa hae hai ha
  clear hh4 he3 hs3 he2 hs2 he1 hs1 hit1 hsz h3 h2 h1
  refine wpAny_bind ?_
  unfold Builtin.SmallTypes.ownedTupleIsFree
  refine wpAny_bind (wpAny_field he4 rfl (x := rawInt a) rfl ?_)
  show wpAny _ _ (loadIfAlive ((a : Int).toNat) >>= _) _ _ _
  rw [Int.toNat_natCast]
  refine wpAny_bind (kdx_alive ha4 ?_)
  simp only [Option.isNone_some, Bool.false_eq_true, if_false]
  refine wpAny_bind (wpAny_field he4 rfl (x := .bool f) rfl ?_)
  have fin : ∀ h5 : Heap, EnB h5 e it a true ((i : Int) + 1) item → Heap.SameBut e h4 h5 → Q (some (.ref hp.objs.size)) ⟨h5, g, d, tk + 1, os⟩ := fun h5 he5 hs5 =>
    hQ h5 he5 (hit4.extBut hs5.extBut (Ne.symm hne)) (by exact hs5.extBut _ _ (Nat.ne_of_gt hel) ht4) (by show h5.objs.size = hp.objs.size + 1; rw [hs5.1, hz4]) fun b o hbe hbi hb => hs5.extBut b o hbe (hk4 b o hbe hbi hb)
  cases f with
  | true =>
    rw [if_neg (show ¬ ((Value.bool true != Value.bool true) = true) from Bool.false_ne_true)]
    refine wpAny_pure ?_
    simp only [Bool.false_eq_true, if_false]
    exact wpAny_pure ⟨_, rfl, wpAny_pure (fin h4 he4 (Heap.SameBut.refl _ _))⟩
  | false =>
    rw [if_pos (show (Value.bool false != Value.bool true) = true from rfl)]
    refine wpAny_bind (wpAny_setField_rec he4 (by simp) fun h5 he5 hs5 => ?_)
    replace hs5 : Heap.SameBut e h4 h5 := hs5
    replace he5 : EnB h5 e it a true ((i : Int) + 1) item := he5
    refine wpAny_pure ?_
    simp only [Bool.false_eq_true, if_false]
    exact wpAny_pure ⟨_, rfl, wpAny_pure (fin h5 he5 hs5)⟩
theorem enB_done {e it l a : Addr} {f : Bool} {i : Nat} {items : Array Value} {item : Value} {Q : Option Value → Shared → Prop} (hh : A.handled = none)
    (he : EnB s.heap e it a f i item) (hit : s.heap.IsListIter it l i) (hl : s.heap.IsList l items) (hx : items[i]? = none)
    (hQ : ∀ h', Heap.ExtBut it s.heap h' → Q none { s with heap := h' }) : wpAny (model prog w) A (pyNext (.ref e)) Q E s := by
  have hT : s.TypeIs (.ref e) "enumerate" := ⟨_, he, rfl⟩
  unfold pyNext
  refine wpAny_bind (wpAny_attempt (wpAny_callSpecial?_slot (name := Str.ofString "__next__") hT F.slot_enumerate_next
    (wpAny_call_entry F.slot_enumerate_next hT F.entry_enumerate_next ?_ (F.args_enumerate_next_1 _))))
  show wpAny _ _ (field (.ref e) 2 >>= _) _ _ _
  refine wpAny_bind (wpAny_field he rfl (x := .ref it) rfl ?_)
  refine wpAny_bind (wpAny_nextOf_list_end hh hit hl hx fun h' x he' hx' => ?_)
  obtain ⟨o, ho, hc⟩ := hx'
  refine wpAny_bind (wpAny_isInstance (T := "StopIteration") (b := true) ⟨o, ho, hc⟩ isSubtype_stop ?_)
  exact wpAny_pure (hQ _ he')
end
/-- between two pairs: none given out, or the last one lives -/
def EnSt (h : Heap) (e it S : Addr) (i : Nat) : Prop :=
  (i = 0 ∧ ∃ old, IsEnum h e it 0 old) ∨ ∃ a f oa item, EnB h e it a f i item ∧ h.get? a = some oa ∧ a ≠ e ∧ a ≠ it ∧ a ≠ S
theorem EnSt.keep {h h' : Heap} {e it S : Addr} {i : Nat} (x : EnSt h e it S i) (hk : ∀ b o, b ≠ S → h.get? b = some o → h'.get? b = some o) (hS : e ≠ S) : EnSt h' e it S i := by
  rcases x with ⟨z, old, q⟩ | ⟨a, f, oa, item, q, r, n1, n2, n3⟩
  · exact .inl ⟨z, old, hk e _ hS q⟩
  · exact .inr ⟨a, f, oa, item, hk e _ hS q, hk a oa n3 r, n1, n2, n3⟩
/-- the pairs that were given: at as, above lo, in order -/
structure EnG (items : Array Value) (lo : Addr) (h : Heap) (as : List Addr) : Prop where
  above : ∀ a ∈ as, lo < a
  nodup : as.Nodup
  pairs : ∀ (j : Nat) (a : Addr), as[j]? = some a → ∃ t x, items[j]? = some x ∧ h.get? a = some { cls := .type "tuple", data := .seq #[.int j t, x] }
section
variable {prog : Program} {w : World} {A : Around} {E : Value → Shared → Prop} {s : Shared} {R : Result → Shared → Prop} {items : Array Value}
theorem en_item {e it l S : Addr} {i : Nat} {x : Value} {Q : Option Value → Shared → Prop} (hst : EnSt s.heap e it S i) (hS : S < s.heap.objs.size) (hit : s.heap.IsListIter it l i) (hl : s.heap.IsList l items) (hx : items[i]? = some x) (hne : e ≠ it)
    (hQ : ∀ h', EnSt h' e it S (i + 1) → h'.IsListIter it l (i + 1) → h'.get? s.heap.objs.size = some { cls := .type "tuple", data := .seq #[.int i s.toks, x] } → h'.objs.size = s.heap.objs.size + 1 →
      (∀ b o, b ≠ e → b ≠ it → s.heap.get? b = some o → h'.get? b = some o) → Q (some (.ref s.heap.objs.size)) { s with heap := h', toks := s.toks + 1 }) :
    wpAny (model prog w) A (pyNext (.ref e)) Q E s := by
  have itl : it < s.heap.objs.size := by obtain ⟨_, q, _⟩ := hit; exact Heap.lt_size q
  rcases hst with ⟨z, old, q⟩ | ⟨a, f, oa, item, q, r, n1, n2, n3⟩
  · subst z
    refine wpAny_pyNext_enum_item q hit hl hx hne fun h' ho h1 h2 h3 hk => hQ h' (.inr ⟨s.heap.objs.size, false, _, x, ?_, h2, Nat.ne_of_gt (Heap.lt_size q), Nat.ne_of_gt itl, Nat.ne_of_gt hS⟩) h1 h2 h3 hk
    exact ho
  · refine enB_next q r n1 n2 hit hl hx hne fun h' ho h1 h2 h3 hk => hQ h' (.inr ⟨a, true, oa, item, ?_, hk a oa n1 n2 r, n1, n2, n3⟩) h1 h2 h3 hk
    have z : ((i + 1 : Nat) : Int) = (i : Int) + 1 := by omega
    rw [z]
    exact ho
theorem en_done {e it l S : Addr} {i : Nat} {Q : Option Value → Shared → Prop} (hh : A.handled = none) (hst : EnSt s.heap e it S i) (hit : s.heap.IsListIter it l i) (hl : s.heap.IsList l items) (hx : items[i]? = none)
    (hQ : ∀ h', Heap.ExtBut it s.heap h' → Q none { s with heap := h' }) : wpAny (model prog w) A (pyNext (.ref e)) Q E s := by
  rcases hst with ⟨z, old, q⟩ | ⟨a, f, oa, item, q, r, n1, n2, n3⟩
  · subst z
    exact wpAny_pyNext_enum_end hh q hit hl hx hQ
  · exact enB_done hh q hit hl hx hQ

theorem en_loop {S e it l : Addr} (hh : A.handled = none) (hSe : e < S) (hSi : it < S) (hSl : l ≠ S) (hle : l ≠ e) (hli : l ≠ it) (hne : e ≠ it) (hn : items.size ≤ sizeLine) (res : Value) {h0 : Heap}
    (hR : ∀ h' tk acc c as, (∀ b o, b ≠ S → b ≠ e → b ≠ it → h0.get? b = some o → h'.get? b = some o) → h'.get? S = some { cls := .type "list", dict := none, data := .seq acc c, slots := #[] } → as.length = items.size → EnG items S h' as →
      acc.toList = as.map Value.ref → R (.ok (.ret res)) { s with heap := h', toks := tk }) :
    ∀ (k i : Nat) (h : Heap) (tk c : Nat) (acc : Array Value) (as : List Addr), items.size - i = k → i ≤ items.size → EnSt h e it S i → h.IsListIter it l i → h.IsList l items → (∀ b o, b ≠ S → b ≠ e → b ≠ it → h0.get? b = some o → h.get? b = some o) →
      h.get? S = some { cls := .type "list", dict := none, data := .seq acc c, slots := #[] } → acc.toList = as.map Value.ref → as.length = i → EnG items S h as →
      codeAny (model prog w) A (.builtin "list.extend.loop" ⟨[.ref S, .ref e, res], []⟩) R { s with heap := h, toks := tk } := by
  have nSe : S ≠ e := Nat.ne_of_gt hSe
  have nSi : S ≠ it := Nat.ne_of_gt hSi
  intro k
  induction k with
  | zero =>
    intro i h tk c acc as hk hi hst hit hl hkeep hS hacc hal hG
    have hin : i = items.size := by omega
    refine codeAny_builtin PySem.F.entry_extend_loop ?_
    rw [Around.under_plainId PySem.F.plain_extend_loop _]
    show wpAny _ A.in1 (pyNext (.ref e) >>= _) _ _ _
    refine wpAny_bind (en_done (s := { s with heap := h, toks := tk }) (A := A.in1) hh hst hit hl (Array.getElem?_eq_none (by omega)) fun h' he => ?_)
    refine wpAny_pure (hR h' tk acc c as (fun b o h1 h2 h3 z => he b o h3 (hkeep b o h1 h2 h3 z)) (he S _ nSi hS) (by omega) ⟨hG.above, hG.nodup, fun j a hj => ?_⟩ hacc)
    obtain ⟨t, x, e1, e2⟩ := hG.pairs j a hj
    exact ⟨t, x, e1, he a _ (Nat.ne_of_gt (Nat.lt_trans hSi (hG.above a (List.mem_of_getElem? hj)))) e2⟩
  | succ k ih =>
    intro i h tk c acc as hk hi hst hit hl hkeep hS hacc hal hG
    have hlt : i < items.size := by omega
    have hsz : acc.size = i := by rw [← Array.length_toList, hacc, List.length_map, hal]
    have hx : items[i]? = some items[i] := Array.getElem?_eq_getElem hlt
    have hSz : S < h.objs.size := Heap.lt_size hS
    refine codeAny_builtin PySem.F.entry_extend_loop ?_
    rw [Around.under_plainId PySem.F.plain_extend_loop _]
    show wpAny _ A.in1 (pyNext (.ref e) >>= _) _ _ _
    refine wpAny_bind (en_item (s := { s with heap := h, toks := tk }) (S := S) hst hSz hit hl hx hne fun h' hst' hit' ht hz hkp => ?_)
    dsimp only at ht hz hkp ⊢
    have hS' := hkp S _ nSe nSi hS
    have up : ∀ b o, b ≠ S → h'.get? b = some o → (h'.update S (Obj.mapSeq (·.push (Value.ref h.objs.size)))).get? b = some o := fun b o hb z => (Heap.get?_update_other _ _ (Ne.symm hb)).trans z
    have hl' : (h'.update S (Obj.mapSeq (·.push (Value.ref h.objs.size)))).IsList l items := hl.at fun o z => up l o hSl (hkp l o hle hli z)
    have hit2 : (h'.update S (Obj.mapSeq (·.push (Value.ref h.objs.size)))).IsListIter it l (i + 1) := hit'.at fun o z => up it o (Ne.symm nSi) z
    show wpAny _ A.in1 (updateSeq S (·.push (Value.ref h.objs.size)) >>= _) _ _ _
    refine wpAny_bind ?_
    refine wpAny_updateSeq hS' rfl (wpAny_pure ⟨plainId_quiet PySem.F.plain_extend_loop _, ih (i + 1) _ (tk + 1) _ (acc.push (Value.ref h.objs.size)) (as ++ [h.objs.size]) (by omega) hlt (hst'.keep up (Ne.symm nSe)) hit2 hl'
      (fun b o h1 h2 h3 z => up b o h1 (hkp b o h2 h3 (hkeep b o h1 h2 h3 z))) (Heap.get?_update_self _ hS' rfl) (by rw [Array.toList_push, hacc, List.map_append]; rfl) (by rw [List.length_append, hal]; rfl) ⟨?_, ?_, ?_⟩⟩) (by rw [hsz]; omega) (by show (acc.push (Value.ref h.objs.size)).size ≤ sizeLine + 1; rw [Array.size_push, hsz]; omega)
    · intro a ha
      rcases List.mem_append.mp ha with ha | ha
      · exact hG.above a ha
      · rw [List.mem_singleton.mp ha]; exact hSz
    · refine List.nodup_append.mpr ⟨hG.nodup, List.nodup_cons.mpr ⟨List.not_mem_nil, List.nodup_nil⟩, fun a ha b hb => ?_⟩
      rw [List.mem_singleton.mp hb]
      obtain ⟨j, hj⟩ := List.mem_iff_getElem?.mp ha
      obtain ⟨_, _, _, z⟩ := hG.pairs j a hj
      exact Nat.ne_of_lt (Heap.lt_size z)
    · intro j b hj
      rcases Nat.lt_trichotomy j as.length with h1 | h1 | h1
      · rw [List.getElem?_append_left h1] at hj
        obtain ⟨t, x, e1, e2⟩ := hG.pairs j b hj
        have hb := hG.above b (List.mem_of_getElem? hj)
        exact ⟨t, x, e1, up b _ (Nat.ne_of_gt hb) (hkp b _ (Nat.ne_of_gt (Nat.lt_trans hSe hb)) (Nat.ne_of_gt (Nat.lt_trans hSi hb)) e2)⟩
      · subst h1
        have hb : h.objs.size = b := by simpa using hj
        subst hb
        subst hal
        exact ⟨tk, _, hx, up _ _ (Nat.ne_of_gt hSz) ht⟩
      · have hnone : (as ++ [h.objs.size])[j]? = none := List.getElem?_eq_none (by rw [List.length_append, List.length_singleton]; omega)
        rw [hnone] at hj; cases hj
end
theorem nolen_enum : typeLookup (.type "enumerate") "__len__" = pure none := by rw [typeLookup_type, builtinLookup_eq_fast]; kernel_rfl
theorem nohint_enum : typeLookup (.type "enumerate") "__length_hint__" = pure none := by rw [typeLookup_type, builtinLookup_eq_fast]; kernel_rfl
section
variable {prog : Program} {w : World} {A : Around} {E : Value → Shared → Prop} {s : Shared} {items : Array Value}
theorem en_hint {r : Addr} {Q : Bool → Shared → Prop} (hT : s.TypeIs (.ref r) "enumerate") (h : Q true s) : wpAny (model prog w) A (Builtin.List.listLengthHint (.ref r)) Q E s := by
  unfold Builtin.List.listLengthHint
  refine wpAny_bind (wpAny_specialOf hT nolen_enum ?_)
  refine wpAny_ite_split (fun hab => absurd hab (by decide)) (fun _ => ?_)
  refine wpAny_ite_split (fun hab => absurd hab (by decide)) (fun _ => ?_)
  refine wpAny_bind (wpAny_specialOf hT nohint_enum ?_)
  exact wpAny_pure h
theorem en_extend {R : Result → Shared → Prop} {S e it l : Addr} (hh : A.handled = none) (hSe : e < S) (hSi : it < S) (hSl : l ≠ S) (hle : l ≠ e) (hli : l ≠ it) (hne : e ≠ it) (hst : IsEnum s.heap e it 0 .none) (hit : s.heap.IsListIter it l 0) (hl : s.heap.IsList l items)
    (res : Value) (c0 : Nat) (hS : s.heap.get? S = some { cls := .type "list", data := .seq #[] c0 })
    (hR : ∀ h' tk acc c as, (∀ b o, b ≠ S → b ≠ e → b ≠ it → s.heap.get? b = some o → h'.get? b = some o) → h'.get? S = some { cls := .type "list", dict := none, data := .seq acc c, slots := #[] } → as.length = items.size → EnG items S h' as →
      acc.toList = as.map Value.ref → R (.ok (.ret res)) { s with heap := h', toks := tk }) (hn : items.size ≤ sizeLine) :
    wpAny (model prog w) A.in1 (Builtin.List.listExtendWith (.ref S) (.ref e) res)
      (fun fin s' => match fin with | .done f => R (.ok f) s' | .again c' => c'.quiet = true ∧ codeAny (model prog w) A c' R s') (fun e s' => R (.error e) s') s := by
  have nSe : S ≠ e := Nat.ne_of_gt hSe
  have hT : s.TypeIs (.ref e) "enumerate" := ⟨_, hst, rfl⟩
  have key : ∀ (h : Heap) (c1 tk : Nat), (∀ b o, b ≠ S → s.heap.get? b = some o → h.get? b = some o) → h.get? S = some { cls := .type "list", data := .seq #[] c1 } →
      codeAny (model prog w) A (.builtin "list.extend.loop" ⟨[.ref S, .ref e, res], []⟩) R { s with heap := h, toks := tk } := by
    intro h c1 tk hk hS1
    exact en_loop (items := items) (s := s) (h0 := s.heap) hh hSe hSi hSl hle hli hne hn res hR items.size 0 h tk c1 #[] [] (Nat.sub_zero _) (Nat.zero_le _) (.inl ⟨rfl, .none, hk e _ (Ne.symm nSe) hst⟩)
      (hit.at fun o z => hk it o (Nat.ne_of_lt hSi) z) (hl.at fun o z => hk l o hSl z) (fun b o h1 _ _ z => hk b o h1 z) hS1 rfl rfl ⟨(fun _ z => nomatch z), List.nodup_nil, fun j a hj => by simp at hj⟩
  unfold Builtin.List.listExtendWith
  refine wpAny_bind (wpAny_typeOf (T := "enumerate") hT ?_)
  have h1 : Builtin.List.listSameRef (.ref S) (.ref e) = false := by simp [Builtin.List.listSameRef, nSe]
  have h2 : (Value.type "enumerate" == Value.type "list") = false := by decide
  have h3 : (Value.type "enumerate" == Value.type "tuple") = false := by decide
  simp only [h1, h2, h3, Bool.or_false, Bool.false_eq_true, if_false]
  refine wpAny_bind (wpAny_pyIter_enum hst ?_)
  refine wpAny_bind (wpAny_holding (en_hint hT ?_))
  refine wpAny_ite_split (fun _ => ?_) (fun _ => wpAny_pure ⟨plainId_quiet PySem.F.plain_extend_loop _, key _ c0 _ (fun b o _ z => z) hS⟩)
  refine wpAny_bind (wpAny_rule ?_)
  refine wpAny_bind ?_
  show wpAny _ _ (updateSeq S (·.push .none) >>= fun _ => updateSeq S (·.pop)) _ _ _
  refine wpAny_bind (wpAny_updateSeq hS rfl ?_)
  have hS2 := Heap.get?_update_self (Obj.mapSeq (·.push Value.none)) hS rfl
  refine wpAny_updateSeq (hz := by seq_fits) hS2 rfl ?_
  have hS3 := Heap.get?_update_self (Obj.mapSeq (·.pop)) hS2 rfl
  refine wpAny_pure ⟨plainId_quiet PySem.F.plain_extend_loop _, key _ _ _ (fun b o hb z => ?_) hS3⟩
  exact (Heap.get?_update_other _ _ (Ne.symm hb)).trans ((Heap.get?_update_other _ _ (Ne.symm hb)).trans z)
theorem en_call {Q : Value → Shared → Prop} {e it l : Addr} (hh : A.handled = none) (hle : l ≠ e) (hli : l ≠ it) (hne : e ≠ it) (hst : IsEnum s.heap e it 0 .none) (hit : s.heap.IsListIter it l 0) (hl : s.heap.IsList l items) (hn : items.size ≤ sizeLine)
    (hQ : ∀ h' tk acc c as, (∀ b o, b ≠ e → b ≠ it → s.heap.get? b = some o → h'.get? b = some o) → h'.get? s.heap.objs.size = some { cls := .type "list", dict := none, data := .seq acc c, slots := #[] } → as.length = items.size → EnG items s.heap.objs.size h' as →
      acc.toList = as.map Value.ref → Q (.ref s.heap.objs.size) { s with heap := h', toks := tk }) :
    wpAny (model prog w) A (call (.type "list") [.ref e]) Q E s := by
  refine callType_codes (Q₁ := fun obj s₁ => obj = .ref s.heap.objs.size ∧ s₁ = { s with heap := s.heap.push { cls := .type "list", data := .seq #[] } }) PySem.F.called_list (PySem.F.typeCall_list_1 _) PySem.F.entry_list_init
    (code_list_new _ ⟨rfl, rfl⟩) fun obj s₁ h₁ => ?_
  obtain ⟨rfl, rfl⟩ := h₁
  have up : ∀ b o, s.heap.get? b = some o → (s.heap.push { cls := .type "list", data := .seq #[] }).get? b = some o := fun b o z => Heap.get?_push_of_some _ z
  have hS : (s.heap.push { cls := .type "list", data := .seq #[] }).get? s.heap.objs.size = some { cls := .type "list", data := .seq #[] } := Heap.get?_push_size _ rfl
  have le : e < s.heap.objs.size := Heap.lt_size hst
  have li : it < s.heap.objs.size := by obtain ⟨_, q, _⟩ := hit; exact Heap.lt_size q
  have ll : l ≠ s.heap.objs.size := by obtain ⟨_, q, _⟩ := hl; exact Nat.ne_of_lt (Heap.lt_size q)
  refine ⟨⟨_, hS, rfl⟩, PySem.F.args_list_init_2 _ _, ?_⟩
  show wpAny _ _ (do let old ← Builtin.List.listItems (.ref s.heap.objs.size); Builtin.List.listUpdate (.ref s.heap.objs.size) (fun _ => #[]); letGo old.toList.reverse; Builtin.List.listExtendWith (.ref s.heap.objs.size) (.ref e) .none) _ _ _
  refine wpAny_bind ?_
  unfold Builtin.List.listItems
  refine wpAny_bind (wpAny_seqItems hS rfl (wpAny_pure ?_))
  show wpAny _ _ (updateSeq s.heap.objs.size (fun _ => #[]) >>= fun _ => letGo (#[] : Array Value).toList.reverse >>= fun _ => Builtin.List.listExtendWith (.ref s.heap.objs.size) (.ref e) .none) _ _ _
  refine wpAny_bind (wpAny_updateSeq hS rfl ?_)
  have hS2 := Heap.get?_update_self (Obj.mapSeq (fun _ => (#[] : Array Value))) hS rfl
  have oth : ∀ b o, b ≠ s.heap.objs.size → s.heap.get? b = some o → ((s.heap.push { cls := .type "list", data := .seq #[] }).update s.heap.objs.size (Obj.mapSeq (fun _ => (#[] : Array Value)))).get? b = some o :=
    fun b o hb z => (Heap.get?_update_other _ _ (Ne.symm hb)).trans (up b o z)
  refine wpAny_bind (wpAny_letGo ?_)
  refine en_extend (A := A.in1) hh le li ll hle hli hne (oth e _ (Nat.ne_of_lt le) hst) (hit.at fun o z => oth it o (Nat.ne_of_lt li) z) (hl.at fun o z => oth l o ll z) .none _ hS2 (fun h' tk acc c as hk h1 h2 h3 h4 => ?_) hn
  exact ⟨rfl, hQ h' tk acc c as (fun b o n1 n2 z => hk b o (Nat.ne_of_lt (Heap.lt_size z)) n1 n2 (oth b o (Nat.ne_of_lt (Heap.lt_size z)) z)) h1 h2 h3 h4⟩
end
end FcE

set_option maxRecDepth 100000
set_option maxHeartbeats 4000000
namespace FcR
open PySem PySem.Spec PyProof.Rows L2
/-! ### nothing that a callee raises is asked for -/
theorem passF {P : Program} {w : World} {X : Cx} : Passes (CX P w) X (fun _ _ _ => False) := fun _ _ _ _ _ _ _ h => by
  obtain ⟨_, _, _, _, _, _, _, _, _, _, _, _, z⟩ := h
  exact z.elim
/-! ### an attribute as a target -/
def gFld (K : PySem.W.Frag) (to : TE) (f : Str) : TG := fun v σ H Q => to σ H fun x H1 => ∃ a C dx fs, x = .ref a ∧ H1 a = some (.ins C dx fs) ∧ Cls K C ∧ NoAttr K C f ∧ fs.length < 1000 ∧ Q σ (upd H1 a (.ins C dx (putF f v fs)))
theorem pg_fld {X : Cx} {o : Expr} {f : Str} {pos : Pos} {to : TE} (ho : PE X o to) : PG X (.Attribute o f pos) (gFld X.K to f) := by
  refine ⟨fun pins s σ H v u Q I r h => ?_⟩
  have ea : assign (.Attribute o f pos) X.env u = (do
      let ov ← holding [u] (eval o X.env)
      standAt pos.atName
      holding [u, ov] (setAttr ov f u)
      release [u, ov] []) := rfl
  rw [ea]
  refine wpAny_bind (wpAny_holding (thn (ho.run pins s σ H _ I h) fun ov s1 ⟨x, H1, I1, r1, a, C, dx, fs, ex, e1, c, n, l, q⟩ => ?_))
  subst ex
  obtain rfl : ov = Value.ref a := r1
  refine wpAny_bind (wpAny_standAt (wpAny_bind (wpAny_holding ?_)))
  exact setattr_ok I1 e1 c n l r fun s3 I3 => wpAny_release ⟨σ, _, I3, q⟩
/-! ### list(enumerate(e)) -/
def putP : Hp → List Addr → Nat → List V → Hp
  | H, a :: as, j, x :: xs => putP (upd H a (.tup [.int (j : Int), x])) as (j + 1) xs
  | H, _, _, _ => H
theorem putP_off {b : Addr} : ∀ (as : List Addr) (xs : List V) (j : Nat) (H : Hp), b ∉ as → putP H as j xs b = H b
  | [], _, _, _, _ => rfl
  | _ :: _, [], _, _, _ => rfl
  | a :: as, x :: xs, j, H, h => by
    show putP (upd H a (.tup [.int (j : Int), x])) as (j + 1) xs b = H b
    rw [putP_off as xs _ _ (fun z => h (List.mem_cons_of_mem _ z)), upd_ne (fun z => h (by rw [z]; exact List.mem_cons_self))]
theorem putP_at : ∀ (as : List Addr) (xs : List V) (j : Nat) (H : Hp), as.length = xs.length → as.Nodup → ∀ (i : Nat) (a : Addr) (x : V), as[i]? = some a → xs[i]? = some x → putP H as j xs a = some (.tup [.int ((j + i : Nat) : Int), x])
  | [], _, _, _, _, _, i, a, x, h, _ => by simp at h
  | _ :: _, [], _, _, h, _, _, _, _, _, _ => by cases h
  | a0 :: as, x0 :: xs, j, H, h, hn, 0, a, x, h1, h2 => by
    have hn' := List.nodup_cons.mp hn
    simp at h1 h2
    subst h1 h2
    show putP (upd H a0 (.tup [.int (j : Int), x0])) as (j + 1) xs a0 = _
    rw [putP_off as xs _ _ hn'.1, upd_same] <;> rfl
  | a0 :: as, x0 :: xs, j, H, h, hn, i + 1, a, x, h1, h2 => by
    have ih := putP_at as xs (j + 1) (upd H a0 (.tup [.int (j : Int), x0])) (Nat.succ.inj h) (List.nodup_cons.mp hn).2 i a x (by simpa using h1) (by simpa using h2)
    have e : j + 1 + i = j + (i + 1) := by omega
    rw [e] at ih
    exact ih
def rEnumL (K : PySem.W.Frag) : V → Hp → VK → Prop := fun x H Q => ∃ (a : Addr) (xs : List V), x = .ref a ∧ SqL K H a xs ∧
  ∀ (H' : Hp) (p : Addr) (ts : List Addr), (∀ b o, H b = some o → H' b = some o) → H p = none → (∀ t ∈ ts, H t = none) → p ∉ ts → ts.Nodup → ts.length = xs.length → H' p = some (.lst (ts.map V.ref)) →
    (∀ (i : Nat) (t : Addr) (x : V), ts[i]? = some t → xs[i]? = some x → H' t = some (.tup [.int (i : Int), x])) → Q (.ref p) H'
def tListEnum (K : PySem.W.Frag) (te : TE) : TE := fun σ H Q => te σ H fun x H1 => rEnumL K x H1 Q
theorem vals_refs : ∀ as : List Addr, Vals (as.map V.ref) (as.map Value.ref)
  | [] => .nil
  | _ :: as => .cons rfl (vals_refs as)
section
variable {X : Cx} {e : Expr} {te : TE} {p p2 pos2 pos : Pos}
theorem enum_laid {pins : List (Addr × Obj)} {σ : L2.St} {H : Hp} {s : Shared} {h' : Heap} {tk : Nat} {xs : List V} {its : List Value} {acc : Array Value} {c : Nat} {as : List Addr} {S : Addr} (hge : s.heap.objs.size ≤ S) (I : Inv X pins σ H s) (hz : xs.length ≤ sizeLine) (rv : Vals xs its)
    (hk : ∀ b o, s.heap.get? b = some o → h'.get? b = some o) (hS : h'.get? S = some { cls := .type "list", dict := none, data := .seq acc c, slots := #[] }) (hl : as.length = xs.length) (hG : FcE.EnG its.toArray S h' as) (hacc : acc.toList = as.map Value.ref) :
    ∃ H' : Hp, (∀ b o, H b = some o → H' b = some o) ∧ H S = none ∧ (∀ t ∈ as, H t = none) ∧ S ∉ as ∧ H' S = some (.lst (as.map V.ref)) ∧
      (∀ (i : Nat) (t : Addr) (x : V), as[i]? = some t → xs[i]? = some x → H' t = some (.tup [.int (i : Int), x])) ∧ Inv X pins σ H' { s with heap := h', toks := tk } := by
  have hSn : S ∉ as := fun z => Nat.lt_irrefl _ (hG.above _ z)
  have new : ∀ t ∈ as, H t = none := fun t ht => I.hok.fresh (Nat.le_trans hge (Nat.le_of_lt (hG.above t ht)))
  have newS : H S = none := I.hok.fresh hge
  have atP : ∀ (i : Nat) (t : Addr) (x : V), as[i]? = some t → xs[i]? = some x → putP (upd H S (.lst (as.map V.ref))) as 0 xs t = some (.tup [.int (i : Int), x]) := fun i t x h1 h2 => by
    have z := putP_at as xs 0 (upd H S (.lst (as.map V.ref))) hl hG.nodup i t x h1 h2
    rw [Nat.zero_add] at z
    exact z
  have off : ∀ b, b ∉ as → b ≠ S → putP (upd H S (.lst (as.map V.ref))) as 0 xs b = H b := fun b h1 h2 => by rw [putP_off as xs _ _ h1, upd_ne h2]
  have low : ∀ b o, s.heap.get? b = some o → b ∉ as ∧ b ≠ S := fun b o z => ⟨fun y => absurd (Heap.lt_size z) (Nat.not_lt.mpr (Nat.le_trans hge (Nat.le_of_lt (hG.above b y)))), Nat.ne_of_lt (Nat.lt_of_lt_of_le (Heap.lt_size z) hge)⟩
  have kp : ∀ b u, H b = some u → (putP (upd H S (.lst (as.map V.ref))) as 0 xs) b = some u := fun b u z => by
    rw [off b (fun y => by rw [new b y] at z; cases z) (fun y => by rw [y, newS] at z; cases z)]
    exact z
  have eS : putP (upd H S (.lst (as.map V.ref))) as 0 xs S = some (.lst (as.map V.ref)) := by rw [putP_off as xs _ _ hSn, upd_same]
  refine ⟨putP (upd H S (.lst (as.map V.ref))) as 0 xs, kp, newS, new, hSn, eS, atP, ?_⟩
  refine I.call' (ch := []) rfl ⟨fun b o q _ _ _ => hk b o q, fun b o q _ _ _ => ⟨o.slots, hk b o q⟩, fun b o q n _ => ?_, fun b o q _ => ⟨o, hk b o q⟩, fun b ys q => kp b _ q, fun b o u q => kp b _ q, fun b ps q => ⟨#[], by rw [kp b _ q]; simp⟩⟩ (fun b u q => ?_) I.bare fun b z => by simp at z
  · obtain ⟨z1, z2⟩ := low b o q
    rw [off b z1 z2]
    exact n
  · by_cases hb : b ∈ as
    · obtain ⟨j, hj⟩ := List.mem_iff_getElem?.mp hb
      have jl : j < xs.length := by rw [← hl]; exact (List.getElem?_eq_some_iff.mp hj).1
      have hx : xs[j]? = some xs[j] := List.getElem?_eq_getElem jl
      rw [atP j b _ hj hx] at q
      cases q
      obtain ⟨t, x, f1, f2⟩ := hG.pairs j b hj
      obtain ⟨u, g1, g2⟩ := rv.get hx
      have ex : x = u := by
        have f1' : its[j]? = some x := by simpa using f1
        rw [g1] at f1'
        exact (Option.some.inj f1').symm
      exact ⟨by show 2 ≤ sizeLine; decide, [.int (j : Int) t, x], .cons ⟨t, rfl⟩ (.cons (by rw [ex]; exact g2) .nil), ⟨_, f2, rfl, _, rfl⟩⟩
    · by_cases hb2 : b = S
      · rw [hb2] at q ⊢
        rw [eS] at q
        cases q
        refine ⟨by rw [List.length_map]; omega, acc.toList, c, by rw [hacc]; exact vals_refs as, ?_⟩
        rw [Array.toArray_toList]
        exact hS
      · rw [off b hb hb2] at q
        exact (I.hok b u q).stay (fun d v _ y => hk d v y) (fun d y => kp d _ y) fun d ys y => kp d _ y
theorem pe_listEnum (hc : X.calm = true) (he : PE X e te) (hg : Gl X "list") (hm : X.mg "list" = none) (hv : bootBuiltins "list" = some (.type "list")) (hg2 : Gl X "enumerate") (hm2 : X.mg "enumerate" = none) (hv2 : bootBuiltins "enumerate" = some (.type "enumerate"))
    (hs : starEach [.Call (.Name "enumerate" p2) [e] [] pos2] X.env = (false, eval (.Call (.Name "enumerate" p2) [e] [] pos2) X.env) :: starEach [] X.env := by rfl) (hs2 : starEach [e] X.env = (false, eval e X.env) :: starEach [] X.env := by rfl) :
    PE X (.Call (.Name "list" p) [.Call (.Name "enumerate" p2) [e] [] pos2] [] pos) (tListEnum X.K te) := by
  refine ⟨fun pins s σ H Q I hq => ?_⟩
  refine wpAny_Call_Name_kw (ld_blt I hg hm hv ?_)
  refine PyProof.Rows.callWith_type1 ?_ hs rfl
  rw [hs]
  show wpAny _ _ (spliced ((false, eval (.Call (.Name "enumerate" p2) [e] [] pos2) X.env) :: backTo pos (starEach [] X.env))) _ _ s
  refine Calls.spliced_cons ?_
  refine wpAny_Call_Name_kw (ld_blt I hg2 hm2 hv2 ?_)
  refine PyProof.Rows.callWith_type1 ?_ hs2 rfl
  rw [hs2]
  show wpAny _ _ (spliced ((false, eval e X.env) :: backTo pos2 (starEach [] X.env))) _ _ s
  refine Calls.spliced_cons (thn (he.run pins s σ H _ I hq) fun u s1 ⟨x, H1, I1, rx, a, xs, ex, hL, q⟩ => ?_)
  subst ex
  obtain rfl : u = Value.ref a := rx
  refine Calls.spliced_nil ?_
  obtain ⟨its, rv, hl0, hz⟩ := I1.list hL
  have hl : s1.heap.IsList a its.toArray := hl0.isList
  have al : a < s1.heap.objs.size := by obtain ⟨_, y, _⟩ := hl; exact Heap.lt_size y
  refine call_enumerate_list hl fun h1 hE hI hsz hk => ?_
  refine Calls.spliced_nil ?_
  have hl1 : h1.IsList a its.toArray := hl.at fun o y => hk a o y
  have lx : xs.length = its.length := rv.length
  have hlen : its.toArray.size = xs.length := by simp [lx]
  refine FcE.en_call (items := its.toArray) (I1.ok.hd hc) (Nat.ne_of_lt (Nat.lt_succ_of_lt al)) (Nat.ne_of_lt al) (Nat.succ_ne_self _) hE hI hl1 (by rw [hlen]; exact hz) fun h' tk acc c as hkk hS hla hG hacc => ?_
  obtain ⟨H', k1, k2, k3, k4, k5, k6, J⟩ := enum_laid (tk := tk) (S := h1.objs.size) (by rw [hsz]; exact Nat.le_add_right _ _) I1 hz rv
    (fun b o y => hkk b o (Nat.ne_of_lt (Nat.lt_succ_of_lt (Heap.lt_size y))) (Nat.ne_of_lt (Heap.lt_size y)) (hk b o y)) hS (by rw [hla, hlen]) hG hacc
  exact ⟨.ref _, H', J, rfl, q H' _ as k1 k2 k3 k4 hG.nodup (by rw [hla, hlen]) k5 k6⟩
/-! ### == and != of data, up to 150 deep -/
def rEqM (K : PySem.W.Frag) : R2 := fun x y H Q => ∃ d e, Dp K H x d ∧ Dp K H y e ∧ PyData.canLay0 d = true ∧ PyData.canLay0 e = true ∧ min d.depth e.depth ≤ 150 ∧ Q (.bl (PyData.eqv d e)) H
def rNeM (K : PySem.W.Frag) : R2 := fun x y H Q => ∃ d e, Dp K H x d ∧ Dp K H y e ∧ PyData.canLay0 d = true ∧ PyData.canLay0 e = true ∧ min d.depth e.depth ≤ 150 ∧ Q (.bl (!PyData.eqv d e)) H
theorem op_eqM {k : Nat} (hr : Room k X.A) : OpR X (compareOp .Eq) (rEqM X.K) := by
  intro pins s σ H x y v u Q I rx ry h
  obtain ⟨d, e, hd, he, sd, se, hm, q⟩ := h
  obtain ⟨as, r1⟩ := Dp.reads I d x v hd rx
  obtain ⟨bs, r2⟩ := Dp.reads I e y u he ry
  exact SeqAt.compareEq_reads r1 r2 sd se (by have := hr.un; omega) ⟨.bl _, H, I, rfl, q⟩
theorem op_neM {k : Nat} (hr : Room k X.A) : OpR X (compareOp .NotEq) (rNeM X.K) := by
  intro pins s σ H x y v u Q I rx ry h
  obtain ⟨d, e, hd, he, sd, se, hm, q⟩ := h
  obtain ⟨as, r1⟩ := Dp.reads I d x v hd rx
  obtain ⟨bs, r2⟩ := Dp.reads I e y u he ry
  exact SeqAt.compareNe_reads r1 r2 sd se (by have := hr.un; omega) ⟨.bl _, H, I, rfl, q⟩
end
end FcR

set_option maxRecDepth 100000
set_option maxHeartbeats 4000000
namespace Fc
open PySem PySem.Spec PyProof.Rows L2 FcR
open Evl (Ex)
/-! ### built-in names -/
theorem b_len : bootBuiltins "len" = some (.builtin "len") := by decide +kernel
theorem b_isinstance : bootBuiltins "isinstance" = some (.builtin "isinstance") := by decide +kernel
theorem b_all : bootBuiltins "all" = some (.builtin "all") := by decide +kernel
theorem b_any : bootBuiltins "any" = some (.builtin "any") := by decide +kernel
theorem b_sum : bootBuiltins "sum" = some (.builtin "sum") := by decide +kernel
theorem b_list : bootBuiltins "list" = some (.type "list") := by decide +kernel
theorem b_tuple : bootBuiltins "tuple" = some (.type "tuple") := by decide +kernel
theorem b_int : bootBuiltins "int" = some (.type "int") := by decide +kernel
theorem b_bool : bootBuiltins "bool" = some (.type "bool") := by decide +kernel
theorem b_str : bootBuiltins "str" = some (.type "str") := by decide +kernel
theorem b_enumerate : bootBuiltins "enumerate" = some (.type "enumerate") := by decide +kernel
/-! ### a def that keeps its promise, by the place where it stands -/
def Ok (P : Program) (w : World) (K : PySem.W.Frag) (mg : Str → Option Value) (base : Heap) (k : Nat) (at_ : Str × Option Str) (ps : List Str) (sp : Sp) : Prop :=
  ∃ fd, FnOk P w K mg base (CX P w) k (He.fAd K at_) fd ps sp ∧ Binds K fd ps [] ∧ PySem.W.keepIn K (.ref (He.fAd K at_)) = true
theorem Ok.mono {P : Program} {w : World} {K : PySem.W.Frag} {mg : Str → Option Value} {base : Heap} {j k : Nat} {at_ : Str × Option Str} {ps : List Str} {sp : Sp} (h : Ok P w K mg base j at_ ps sp) (e : j ≤ k) : Ok P w K mg base k at_ ps sp := by
  obtain ⟨fd, G, b, kp⟩ := h
  exact ⟨fd, G.mono e, b, kp⟩
/-! ### tests -/
theorem ite_of {c : Bool} {A B : Prop} (h1 : c = true → A) (h2 : c = false → B) : if c = true then A else B := by
  cases c with
  | true => rw [if_pos rfl]; exact h1 rfl
  | false => rw [if_neg Bool.false_ne_true]; exact h2 rfl
theorem itT {c : Bool} {A B : Prop} (hc : c = true) (h : A) : if c = true then A else B := by
  rw [if_pos hc]
  exact h
theorem itF {c : Bool} {A B : Prop} (hc : c = false) (h : B) : if c = true then A else B := by
  rw [hc, if_neg Bool.false_ne_true]
  exact h
theorem sz {n : Nat} (h : n ≤ 100000) : n ≤ sizeLine := Evl.sz_of h
theorem szl {n : Nat} (h : n < 100000) : n < sizeLine := Evl.sz_lt h
/-! ### data stays where what was tracked stays -/
mutual
theorem dp_ex {K : PySem.W.Frag} {H H' : Hp} (e : Ex H H') : ∀ {d : PyData} {v : V}, Dp K H v d → Dp K H' v d
  | _, _, .non => .non
  | _, _, .bl b => .bl b
  | _, _, .int i => .int i
  | _, _, .str x => .str x
  | _, _, .lst h a => .lst (Evl.ex_l e h) (dpA_ex e a)
  | _, _, .tup h a => .tup (Evl.ex_t e h) (dpA_ex e a)
theorem dpA_ex {K : PySem.W.Frag} {H H' : Hp} (e : Ex H H') : ∀ {ds : List PyData} {vs : List V}, DpAll K H vs ds → DpAll K H' vs ds
  | _, _, .nil => .nil
  | _, _, .cons h a => .cons (dp_ex e h) (dpA_ex e a)
end
theorem dpA_len {K : PySem.W.Frag} {H : Hp} : ∀ {ds : List PyData} {vs : List V}, DpAll K H vs ds → vs.length = ds.length
  | _, _, .nil => rfl
  | _, _, .cons _ a => congrArg Nat.succ (dpA_len a)
theorem dpA_get {K : PySem.W.Frag} {H : Hp} : ∀ {ds : List PyData} {vs : List V}, DpAll K H vs ds → ∀ {i : Nat} {d : PyData}, ds[i]? = some d → ∃ v, vs[i]? = some v ∧ Dp K H v d
  | _, _, .nil, i, d, h => by simp at h
  | _, _, .cons h a, 0, d, e => by simp at e; subst e; exact ⟨_, rfl, h⟩
  | _, _, .cons h a, i + 1, d, e => by
    obtain ⟨v, e1, e2⟩ := dpA_get a (i := i) (d := d) (by simpa using e)
    exact ⟨v, by simpa using e1, e2⟩
theorem dpA_app {K : PySem.W.Frag} {H : Hp} : ∀ {ds es : List PyData} {vs ws : List V}, DpAll K H vs ds → DpAll K H ws es → DpAll K H (vs ++ ws) (ds ++ es)
  | _, _, _, _, .nil, b => b
  | _, _, _, _, .cons h a, b => .cons h (dpA_app a b)
theorem dpA_drop {K : PySem.W.Frag} {H : Hp} : ∀ {ds : List PyData} {vs : List V} (n : Nat), DpAll K H vs ds → DpAll K H (vs.drop n) (ds.drop n)
  | _, _, 0, a => a
  | _, _, _ + 1, .nil => .nil
  | _, _, n + 1, .cons _ a => dpA_drop n a
theorem dpA_take {K : PySem.W.Frag} {H : Hp} : ∀ {ds : List PyData} {vs : List V} (n : Nat), DpAll K H vs ds → DpAll K H (vs.take n) (ds.take n)
  | _, _, 0, _ => .nil
  | _, _, _ + 1, .nil => .nil
  | _, _, n + 1, .cons h a => .cons h (dpA_take n a)
theorem dp_tup {K : PySem.W.Frag} {H : Hp} {v : V} {ds : List PyData} (h : Dp K H v (.tuple ds)) : ∃ a xs, v = .ref a ∧ SqT K H a xs ∧ DpAll K H xs ds := by
  cases h with
  | tup h a => exact ⟨_, _, rfl, h, a⟩
theorem dp_lst {K : PySem.W.Frag} {H : Hp} {v : V} {ds : List PyData} (h : Dp K H v (.list ds)) : ∃ a xs, v = .ref a ∧ SqL K H a xs ∧ DpAll K H xs ds := by
  cases h with
  | lst h a => exact ⟨_, _, rfl, h, a⟩
theorem dp_str {K : PySem.W.Frag} {H : Hp} {v : V} {x : Str} (h : Dp K H v (.str x)) : v = .str x := by cases h; rfl
theorem dp_int {K : PySem.W.Frag} {H : Hp} {v : V} {x : Int} (h : Dp K H v (.int x)) : v = .int x := by cases h; rfl
theorem dp_non {K : PySem.W.Frag} {H : Hp} {v : V} (h : Dp K H v .none) : v = .non := by cases h; rfl
theorem exu {F H : Hp} {p : Addr} {o : HO} (e : Ex F H) (hp : H p = none) : Ex F (upd H p o) := fun a u h => by
  rw [upd_ne (ne_of_none (e a u h) hp)]
  exact e a u h
/-- what F holds stays where something that F does not hold changes -/
theorem exm {F H : Hp} {p : Addr} {o : HO} (e : Ex F H) (hp : F p = none) : Ex F (upd H p o) := Evl.Ex.mut e hp
/-- a new object, told of a heap with a name of its own -/
theorem new_of {H H1 : Hp} {p : Addr} {o : HO} (e : upd H p o = H1) (n : H p = none) : Ex H H1 ∧ H1 p = some o ∧ ∀ b, b ≠ p → H1 b = H b := by
  subst e
  exact ⟨exu (Evl.Ex.refl _) n, upd_same, fun b hb => upd_ne hb⟩
theorem set_of {H H1 : Hp} {p : Addr} {o : HO} (e : upd H p o = H1) : H1 p = some o ∧ ∀ b, b ≠ p → H1 b = H b := by
  subst e
  exact ⟨upd_same, fun b hb => upd_ne hb⟩
theorem set_ex {F H H1 : Hp} {p : Addr} (x : Ex F H) (n : F p = none) (o : ∀ b, b ≠ p → H1 b = H b) : Ex F H1 := fun b u e => by
  rw [o b (ne_of_none e n)]
  exact x b u e
theorem ex_none {F H : Hp} {p : Addr} (x : Ex F H) (n : H p = none) : F p = none := by
  cases e : F p with
  | none => rfl
  | some u => rw [x _ _ e] at n; cases n
end Fc

set_option maxRecDepth 100000
set_option maxHeartbeats 4000000
namespace Fc
open PySem PySem.Spec PyProof.Rows L2 FcR
open Evl (Ex)
/-! ### written tables with text keys: a key that is not there -/
theorem find_none_of {P : Params} {z : Str} : ∀ {l : List DictEntry} {ks : List Str}, l.map He.keyOf = He.keysIn P ks → z ∉ ks → l.find? (·.key.isStr z) = none ∧ l.any (·.refKey) = false
  | [], _, _, _ => ⟨rfl, rfl⟩
  | e :: r, [], h, _ => by cases h
  | e :: r, k :: ks, h, hz => by
    have h1 : He.keyOf e :: r.map He.keyOf = some (k, PyData.keyHash P k) :: He.keysIn P ks := h
    injection h1 with h2 h3
    obtain ⟨i1, i2⟩ := find_none_of (z := z) h3 fun y => hz (List.mem_cons_of_mem _ y)
    unfold He.keyOf at h2
    split at h2
    · rename_i x t q
      have h4 := Option.some.inj h2
      obtain ⟨h5, h6⟩ := Prod.mk.inj h4
      have ne : x ≠ z := fun y => hz (by rw [← y, h5]; exact List.mem_cons_self)
      constructor
      · rw [List.find?_cons]
        have e1 : e.key.isStr z = false := by
          rw [q]
          show (x == z) = false
          simpa using ne
        rw [e1]
        exact i1
      · rw [List.any_cons, i2]
        have e2 : e.refKey = false := by
          unfold DictEntry.refKey
          rw [q] <;> rfl
        rw [e2] <;> rfl
    · cases h2
theorem ns_none {K : PySem.W.Frag} {P : Params} {a : Addr} {ks : List Str} {z : Str} (h : He.dicW K a = some (He.keysIn P ks)) (hz : z ∉ ks) : PySem.W.nsIn K a z = some none := by
  unfold He.dicW at h
  unfold PySem.W.nsIn
  cases q : K.lookup a with
  | none => rw [q] at h; cases h
  | some o =>
    obtain ⟨oc, od, dt, osl⟩ := o
    rw [q] at h
    cases oc with
    | type c =>
      cases od with
      | none =>
        cases dt with
        | dict es n =>
          have h1 : (match decide (c = "dict") && (osl.isEmpty && !(a == sysModules)) with
            | true => some (es.toList.map He.keyOf)
            | false => none) = some (He.keysIn P ks) := h
          split at h1
          · obtain ⟨i1, i2⟩ := find_none_of (z := z) (Option.some.inj h1) hz
            show (match es.toList.find? (·.key.isStr z) with
              | some e => some (some e.val)
              | none => if es.toList.any (·.refKey) then none else some none) = some none
            rw [i1, i2]
            rfl
          · cases h1
        | _ => cases h
      | some b => cases dt <;> cases h
    | _ => cases od <;> cases dt <;> cases h
/-! ### the kinds of data -/
def tyD : PyData → String
  | .none => "NoneType"
  | .bool _ => "bool"
  | .int _ => "int"
  | .str _ => "str"
  | .list _ => "list"
  | .tuple _ => "tuple"
  | .dict _ => "dict"
theorem ty_lst {K : PySem.W.Frag} {H : Hp} {a : Addr} {xs : List V} (h : SqL K H a xs) : TyX K H (.ref a) (.type "list") := by
  rcases h with (h | ⟨o, h⟩) | ⟨o, its, n, hk, hc, _⟩
  · exact .base (.lst h)
  · exact .base (.frz h)
  · exact .kList hk hc
theorem ty_tup {K : PySem.W.Frag} {H : Hp} {a : Addr} {xs : List V} (h : SqT K H a xs) : TyX K H (.ref a) (.type "tuple") := by
  rcases h with (h | ⟨o, h⟩) | ⟨o, its, n, hk, hc, _⟩
  · exact .base (.tup h)
  · exact .fTuple h
  · exact .kTuple hk hc
theorem dp_ty {K : PySem.W.Frag} {H : Hp} {v : V} {d : PyData} (h : Dp K H v d) : TyX K H v (.type (tyD d)) := by
  cases h with
  | non => exact .base .non
  | bl b => exact .base (.bl b)
  | int i => exact .base (.int i)
  | str x => exact .base (.str x)
  | lst h _ => exact ty_lst h
  | tup h _ => exact ty_tup h
def isT (n : String) (d : PyData) : Bool := tyD d == n
theorem k_str {K : PySem.W.Frag} : ∀ d : PyData, PySem.W.kitOne K (.type (tyD d)) (.type "str") = some (isT "str" d)
  | .none => kit_ty (show kitB "NoneType" "str" = some false by decide +kernel)
  | .bool _ => kit_ty (show kitB "bool" "str" = some false by decide +kernel)
  | .int _ => kit_ty (show kitB "int" "str" = some false by decide +kernel)
  | .str _ => kit_ty (show kitB "str" "str" = some true by decide +kernel)
  | .list _ => kit_ty (show kitB "list" "str" = some false by decide +kernel)
  | .tuple _ => kit_ty (show kitB "tuple" "str" = some false by decide +kernel)
  | .dict _ => kit_ty (show kitB "dict" "str" = some false by decide +kernel)
theorem k_tuple {K : PySem.W.Frag} : ∀ d : PyData, PySem.W.kitOne K (.type (tyD d)) (.type "tuple") = some (isT "tuple" d)
  | .none => kit_ty (show kitB "NoneType" "tuple" = some false by decide +kernel)
  | .bool _ => kit_ty (show kitB "bool" "tuple" = some false by decide +kernel)
  | .int _ => kit_ty (show kitB "int" "tuple" = some false by decide +kernel)
  | .str _ => kit_ty (show kitB "str" "tuple" = some false by decide +kernel)
  | .list _ => kit_ty (show kitB "list" "tuple" = some false by decide +kernel)
  | .tuple _ => kit_ty (show kitB "tuple" "tuple" = some true by decide +kernel)
  | .dict _ => kit_ty (show kitB "dict" "tuple" = some false by decide +kernel)
theorem k_list {K : PySem.W.Frag} : ∀ d : PyData, PySem.W.kitOne K (.type (tyD d)) (.type "list") = some (isT "list" d)
  | .none => kit_ty (show kitB "NoneType" "list" = some false by decide +kernel)
  | .bool _ => kit_ty (show kitB "bool" "list" = some false by decide +kernel)
  | .int _ => kit_ty (show kitB "int" "list" = some false by decide +kernel)
  | .str _ => kit_ty (show kitB "str" "list" = some false by decide +kernel)
  | .list _ => kit_ty (show kitB "list" "list" = some true by decide +kernel)
  | .tuple _ => kit_ty (show kitB "tuple" "list" = some false by decide +kernel)
  | .dict _ => kit_ty (show kitB "dict" "list" = some false by decide +kernel)
theorem k_bool {K : PySem.W.Frag} : ∀ d : PyData, PySem.W.kitOne K (.type (tyD d)) (.type "bool") = some (isT "bool" d)
  | .none => kit_ty (show kitB "NoneType" "bool" = some false by decide +kernel)
  | .bool _ => kit_ty (show kitB "bool" "bool" = some true by decide +kernel)
  | .int _ => kit_ty (show kitB "int" "bool" = some false by decide +kernel)
  | .str _ => kit_ty (show kitB "str" "bool" = some false by decide +kernel)
  | .list _ => kit_ty (show kitB "list" "bool" = some false by decide +kernel)
  | .tuple _ => kit_ty (show kitB "tuple" "bool" = some false by decide +kernel)
  | .dict _ => kit_ty (show kitB "dict" "bool" = some false by decide +kernel)
def isIntB : PyData → Bool
  | .int _ => true
  | .bool _ => true
  | _ => false
theorem k_int {K : PySem.W.Frag} : ∀ d : PyData, PySem.W.kitOne K (.type (tyD d)) (.type "int") = some (isIntB d)
  | .none => kit_ty (show kitB "NoneType" "int" = some false by decide +kernel)
  | .bool _ => kit_ty (show kitB "bool" "int" = some true by decide +kernel)
  | .int _ => kit_ty (show kitB "int" "int" = some true by decide +kernel)
  | .str _ => kit_ty (show kitB "str" "int" = some false by decide +kernel)
  | .list _ => kit_ty (show kitB "list" "int" = some false by decide +kernel)
  | .tuple _ => kit_ty (show kitB "tuple" "int" = some false by decide +kernel)
  | .dict _ => kit_ty (show kitB "dict" "int" = some false by decide +kernel)
/-! ### names and statements -/
def letters : List Nat := (Str.ofString "abcdefghijklmnopqrstuvwxyz").cps.toList
def nameOk (x : Str) : Bool := (decide ((1 : Int) ≤ x.length) && decide ((x.length : Int) ≤ 8)) && x.cps.toList.all fun c => decide (c ∈ letters)
def isName : PyData → Bool
  | .str x => nameOk x
  | _ => false
def isNum (lo hi : Int) : PyData → Bool
  | .int n => decide (lo ≤ n) && decide (n ≤ hi)
  | _ => false
def kNamed : List Str := ["do", "call", "if", "while"]
def kJumps : List Str := ["break", "continue"]
def kSizes : List (Str × Int) := [("do", 2), ("call", 2), ("if", 4), ("while", 3), ("seq", 2), ("break", 2), ("continue", 2), ("return", 1), ("raise", 1), ("try", 3), ("final", 3)]
def nonEmptyT : PyData → Bool
  | .tuple (_ :: _) => true
  | _ => false
def isStm : PyData → Int → Bool
  | .tuple (.str k :: r), loops => (match kSizes.lookup k with
    | none => false
    | some n => if (r.length : Int) + 1 ≠ n then false else
      if k ∈ kNamed then isName (r.getD 0 .none) else if k ∈ kJumps then isNum 1 loops (r.getD 0 .none) else
        (if k ≠ "seq" then true else nonEmptyT (r.getD 0 .none)))
  | _, _ => false
/-- the parts that are looked at -/
def partsD : PyData → List PyData
  | .tuple (.str k :: r) => if k = "seq" then (match r with
      | .tuple ps :: _ => ps.take 401
      | _ => []) else if k ∈ kNamed then r.drop 1 else if k = "try" ∨ k = "final" then r else []
  | _ => []
end Fc

set_option maxRecDepth 100000
set_option maxHeartbeats 4000000
namespace FcX
open PySem PySem.Spec PyProof.Rows PySem.HandSPX
/-! ### an own exception class called with keywords -/
section
variable {M : Model} {A : Around} {E : Value → Shared → Prop} {h : Heap} {g : Array GenState} {d : Drawn} {t : Nat} {os : OsState}
variable {nm q : Str} {C N : Addr} {bs bm bmB : List Value} {hdct : Bool} {sn : List Str} {sub : List Value} {ab : Bool} {col : Option Bool} {dd : Option Addr} {k0 k1 k2 k3 k5 : Option Value} {B newId initId : String}
theorem newcheck (F : ExcBaseFacts B newId initId bmB) (hT : ∀ X : String, bm.contains (.type X) = bmB.contains (.type X)) {us : List Value} {kw : List (Str × Value)} {Q : Unit → Shared → Prop}
    (hC : h.get? C = some (excClassObj nm q C N bs bm hdct sn sub ab col dd k0 k1 k2 k3 k5 newId)) (hq : Q () ⟨h, g, d, t, os⟩) : wpAny M A (checkBuiltinCall newId ⟨.ref C :: us, kw⟩) Q E ⟨h, g, d, t, os⟩ := by
  have hb : (Value.ref C :: bm).contains (.type B) = true := by rw [List.contains_cons, hT, F.hasB, Bool.or_true]
  have ns := F.noStar
  simp only [checkBuiltinCall, F.newKind, F.newSplit, F.newRow]
  repeat (first | refine wpAny_loadPart_at hC ?_ | (refine wpAny_isSubtype_exc hC ?_; rw [hb]) | refine wpAny_staticBase_exc hC ?_ | refine wpAny_madeBy_exc hC ?_ | simp only [bne_self_eq_false, Bool.false_eq_true, if_false] | wp_step)
  exact hq
end
section
variable {prog : Program} {w : World} {A : Around} {E : Value → Shared → Prop} {R : Result → Shared → Prop} {h : Heap} {g : Array GenState} {d : Drawn} {t : Nat} {os : OsState}
variable {nm q : Str} {C N : Addr} {bs bm bmB : List Value} {hdct : Bool} {sn : List Str} {sub : List Value} {ab : Bool} {col : Option Bool} {dd : Option Addr} {k0 k1 k2 k3 k5 : Option Value} {B newId initId : String}
theorem newK (F : ExcBaseFacts B newId initId bmB) (hT : ∀ X : String, bm.contains (.type X) = bmB.contains (.type X)) {us : List Value} {kw : List (Str × Value)}
    (hC : h.get? C = some (excClassObj nm q C N bs bm hdct sn sub ab col dd k0 k1 k2 k3 k5 newId))
    (hq : R (.ok (.ret (.ref (h.objs.size + 1)))) ⟨(h.push (W.kdv_tup us)).push (excO C h.objs.size), g, d, t, os⟩) (hz : us.length ≤ sizeLine) :
    codeAny (model prog w) A (.builtin newId ⟨.ref C :: us, kw⟩) R ⟨h, g, d, t, os⟩ := by
  have hends := F.ends
  have hcB : (Value.ref C :: bm).contains (.type B) = true := by rw [List.contains_cons, hT, F.hasB, Bool.or_true]
  have a1 : (Value.ref C :: bm).contains (.type "AttributeError") = false := by rw [List.contains_cons, hT, F.noAttr]; rfl
  have a2 : (Value.ref C :: bm).contains (.type "NameError") = false := by rw [List.contains_cons, hT, F.noName]; rfl
  refine codeAny_builtinAt F.entry ?_
  unfold Builtin.«BaseException.__new__»
  refine PySem.wpAt_bind ?_
  show PySem.wpAt _ _ _ (stack >>= _) _ _ _
  refine PySem.wpAt_bind (PySem.wpAt_stack fun p below => PySem.wpAt_of_wpAny ?_)
  wp_walk
  refine PySem.wpAt_of_wpAny ?_
  rw [F.owner]
  repeat (first | with_reducible refine wpAny_madeHere_exc F.canon hC ?_ | with_reducible refine wpAny_loadPart_at hC ?_ | (with_reducible refine wpAny_isSubtype_exc hC ?_; first | rw [hcB] | rw [a1] | rw [a2]) | wp_step)
  show R _ _
  rw [Heap.size_push]
  exact hq
theorem typeK (F : ExcBaseFacts B newId initId bmB) (hT : ∀ X : String, bm.contains (.type X) = bmB.contains (.type X)) {us : List Value} {kw : List (Str × Value)} {fI : Addr} {Q : Fin → Shared → Prop}
    (hC : h.get? C = some (excClassObj nm q C N bs bm hdct sn sub ab col dd k0 k1 k2 k3 k5 newId))
    (hi : W.Looks (model prog w) h (typeLookup (.ref C) "__init__") (some (.ref fI))) (hb : ∀ self, W.Looks (model prog w) h (bindSpecial (.ref fI) self) (.ref fI, [self])) (hz : us.length ≤ sizeLine)
    (hq : codeAny (model prog w) A (.call (.ref fI) ⟨.ref (h.objs.size + 1) :: us, kw⟩)
      (fun r s' => match r with | .ok (.ret v) => v = .none ∧ Q (.done (.ret (.ref (h.objs.size + 1)))) s' | .ok _ => False | .error e => E e s')
      ⟨(h.push (W.kdv_tup us)).push (excO C h.objs.size), g, d, t, os⟩) :
    wpAny (model prog w) A (Builtin.«type.__call__» ⟨.ref C :: us, kw⟩) Q E ⟨h, g, d, t, os⟩ := by
  repeat (first | with_reducible refine wpAny_loadPart_at hC ?_ | with_reducible refine wpAny_madeBy_exc hC ?_ | wp_step)
  refine codeAny_call_builtin_code (Code.quiet_builtin _ F.quiet) (newcheck F hT hC ?_)
  refine newK F hT hC ?_ hz
  show wpAny _ _ _ _ _ _
  have kp : ∀ b o, h.get? b = some o → ((h.push (W.kdv_tup us)).push (excO C h.objs.size)).get? b = some o := fun b o e => Heap.get?_push_of_some _ (Heap.get?_push_of_some _ e)
  have hC' := kp _ _ hC
  have he : ((h.push (W.kdv_tup us)).push (excO C h.objs.size)).get? (h.objs.size + 1) = some (excO C h.objs.size) := by heap_get
  have cc : (Value.ref C :: bm).contains (.ref C) = true := by simp
  have i1 := hi.keeps kp
  have b1 := (hb (.ref (h.objs.size + 1))).keeps kp
  unfold isInstance
  repeat (first | with_reducible refine wpAny_loadPart_at he ?_ | (with_reducible refine wpAny_isSubtype_exc hC' ?_; rw [cc]) | wp_step)
  show wpAny _ _ (typeLookup (.ref C) _) _ _ _
  refine i1.at ?_
  refine wpAny_holding (wpAny_bind (b1.at ?_))
  refine wpAny_bind (wpAny_call (codeAny_mono hq fun r s' z => ?_))
  rcases r with e | (v | _ | _ | _) <;> first | exact z | exact z.elim | skip
  obtain ⟨rfl, z⟩ := z
  first
    | exact wpAny_pure (wpAny_pure z)
    | (wp_walk; exact z)
theorem callK (F : ExcBaseFacts B newId initId bmB) (hT : ∀ X : String, bm.contains (.type X) = bmB.contains (.type X)) {us : List Value} {kw : List (Str × Value)} {fI : Addr}
    (hC : h.get? C = some (excClassObj nm q C N bs bm hdct sn sub ab col dd k0 k1 k2 k3 k5 newId))
    (hi : W.Looks (model prog w) h (typeLookup (.ref C) "__init__") (some (.ref fI))) (hb : ∀ self, W.Looks (model prog w) h (bindSpecial (.ref fI) self) (.ref fI, [self])) (hz : us.length ≤ sizeLine)
    (hq : codeAny (model prog w) (A.under (.builtin "type.__call__" ⟨.ref C :: us, kw⟩)) (.call (.ref fI) ⟨.ref (h.objs.size + 1) :: us, kw⟩) (W.InitBack (h.objs.size + 1) R)
      ⟨(h.push (W.kdv_tup us)).push (excO C h.objs.size), g, d, t, os⟩) :
    codeAny (model prog w) A (.call (.ref C) ⟨us, kw⟩) R ⟨h, g, d, t, os⟩ := by
  have f1 := tc_lookup
  have f2 := tc_bind (.ref C)
  have hy : (⟨h, g, d, t, os⟩ : Shared).TypeIs (.ref C) "type" := ⟨_, hC, rfl⟩
  refine codeAny_of_tree ?_
  show wpAny _ _ (callAny (.ref C) _) _ _ _
  repeat (any_goals (first | assumption | with_reducible refine wpAny_loadPart_at hC ?_ | wp_step))
  refine ⟨rfl, ?_⟩
  refine codeAny_call_builtin_at (Code.quiet_builtin _ (by decide +kernel)) entry_typeCall (wpAny_check_type_call_sub hC (typeK F hT hC hi hb hz ?_))
  refine codeAny_mono hq fun r s' z => ?_
  rcases r with e | (v | _ | _ | _) <;> exact z
end
end FcX

set_option maxRecDepth 100000
set_option maxHeartbeats 4000000
namespace FcX
open PySem PySem.Spec PyProof.Rows L2 FcR
/-! ### own exception classes over ArithmeticError -/
abbrev aeT : List Value := [.type "ArithmeticError", .type "Exception", .type "BaseException", .type "object"]
structure XC (K : PySem.W.Frag) (C : Addr) : Prop where
  ini : PySem.W.excInitIn K C aeT "ArithmeticError.__new__" = true
  over : PySem.W.excOver K C aeT = true
  sa : PySem.W.findIn K (.ref C) "__setattr__" = some (some (.builtin "object.__setattr__"))
  ga : PySem.W.findIn K (.ref C) "__getattribute__" = some (some (.builtin "BaseException.__getattribute__"))
  gt : PySem.W.findIn K (.ref C) "__getattr__" = some none
  ex : PySem.W.subIn K (.ref C) (.type "BaseException") = some true
  ty : PySem.W.typeIn K (.ref C) = some (.type "type")
  kp : PySem.W.keepIn K (.ref C) = true
  hd : PySem.W.hasDictIn K C = true
  cl : PySem.W.findIn K (.ref C) "__class__" = some (some (.builtin "object.__class__"))
  cg : PySem.W.specialIn K (.builtin "object.__class__") "__get__" = some (some (.builtin "getset_descriptor.__get__"))
  ct : PySem.W.takesIn K (.builtin "object.__class__") = some true
  mo : PySem.W.mroIn K C (.type "object") = some true
def xcB (K : PySem.W.Frag) (C : Addr) : Bool := PySem.W.excInitIn K C aeT "ArithmeticError.__new__" && (PySem.W.excOver K C aeT && (
  decide (PySem.W.findIn K (.ref C) "__setattr__" = some (some (.builtin "object.__setattr__"))) && (decide (PySem.W.findIn K (.ref C) "__getattribute__" = some (some (.builtin "BaseException.__getattribute__"))) && (
  decide (PySem.W.findIn K (.ref C) "__getattr__" = some none) && (decide (PySem.W.subIn K (.ref C) (.type "BaseException") = some true) && (decide (PySem.W.typeIn K (.ref C) = some (.type "type")) && (PySem.W.keepIn K (.ref C) && (PySem.W.hasDictIn K C && (
  decide (PySem.W.findIn K (.ref C) "__class__" = some (some (.builtin "object.__class__"))) && (decide (PySem.W.specialIn K (.builtin "object.__class__") "__get__" = some (some (.builtin "getset_descriptor.__get__"))) && (
  decide (PySem.W.takesIn K (.builtin "object.__class__") = some true) && decide (PySem.W.mroIn K C (.type "object") = some true))))))))))))
theorem xcB_ok {K : PySem.W.Frag} {C : Addr} (h : xcB K C = true) : XC K C := by
  unfold xcB at h
  simp only [Bool.and_eq_true, decide_eq_true_eq] at h
  obtain ⟨h1, h2, h3, h4, h5, h6, h7, h8, h9, h10, h11, h12, h13⟩ := h
  exact ⟨h1, h2, h3, h4, h5, h6, h7, h8, h9, h10, h11, h12, h13⟩
/-- its __init__, and the field f that it stores -/
structure XI (K : PySem.W.Frag) (C fI : Addr) (f : Str) : Prop where
  ini : PySem.W.findIn K (.ref C) "__init__" = some (some (.ref fI))
  fn : PySem.W.typeIn K (.ref fI) = some (.type "function")
  tk : PySem.W.takerIn K C f = some none
  no : PySem.W.findIn K (.ref C) f = some none
def xiB (K : PySem.W.Frag) (C fI : Addr) (f : Str) : Bool := decide (PySem.W.findIn K (.ref C) "__init__" = some (some (.ref fI))) && (decide (PySem.W.typeIn K (.ref fI) = some (.type "function")) && (decide (PySem.W.takerIn K C f = some none) && decide (PySem.W.findIn K (.ref C) f = some none)))
theorem xiB_ok {K : PySem.W.Frag} {C fI : Addr} {f : Str} (h : xiB K C fI f = true) : XI K C fI f := by
  unfold xiB at h
  simp only [Bool.and_eq_true, decide_eq_true_eq] at h
  obtain ⟨h1, h2, h3, h4⟩ := h
  exact ⟨h1, h2, h3, h4⟩
section
variable {X : Cx} {pins : List (Addr × Obj)} {σ : L2.St} {H : Hp} {s : Shared} {a C fI : Addr} {f : Str} {y : V} {u : Value} {A : Around} {E : Value → Shared → Prop}
/-- the first field of an exception that is being made -/
theorem xst {Q : Unit → Shared → Prop} (T : XC X.K C) (ht : PySem.W.takerIn X.K C f = some none) (I : Inv X pins σ H s) (e : H a = some (exo a C none)) (ry : RelV y u)
    (h : ∀ dx s', H dx = none → dx ≠ a → Inv X pins σ (upd (upd H dx (exd dx [(f, y)])) a (exo a C (some dx))) s' → Q () s') : wpAny (model X.prog X.w) A (setAttr (.ref a) f u) Q E s := by
  obtain ⟨t1, ho⟩ := exo_at I.hok e
  obtain ⟨hp, g, d, t, os⟩ := s
  obtain ⟨cd, hc, hcd⟩ := PySem.W.any_some T.hd
  have hlt := Heap.lt_size ho
  have hne : hp.objs.size ≠ a := Nat.ne_of_gt hlt
  refine PySem.W.set_plain I.kIn (ox := PySem.W.excObj C t1 none .none) (od := none) ⟨ho, rfl, rfl, trivial⟩ T.sa ?_
  refine PySem.W.osa_openX (od := none) (ox := PySem.W.excObj C t1 none .none) F.store_ArithmeticError I.kIn ⟨ho, rfl, rfl, trivial⟩ T.over ht fun b => ?_
  refine wpAny_bind (wpAny_pure (wpAny_bind (PySem.W.instanceDict_exc (c2 := .none) ho (PySem.W.looks_clsIn I.kIn hc) hcd ?_)))
  show wpAny _ _ (Builtin.ObjectAttr.storeInDict hp.objs.size _ f u) _ _ _
  refine PySem.HandSPX.store_in_new ?_ fun h' tk' hn' sb => ?_
  · exact ⟨_, #[], _, (Heap.get?_update_ne _ _ _ _ hne).trans (Heap.get?_push_at rfl rfl), rfl, fun e he => absurd he (by simp), fun _ => rfl⟩
  · have ho1 : (hp.push (PySem.W.dictOf [] 0)).get? a = some (PySem.W.excObj C t1 none .none) := Heap.get?_push_of_some _ ho
    have hx : h'.get? a = some (PySem.W.excObj C t1 (some hp.objs.size) .none) := (sb.2 a hne.symm).trans (Heap.get?_update_self _ ho1 rfl)
    have k : ∀ b o, b ≠ a → hp.get? b = some o → h'.get? b = some o := fun b o hb q =>
      (sb.2 b (Nat.ne_of_lt (Heap.lt_size q))).trans ((Heap.get?_update_ne _ _ _ _ hb).trans (Heap.get?_push_of_some _ q))
    have hnd : H hp.objs.size = none := I.hok.fresh (Nat.le_refl _)
    have nd : ∀ {b : Addr} {o : Obj}, hp.get? b = some o → b ≠ hp.objs.size := fun q => Nat.ne_of_lt (Heap.lt_size q)
    have na : ∀ {b : Addr}, H b = none → b ≠ a := fun n z => by rw [z, e] at n; cases n
    have U : Un X.fs [] H (upd (upd H hp.objs.size (exd hp.objs.size [(f, y)])) a (exo a C (some hp.objs.size))) hp h' := {
      keep := fun b o q n _ _ => k b o (na n) q
      slot := fun b o q n _ _ => ⟨o.slots, k b o (na n) q⟩
      free := fun b o q n _ => by rw [upd_ne (na n), upd_ne (nd q)]; exact n
      there := fun b o q _ => by
        by_cases hb : b = a
        · exact ⟨_, by rw [hb]; exact hx⟩
        · exact ⟨o, k b o hb q⟩
      tups := fun b xs q => by rw [upd_ne (at_ne e q exo_tup), upd_ne (ne_of_none q hnd)]; exact q
      frzs := fun b o v q => by rw [upd_ne (at_ne e q exo_frz), upd_ne (ne_of_none q hnd)]; exact q
      tbls := fun b ps q => ⟨#[], by rw [upd_ne (at_ne e q exo_tbl), upd_ne (ne_of_none q hnd), q]; simp⟩ }
    refine h hp.objs.size _ hnd hne (I.un (t' := tk') U fun b o q => ?_)
    by_cases hb : b = a
    · subst hb
      rw [upd_same] at q
      cases q
      exact exo_ok hx
    · rw [upd_ne hb] at q
      by_cases hd : b = hp.objs.size
      · subst hd
        rw [upd_same] at q
        cases q
        exact exd_ok hn' (relO_put (fs := []) ry fun g => True.intro)
      · rw [upd_ne hd] at q
        refine (I.hok b o q).stay (fun c v hc z => k c v ?_ z) (fun c hc => ?_) (fun c xs hc => ?_)
        · rcases hc with hc | hc
          · rw [hc]
            exact hb
          · exact at_ne e hc exo_own
        · rw [upd_ne (at_ne e hc exo_own), upd_ne (ne_of_none hc hnd)]
          exact hc
        · rw [upd_ne (at_ne e hc exo_tup), upd_ne (ne_of_none hc hnd)]
          exact hc
end
/-- self.f = e, in the __init__ of such a class -/
def tXst (K : PySem.W.Frag) (f : Str) (to te : TE) : TS := fun D σ H => te σ H fun y H1 => to σ H1 fun x H2 => ∃ a C : Addr, x = .ref a ∧ XC K C ∧ PySem.W.takerIn K C f = some none ∧ H2 a = some (exo a C none) ∧
  ∀ dx, H2 dx = none → dx ≠ a → D.nx σ (upd (upd H2 dx (exd dx [(f, y)])) a (exo a C (some dx)))
theorem ps_xst {X : Cx} {o e : Expr} {to te : TE} {f : Str} {p pos : Pos} (ho : PE X o to) (he : PE X e te) (hs : swapsWith e (some (.Attribute o f p)) pos.line X.env = pure false := by rfl) : PS X (.Assign [.Attribute o f p] e pos) (tXst X.K f to te) := by
  refine ⟨fun pins s σ H D I h => ?_⟩
  refine plainObj_wpAny_Assign_Attribute (thn (he.run pins s σ H _ I h) fun v s1 ⟨y, H1, I1, r1, q1⟩ => thn (ho.run pins s1 σ H1 _ I1 q1) fun u s2 ⟨x, H2, I2, r2, a, C, ex, T, ht, ea, q⟩ => ?_) hs
  subst ex
  obtain rfl : u = Value.ref a := r2
  exact xst T ht I2 ea r1 fun dx s' n ne J => ⟨σ, _, J, q dx n ne⟩
/-- what such an __init__ promises -/
def spX (K : PySem.W.Frag) (C : Addr) (f : Str) : Sp := fun vs H Q _ => ∃ (a : Addr) (y : V), vs = [.ref a, y] ∧ H a = some (exo a C none) ∧ ∀ dx, H dx = none → dx ≠ a → Q .non (upd (upd H dx (exd dx [(f, y)])) a (exo a C (some dx)))
/-- a made exception as a value -/
def XV (H : Hp) (C : Addr) (f : Str) (y : V) (a : Addr) : Prop := ∃ d, H a = some (exo a C (some d)) ∧ H d = some (exd d [(f, y)])
def tMkX (C : Addr) (f : Str) (ta : TA) : TE := fun σ H Q => ta σ H fun vs H1 => ∃ y, vs = [y] ∧ ∀ (a : Addr) (H2 : Hp), Evl.Ex H1 H2 → H1 a = none → XV H2 C f y a → Q (.ref a) H2
theorem XV.ex {H H' : Hp} {C : Addr} {f : Str} {y : V} {a : Addr} (h : XV H C f y a) (e : Evl.Ex H H') : XV H' C f y a := by
  obtain ⟨d, h1, h2⟩ := h
  exact ⟨d, e _ _ h1, e _ _ h2⟩
theorem mk_ex {H : Hp} {C a dx : Addr} {f : Str} {y : V} (h1 : H a = none) (h2 : H dx = none) (h3 : dx ≠ a) : Evl.Ex H (upd (upd (upd H a (exo a C none)) dx (exd dx [(f, y)])) a (exo a C (some dx))) ∧ XV (upd (upd (upd H a (exo a C none)) dx (exd dx [(f, y)])) a (exo a C (some dx))) C f y a := by
  refine ⟨fun b o e => ?_, dx, upd_same, by rw [upd_ne h3, upd_same]⟩
  rw [upd_ne (ne_of_none e h1), upd_ne (ne_of_none e h2), upd_ne (ne_of_none e h1)]
  exact e
section
variable {X : Cx} {CX : CXT} {k : Nat} {C fI : Addr} {fd : FuncData} {f n x : Str} {p pos kpos : Pos} {e : Expr} {es : List Expr} {ta : TA} {te : TE}
theorem run_mkX {pins : List (Addr × Obj)} {σ : L2.St} {H : Hp} {s : Shared} {Q : VK} {us : List Value} {kw : List (Str × Value)} {v : Value} {y : V} (T : XC X.K C) (N : XI X.K C fI f) (G : FnOk X.prog X.w X.K X.mg X.base CX k fI fd ["self", n] (spX X.K C f)) (hr : Room (k + 1) X.A)
    (hb : ∀ (s : Shared) (o : Value), X.K.In s.heap → BindsTo s fd ⟨o :: us, kw⟩ [("self", o), (n, v)]) (hz : us.length ≤ 1000) (hx : Passes CX X (fun _ _ _ => False)) (I : Inv X pins σ H s) (r : RelV y v)
    (q : ∀ (a : Addr) (H2 : Hp), Evl.Ex H H2 → H a = none → XV H2 C f y a → Q (.ref a) H2) :
    wpAny (model X.prog X.w) X.A (call (.ref C) us kw) (EP X pins σ Q) X.xe s := by
  obtain ⟨hp, g, dr, tk, os⟩ := s
  obtain ⟨nm, N', qn, bs, bm, hdct, sn, sub, ab, col, dd, k0, k1, k2, k3, k5, hC, hT⟩ := PySem.W.excInit_of I.kIn T.ini
  have hsz : hp.objs.size ≤ hp.objs.size + 1 := Nat.le_succ _
  have hn : H (hp.objs.size + 1) = none := I.hok.fresh hsz
  have kk : ∀ b o, hp.get? b = some o → ((hp.push (PySem.W.kdv_tup us)).push (PySem.HandSPX.excO C hp.objs.size)).get? b = some o := fun b o e => Heap.get?_push_of_some _ (Heap.get?_push_of_some _ e)
  have hget : ((hp.push (PySem.W.kdv_tup us)).push (PySem.HandSPX.excO C hp.objs.size)).get? (hp.objs.size + 1) = some (PySem.HandSPX.excO C hp.objs.size) := by heap_get
  have I2 : Inv X pins σ (upd H (hp.objs.size + 1) (exo (hp.objs.size + 1) C none)) ⟨(hp.push (PySem.W.kdv_tup us)).push (PySem.HandSPX.excO C hp.objs.size), g, dr, tk, os⟩ :=
    I.laid (t' := tk) (a := hp.objs.size + 1) (o := exo (hp.objs.size + 1) C none) (h' := (hp.push (PySem.W.kdv_tup us)).push (PySem.HandSPX.excO C hp.objs.size)) kk hsz (exo_ok hget)
  have hq : spX X.K C f [.ref (hp.objs.size + 1), y] (upd H (hp.objs.size + 1) (exo (hp.objs.size + 1) C none)) (fun z H2 => z = .non ∧ Q (.ref (hp.objs.size + 1)) H2) (fun _ _ _ => False) :=
    ⟨hp.objs.size + 1, y, rfl, upd_same, fun dx h1 h2 => ⟨rfl, by
      obtain ⟨z1, z2⟩ := mk_ex (C := C) (f := f) (y := y) hn (by rw [upd_ne h2] at h1; exact h1) h2
      exact q (hp.objs.size + 1) _ z1 hn z2⟩⟩
  have hus : us.length ≤ sizeLine := by
    rw [sizeLine_eq]
    omega
  refine wpAny_call (callK F.excBase_ArithmeticError hT hC (PySem.W.looks_findIn I.kIn N.ini) (fun self => PySem.W.bind_fn I.kIn self N.fn) hus
    (codeAny_mono (G.run _ X.stack _ _ ⟨Value.ref (hp.objs.size + 1) :: us, kw⟩ [Value.ref (hp.objs.size + 1), v] [V.ref (hp.objs.size + 1), y] _ (fun _ _ _ => False) (hr.make C us kw) (I2.env0.make C us kw) (hb _ _ I2.kIn) (.cons (show RelV (V.ref (hp.objs.size + 1)) (Value.ref (hp.objs.size + 1)) from rfl) (.cons r .nil)) hq) fun r s' hq' => ?_))
  cases r with
  | error er => exact hx pins σ _ _ er s' I2 hq'
  | ok fl =>
    cases fl with
    | ret z =>
      obtain ⟨v3, H3, I3, rv, ev, q3⟩ := I2.after hq'
      subst ev
      exact ⟨rv, ⟨V.ref (hp.objs.size + 1), H3, I3, rfl, q3⟩⟩
    | next => exact False.elim hq'
    | brk => exact False.elim hq'
    | cont => exact False.elim hq'
/-- C(e) -/
theorem pe_mkX (T : XC X.K C) (N : XI X.K C fI f) (G : FnOk X.prog X.w X.K X.mg X.base CX k fI fd ["self", n] (spX X.K C f)) (hr : Room (k + 1) X.A) (hb : Binds X.K fd ["self", n] []) (hx : Passes CX X (fun _ _ _ => False)) (hg : Gl X x) (hm : X.mg x = some (.ref C)) (ha : PE X e te)
    (hdb : (x == ("__debug__" : Str)) = false := by decide) (he : starEach [e] X.env = (false, eval e X.env) :: starEach [] X.env := by rfl) : PE X (.Call (.Name x p) [e] [] pos) (tMkX C f (tCons te tNil)) := by
  refine ⟨fun pins s σ H Q I h => ?_⟩
  refine wpAny_Call_Name_kw (ld_glob I hg hm ?_ hdb)
  refine PySem.W.callWith_K (h₀ := X.base) I.ok.mod.kin T.kp (thn ((pa_cons (hs := he) ha pa_nil).run pos pins s σ H _ I h) fun us s1 ⟨vs, H1, I1, r1, y, ev, q⟩ => ⟨I1.kIn, ?_⟩) he (by rfl)
  subst ev
  cases r1 with
  | @cons _ v _ _ r1 r2 =>
    cases r2
    exact run_mkX (kw := []) T N G hr (fun s o hk => hb s [o, v] hk rfl) (show 1 ≤ 1000 by decide) hx I1 r1 q
/-- C(n = e) -/
theorem pe_mkXK (T : XC X.K C) (N : XI X.K C fI f) (G : FnOk X.prog X.w X.K X.mg X.base CX k fI fd ["self", n] (spX X.K C f)) (hr : Room (k + 1) X.A) (hb : ∀ (s : Shared) (o v : Value), X.K.In s.heap → BindsTo s fd ⟨[o], [(n, v)]⟩ [("self", o), (n, v)]) (hx : Passes CX X (fun _ _ _ => False)) (hg : Gl X x) (hm : X.mg x = some (.ref C)) (ha : PE X e te)
    (hdb : (x == ("__debug__" : Str)) = false := by decide) : PE X (.Call (.Name x p) [] [⟨some n, e, kpos⟩] pos) (tMkX C f (tCons te tNil)) := by
  refine ⟨fun pins s σ H Q I h => ?_⟩
  refine wpAny_Call_Name_kw (ld_glob I hg hm ?_ hdb)
  refine PySem.W.callWith_KW0 (h₀ := X.base) I.ok.mod.kin T.kp rfl (thn ((pk_cons ha pk_nil).run pos pins s σ H _ I h) fun us s1 ⟨vs, H1, I1, r1, y, ev, q⟩ => ⟨I1.kIn, ?_⟩)
  subst ev
  cases r1 with
  | @cons _ v _ _ r1 r2 =>
    cases r2
    exact run_mkX (us := []) (kw := [(n, v)]) T N G hr (fun s o hk => hb s o v hk) (by decide) hx I1 r1 q
/-- e.f -/
def tXfv (K : PySem.W.Frag) (f : Str) (te : TE) : TE := fun σ H Q => te σ H fun x H1 => ∃ (a C : Addr) (y : V), x = .ref a ∧ XC K C ∧ PySem.W.findIn K (.ref C) f = some none ∧ XV H1 C f y a ∧ Q y H1
theorem pe_xfv (ha : PE X e te) (hb : attributeBase e f X.env (eval e X.env) = eval e X.env := by rfl) : PE X (.Attribute e f pos) (tXfv X.K f te) := by
  refine ⟨fun pins s σ H Q I h => ?_⟩
  refine attr_of hb (thn (ha.run pins s σ H _ I h) fun u s1 ⟨x, H1, I1, rx, a, C, y, ex, T, hno, ⟨d, ea, ed⟩, q⟩ => ?_)
  subst ex
  obtain rfl : u = Value.ref a := rx
  obtain ⟨t1, ho⟩ := exo_at I1.hok ea
  obtain ⟨mA, hns, hr⟩ := exd_at I1.hok ed
  obtain ⟨od, hod, hl⟩ := lookIn_ns hns
  obtain ⟨z, hz, rz⟩ := RelO.some_of (v := y) (o := mA f) (by
    have w := hr f
    rw [lookup_put, if_pos rfl] at w
    exact w)
  have J : PySem.W.InstAt s1.heap a (PySem.W.excObj C t1 (some d) .none) C (some od) := ⟨ho, rfl, rfl, hod⟩
  exact HandSPX.exc_get I1.kIn J T.ga T.gt T.ex (PySem.W.findObj_own T.hd hno rfl (by rw [hl, hz])) (handed_of rz) ⟨y, H1, I1.tok _, rz, q⟩
/-- an exception object: its class is told -/
def XO (H : Hp) (C a : Addr) : Prop := (∃ d fs, H a = some (exo a C (some d)) ∧ H d = some (exd d fs)) ∨ H a = some (exo a C none)
theorem xo_kit {pins : List (Addr × Obj)} {σ : L2.St} {H : Hp} {s : Shared} {a : Addr} (T : XC X.K C) (I : Inv X pins σ H s) (h : XO H C a) : ∃ P : Heap → Prop, PySem.W.KitX X.K (.ref a) (.ref C) P ∧ P s.heap := by
  have hc : (PySem.W.clsIn X.K C).isSome = true := by
    obtain ⟨cd, hc, _⟩ := PySem.W.any_some T.hd
    rw [hc]
    rfl
  rcases h with ⟨d, fs, ea, ed⟩ | ea
  · obtain ⟨t1, ho⟩ := exo_at I.hok ea
    obtain ⟨mA, hns, _⟩ := exd_at I.hok ed
    obtain ⟨od, hod, _⟩ := lookIn_ns hns
    exact ⟨_, PySem.W.kitx_exc (ox := PySem.W.excObj C t1 (some d) .none) (od := some od) hc T.ga T.gt T.ex T.cl T.cg T.ct T.mo, ⟨ho, rfl, rfl, hod⟩⟩
  · obtain ⟨t1, ho⟩ := exo_at I.hok ea
    exact ⟨_, PySem.W.kitx_exc (ox := PySem.W.excObj C t1 none .none) (od := none) hc T.ga T.gt T.ex T.cl T.cg T.ct T.mo, ⟨ho, rfl, rfl, trivial⟩⟩
/-- isinstance(e, c) -/
def rIsX (K : PySem.W.Frag) : List V → Hp → VK → Prop := fun xs H Q => ∃ (a C : Addr) (c : V) (u : Value) (b : Bool), xs = [.ref a, c] ∧ ClsV c u ∧ XC K C ∧ XO H C a ∧ PySem.W.kitOne K (.ref C) u = some b ∧ Q (.bl b) H
theorem call_isX : CallR X (.builtin "isinstance") (rIsX X.K) := by
  intro pins s σ H xs us Q I r h
  obtain ⟨a, C, c, u, b, rfl, k, T, xo, e, q⟩ := h
  obtain ⟨u1, u2, rfl, r1, r2⟩ := vals2 r
  have e2 := k.eq r2
  subst e2
  obtain rfl : u1 = Value.ref a := r1
  obtain ⟨P, Z, p⟩ := xo_kit T I xo
  exact PySem.W.kia_one Z I.kIn p e (fun z => nomatch z) fun tk => ⟨.bl b, H, I.tok tk, rfl, q⟩
/-- isinstance(e, (c, ..)) -/
def rIsXT (K : PySem.W.Frag) : List V → Hp → VK → Prop := fun xs H Q => ∃ (a C tp : Addr) (cs : List V) (us : List Value) (b : Bool), xs = [.ref a, .ref tp] ∧ H tp = some (.tup cs) ∧ Paired ClsV cs us ∧ XC K C ∧ XO H C a ∧ PySem.W.kitAny K (.ref C) us = some b ∧ Q (.bl b) H
theorem call_isXT : CallR X (.builtin "isinstance") (rIsXT X.K) := by
  intro pins s σ H xs us Q I r h
  obtain ⟨a, C, tp, cs, vs, b, rfl, htp, k, T, xo, e, q⟩ := h
  obtain ⟨u1, u2, rfl, r1, r2⟩ := vals2 r
  obtain rfl : u1 = Value.ref a := r1
  obtain rfl : u2 = Value.ref tp := r2
  obtain ⟨P, Z, p⟩ := xo_kit T I xo
  obtain ⟨hz, ws, rw', o, ho, hc, n, hd⟩ := (show ObjOk X.prog X.w H s.heap tp (.tup cs) from I.hok tp _ htp)
  have e3 := ClsV.all k rw'
  subst e3
  obtain ⟨oc, od, oda, osl⟩ := o
  dsimp only at hc hd
  subst hc hd
  exact PySem.W.kia_tup Z I.kIn p ho e (fun z => nomatch z) fun tk => ⟨.bl b, H, I.tok tk, rfl, q⟩
/-- C(), no __init__ of its own -/
theorem pe_exc0 (hC : PySem.W.excIn X.K C aeT "ArithmeticError.__new__" = true) (kC : PySem.W.keepIn X.K (.ref C) = true) (hg : Gl X x) (hm : X.mg x = some (.ref C)) (hdb : (x == ("__debug__" : Str)) = false := by decide) :
    PE X (.Call (.Name x p) [] [] pos) (fun σ H Q => ∀ a, H a = none → Q (.ref a) (upd H a (exo a C none))) := by
  refine ⟨fun pins s σ H Q I h => ?_⟩
  refine wpAny_Call_Name_kw (ld_glob I hg hm ?_ hdb)
  refine PySem.W.callWith_K0 I.kIn kC ?_
  obtain ⟨bm, N, nm, qn, bs, hdct, sn, sub, ab, col, dd, k0, k1, k2, k3, k5, mN, h1, h2, h3, h4⟩ := exc_obj I.kIn hC
  refine wpAny_call_exc_subT F.excBase_ArithmeticError h4 h1 h2 h3 (fun h' a hm => ?_) (Nat.zero_le _)
  have hn : H a = none := I.hok.gone hm.new
  obtain ⟨t, ht, _, _⟩ := hm.there
  exact ⟨.ref a, upd H a (exo a C none), I.laidN hm.keeps hm.new hn (exo_ok ht), rfl, h a hn⟩
/-- f(k = v, ..), keywords alone: g puts them in the parameters' order -/
def tCallW (sp : Sp) (g : List V → List V) (n : Nat) (E : XK) (tk : TA) : TE := fun σ H Q => tk σ H fun zs H1 => zs.length = n ∧ sp (g zs) H1 Q E
theorem pe_callW {ps ks : List Str} {sp : Sp} {E : XK} {g : List Value → List Value} {gV : List V → List V} {kws : List Keyword} {tk : TA} {fI : Addr} (G : FnOk X.prog X.w X.K X.mg X.base CX k fI fd ps sp) (hr : Room k X.A) (hg : Gl X x) (hm : X.mg x = some (.ref fI)) (hk : PySem.W.keepIn X.K (.ref fI) = true)
    (hb : ∀ (s : Shared) (ws : List Value), ws.length = ks.length → BindsTo s fd ⟨[], ks.zip ws⟩ (ps.zip (g ws))) (hrel : ∀ {zs : List V} {ws : List Value}, Vals zs ws → zs.length = ks.length → Vals (gV zs) (g ws)) (hx : Passes CX X E) (hkw : PK X kws tk)
    (hall : (backToKw pos (keywordEach kws X.env)).all (·.1.isSome) = true := by rfl) (hks : (backToKw pos (keywordEach kws X.env)).filterMap (·.1) = ks := by rfl) (hdb : (x == ("__debug__" : Str)) = false := by decide)
    (hpl : ((backTo pos (starEach [] X.env)).any (·.1) || (backToKw pos (keywordEach kws X.env)).any (·.1.isNone)) = false := by rfl) :
    PE X (.Call (.Name x p) [] kws pos) (tCallW sp gV ks.length E tk) := by
  refine ⟨fun pins s σ H Q I h => ?_⟩
  refine wpAny_Call_Name_kw (ld_glob I hg hm ?_ hdb)
  refine PySem.W.callWith_KW0 (h₀ := X.base) I.ok.mod.kin hk hall (thn (hkw.run pos pins s σ H _ I h) fun ws s1 ⟨zs, H1, I1, r, l, q⟩ => ⟨I1.kIn, ?_⟩) hpl
  rw [hks]
  refine wpAny_call (codeAny_mono (G.run X.A X.stack s1 H1 ⟨[], ks.zip ws⟩ (g ws) (gV zs) Q E hr I1.env0 (hb s1 ws (r.length.symm.trans l)) (hrel r l) q) fun r s' hq => ?_)
  cases r with
  | error e => exact hx pins σ H1 s1 e s' I1 hq
  | ok fl =>
    cases fl with
    | ret u => exact I1.after hq
    | next => exact False.elim hq
    | brk => exact False.elim hq
    | cont => exact False.elim hq
end
/-- a binding of a def without defaults -/
theorem bindsX {K : PySem.W.Frag} {x qual : Str} {params : Arguments} {body : List Stmt} {scope : Scope} {kws : List (Str × V)} {f : Addr} {fd : FuncData} {args : Args} {binds : List (Str × Value)} (F : FunD K x qual params body scope [] kws f fd)
    (h : ∀ (kV doc pm : Value) (an : Option Addr) (cdv ct : Value), bindArgs (PySem.W.fnOf x qual params body scope .none kV doc pm an cdv ct) args = pure binds) (s : Shared) : BindsTo s fd args binds := by
  obtain ⟨oc, od, dV, kV, doc, pm, an, cdv, ct, osl, rfl, lk, hcd, hD, hK⟩ := F.ex
  rcases hD with ⟨_, rfl⟩ | ⟨e, _⟩
  · exact .of_eq (h kV doc pm an cdv ct)
  · exact absurd rfl e
/-- isinstance between the classes of the package, and against built-in ones -/
def xkB (K : PySem.W.Frag) (ns : List Str) : Bool := ns.all fun c => ns.all (fun d => decide (PySem.W.kitOne K (.ref (He.ga K c)) (.ref (He.ga K d)) = some (c == d || d == "CopyError"))) &&
  (decide (PySem.W.kitOne K (.ref (He.ga K c)) (.type "ArithmeticError") = some true) && decide (PySem.W.kitAny K (.ref (He.ga K c)) [.type "ValueError", .type "TypeError", .type "LookupError"] = some false))
theorem xk_own {K : PySem.W.Frag} {ns : List Str} (h : xkB K ns = true) {c d : Str} (hc : c ∈ ns) (hd : d ∈ ns) : PySem.W.kitOne K (.ref (He.ga K c)) (.ref (He.ga K d)) = some (c == d || d == "CopyError") := by
  have z := List.all_eq_true.mp h c hc
  simp only [Bool.and_eq_true, List.all_eq_true, decide_eq_true_eq] at z
  exact z.1 d hd
theorem xk_ae {K : PySem.W.Frag} {ns : List Str} (h : xkB K ns = true) {c : Str} (hc : c ∈ ns) : PySem.W.kitOne K (.ref (He.ga K c)) (.type "ArithmeticError") = some true := by
  have z := List.all_eq_true.mp h c hc
  simp only [Bool.and_eq_true, List.all_eq_true, decide_eq_true_eq] at z
  exact z.2.1
theorem xk_no {K : PySem.W.Frag} {ns : List Str} (h : xkB K ns = true) {c : Str} (hc : c ∈ ns) : PySem.W.kitAny K (.ref (He.ga K c)) [.type "ValueError", .type "TypeError", .type "LookupError"] = some false := by
  have z := List.all_eq_true.mp h c hc
  simp only [Bool.and_eq_true, List.all_eq_true, decide_eq_true_eq] at z
  exact z.2.2
end FcX

set_option maxRecDepth 100000
set_option maxHeartbeats 0

namespace Fc
open PySem PySem.Spec PyProof.Rows L2
def topS (i : Nat) : Stmt := PySem.Challenge.pw_finallycopies_k05_error_classes_and_inte.main.body.getD i (.Pass ⟨0, 0, 0, 0⟩)
abbrev sd_is_integer : Stmt := topS 1
def d_is_integer : He.DefD := ⟨("is_integer", none), "is_integer", "is_integer", defArgs sd_is_integer, defBody sd_is_integer, defScope sd_is_integer, [], []⟩
abbrev sd_InvalidCode___init__ : Stmt := inClass (topS 4) 0
def d_InvalidCode___init__ : He.DefD := ⟨("InvalidCode", some "__init__"), "__init__", "InvalidCode.__init__", defArgs sd_InvalidCode___init__, defBody sd_InvalidCode___init__, defScope sd_InvalidCode___init__, [], []⟩
abbrev sd_InvalidNumber___init__ : Stmt := inClass (topS 5) 0
def d_InvalidNumber___init__ : He.DefD := ⟨("InvalidNumber", some "__init__"), "__init__", "InvalidNumber.__init__", defArgs sd_InvalidNumber___init__, defBody sd_InvalidNumber___init__, defScope sd_InvalidNumber___init__, [], []⟩
abbrev sd_InvalidAnswers___init__ : Stmt := inClass (topS 6) 0
def d_InvalidAnswers___init__ : He.DefD := ⟨("InvalidAnswers", some "__init__"), "__init__", "InvalidAnswers.__init__", defArgs sd_InvalidAnswers___init__, defBody sd_InvalidAnswers___init__, defScope sd_InvalidAnswers___init__, [], []⟩
abbrev sd_InvalidWay___init__ : Stmt := inClass (topS 7) 0
def d_InvalidWay___init__ : He.DefD := ⟨("InvalidWay", some "__init__"), "__init__", "InvalidWay.__init__", defArgs sd_InvalidWay___init__, defBody sd_InvalidWay___init__, defScope sd_InvalidWay___init__, [], []⟩
abbrev sd_InvalidTable___init__ : Stmt := inClass (topS 8) 0
def d_InvalidTable___init__ : He.DefD := ⟨("InvalidTable", some "__init__"), "__init__", "InvalidTable.__init__", defArgs sd_InvalidTable___init__, defBody sd_InvalidTable___init__, defScope sd_InvalidTable___init__, [], []⟩
abbrev sd_InvalidFinals___init__ : Stmt := inClass (topS 9) 0
def d_InvalidFinals___init__ : He.DefD := ⟨("InvalidFinals", some "__init__"), "__init__", "InvalidFinals.__init__", defArgs sd_InvalidFinals___init__, defBody sd_InvalidFinals___init__, defScope sd_InvalidFinals___init__, [], []⟩
abbrev sd_InvalidBound___init__ : Stmt := inClass (topS 10) 0
def d_InvalidBound___init__ : He.DefD := ⟨("InvalidBound", some "__init__"), "__init__", "InvalidBound.__init__", defArgs sd_InvalidBound___init__, defBody sd_InvalidBound___init__, defScope sd_InvalidBound___init__, [], []⟩
abbrev sd_InvalidText___init__ : Stmt := inClass (topS 11) 0
def d_InvalidText___init__ : He.DefD := ⟨("InvalidText", some "__init__"), "__init__", "InvalidText.__init__", defArgs sd_InvalidText___init__, defBody sd_InvalidText___init__, defScope sd_InvalidText___init__, [], []⟩
abbrev sd_NotWaiting___init__ : Stmt := inClass (topS 12) 0
def d_NotWaiting___init__ : He.DefD := ⟨("NotWaiting", some "__init__"), "__init__", "NotWaiting.__init__", defArgs sd_NotWaiting___init__, defBody sd_NotWaiting___init__, defScope sd_NotWaiting___init__, [], []⟩
abbrev sd_LimitExceeded___init__ : Stmt := inClass (topS 13) 0
def d_LimitExceeded___init__ : He.DefD := ⟨("LimitExceeded", some "__init__"), "__init__", "LimitExceeded.__init__", defArgs sd_LimitExceeded___init__, defBody sd_LimitExceeded___init__, defScope sd_LimitExceeded___init__, [], []⟩
abbrev sd_law_cell_at : Stmt := topS 15
def d_law_cell_at : He.DefD := ⟨("_law_cell_at", none), "_law_cell_at", "_law_cell_at", defArgs sd_law_cell_at, defBody sd_law_cell_at, defScope sd_law_cell_at, [], []⟩
abbrev sd_law_source_of : Stmt := topS 16
def d_law_source_of : He.DefD := ⟨("_law_source_of", none), "_law_source_of", "_law_source_of", defArgs sd_law_source_of, defBody sd_law_source_of, defScope sd_law_source_of, [], []⟩
abbrev sd_law_draw : Stmt := topS 17
def d_law_draw : He.DefD := ⟨("_law_draw", none), "_law_draw", "_law_draw", defArgs sd_law_draw, defBody sd_law_draw, defScope sd_law_draw, [], []⟩
abbrev sd_law_one : Stmt := topS 18
def d_law_one : He.DefD := ⟨("_law_one", none), "_law_one", "_law_one", defArgs sd_law_one, defBody sd_law_one, defScope sd_law_one, [], []⟩
abbrev sd_law_kinds : Stmt := topS 19
def d_law_kinds : He.DefD := ⟨("_law_kinds", none), "_law_kinds", "_law_kinds", defArgs sd_law_kinds, defBody sd_law_kinds, defScope sd_law_kinds, [], []⟩
abbrev sd_law_fields : Stmt := topS 20
def d_law_fields : He.DefD := ⟨("_law_fields", none), "_law_fields", "_law_fields", defArgs sd_law_fields, defBody sd_law_fields, defScope sd_law_fields, [], []⟩
abbrev sd_law_right : Stmt := topS 21
def d_law_right : He.DefD := ⟨("_law_right", none), "_law_right", "_law_right", defArgs sd_law_right, defBody sd_law_right, defScope sd_law_right, [], []⟩
abbrev sd_law : Stmt := topS 22
def d_law : He.DefD := ⟨("law", none), "law", "law", defArgs sd_law, defBody sd_law, defScope sd_law, [], []⟩
def fnL0 : List He.DefD := [d_is_integer, d_InvalidCode___init__, d_InvalidNumber___init__, d_InvalidAnswers___init__, d_InvalidWay___init__, d_InvalidTable___init__, d_InvalidFinals___init__, d_InvalidBound___init__, d_InvalidText___init__, d_NotWaiting___init__, d_LimitExceeded___init__, d_law_cell_at, d_law_source_of, d_law_draw, d_law_one, d_law_kinds, d_law_fields, d_law_right, d_law]
def fnL : List He.DefD := fnL0
def faL0 : List He.Fa := [.glo "is_integer", .glo "CopyError", .glo "InvalidCode", .glo "InvalidNumber", .glo "InvalidAnswers", .glo "InvalidWay", .glo "InvalidTable", .glo "InvalidFinals", .glo "InvalidBound", .glo "InvalidText", .glo "NotWaiting", .glo "LimitExceeded", .glo "_law_cell_at", .glo "_law_source_of", .glo "_law_draw", .glo "_law_one", .glo "_law_kinds", .glo "_law_fields", .glo "_law_right", .glo "law", .free "ArithmeticError", .free "LookupError", .free "TypeError", .free "ValueError", .free "all", .free "bool", .free "enumerate", .free "int", .free "isinstance", .free "len"]
def faL1 : List He.Fa := [.free "range"]
def faL : List He.Fa := faL0 ++ faL1
def tabL : List He.Tab := []
def xN : List PySem.Str := ["CopyError", "InvalidCode", "InvalidNumber", "InvalidAnswers", "InvalidWay", "InvalidTable", "InvalidFinals", "InvalidBound", "InvalidText", "NotWaiting", "LimitExceeded"]
def exB (K : PySem.W.Frag) : Bool := (FcX.xcB K (He.ga K "CopyError") && PySem.W.excIn K (He.ga K "CopyError") FcX.aeT "ArithmeticError.__new__") && (FcX.xcB K (He.ga K "InvalidCode") && FcX.xiB K (He.ga K "InvalidCode") (He.fAd K ("InvalidCode", some "__init__")) "number") && (FcX.xcB K (He.ga K "InvalidNumber") && FcX.xiB K (He.ga K "InvalidNumber") (He.fAd K ("InvalidNumber", some "__init__")) "number") && (FcX.xcB K (He.ga K "InvalidAnswers") && FcX.xiB K (He.ga K "InvalidAnswers") (He.fAd K ("InvalidAnswers", some "__init__")) "at") && (FcX.xcB K (He.ga K "InvalidWay") && FcX.xiB K (He.ga K "InvalidWay") (He.fAd K ("InvalidWay", some "__init__")) "way") && (FcX.xcB K (He.ga K "InvalidTable") && FcX.xiB K (He.ga K "InvalidTable") (He.fAd K ("InvalidTable", some "__init__")) "at") && (FcX.xcB K (He.ga K "InvalidFinals") && FcX.xiB K (He.ga K "InvalidFinals") (He.fAd K ("InvalidFinals", some "__init__")) "at") && (FcX.xcB K (He.ga K "InvalidBound") && FcX.xiB K (He.ga K "InvalidBound") (He.fAd K ("InvalidBound", some "__init__")) "bound") && (FcX.xcB K (He.ga K "InvalidText") && FcX.xiB K (He.ga K "InvalidText") (He.fAd K ("InvalidText", some "__init__")) "at") && (FcX.xcB K (He.ga K "NotWaiting") && FcX.xiB K (He.ga K "NotWaiting") (He.fAd K ("NotWaiting", some "__init__")) "end") && (FcX.xcB K (He.ga K "LimitExceeded") && FcX.xiB K (He.ga K "LimitExceeded") (He.fAd K ("LimitExceeded", some "__init__")) "limit") && (FcX.xkB K xN)
def looseL0 : List PySem.Str := ["is_integer", "CopyError", "InvalidCode", "InvalidNumber", "InvalidAnswers", "InvalidWay", "InvalidTable", "InvalidFinals", "InvalidBound", "InvalidText", "NotWaiting", "LimitExceeded", "_law_cell_at", "_law_source_of", "_law_draw", "_law_one", "_law_kinds", "_law_fields", "_law_right"]
def looseL : List PySem.Str := looseL0
abbrev R : PySem.W.OpenRow := PySem.W.OpenLaw.row PySem.Challenge.rw_finallycopies_k05_error_classes_and_inte
abbrev hk : PySem.W.Hook := He.hookX 6 faL fnL tabL [] exB
def ob (s : PySem.W.SharedT) : He.AlX := He.obsX 6 faL fnL tabL [] exB (HandSHeadRun.getT s)
theorem ob_eq (s : PySem.W.SharedT) : ob s = hk.obs s.abs := He.obsX_eq (HandSHeadRun.getT_eq s)
theorem runF (w : World) : HandSHeadRun.RunEq R (PySem.W.view R.prog [22]) hk ob 6000 looseL (w.withFollow "special-get-raises" false) := by
  intro os
  kernel_rfl
theorem runT (w : World) : HandSHeadRun.RunEq R (PySem.W.view R.prog [22]) hk ob 6000 looseL (w.withFollow "special-get-raises" true) := by
  intro os
  kernel_rfl
theorem run (w : World) : HandSHeadRun.RunEq R (PySem.W.view R.prog [22]) hk ob 6000 looseL w := PySem.W.byRow2 "special-get-raises" (P := fun w => HandSHeadRun.RunEq R (PySem.W.view R.prog [22]) hk ob 6000 looseL w) runF runT w
structure Tx (w : World) (h : Heap) (K : PySem.W.Frag) (mg : Str → Option Value) : Prop where
  X : K.In h
  G : h.Ns mainGlobals mg
  c : He.SaysX faL fnL tabL [] exB w h K
section
variable {w : World} {h : Heap} {K : PySem.W.Frag} {mg : Str → Option Value}
theorem g_is_integer (T : Tx w h K mg) : mg "is_integer" = some (.ref (He.ga K "is_integer")) := He.glo_ok T.X T.G (T.c.t.d.fact 0 rfl)
theorem g_CopyError (T : Tx w h K mg) : mg "CopyError" = some (.ref (He.ga K "CopyError")) := He.glo_ok T.X T.G (T.c.t.d.fact 1 rfl)
theorem g_InvalidCode (T : Tx w h K mg) : mg "InvalidCode" = some (.ref (He.ga K "InvalidCode")) := He.glo_ok T.X T.G (T.c.t.d.fact 2 rfl)
theorem g_InvalidNumber (T : Tx w h K mg) : mg "InvalidNumber" = some (.ref (He.ga K "InvalidNumber")) := He.glo_ok T.X T.G (T.c.t.d.fact 3 rfl)
theorem g_InvalidAnswers (T : Tx w h K mg) : mg "InvalidAnswers" = some (.ref (He.ga K "InvalidAnswers")) := He.glo_ok T.X T.G (T.c.t.d.fact 4 rfl)
theorem g_InvalidWay (T : Tx w h K mg) : mg "InvalidWay" = some (.ref (He.ga K "InvalidWay")) := He.glo_ok T.X T.G (T.c.t.d.fact 5 rfl)
theorem g_InvalidTable (T : Tx w h K mg) : mg "InvalidTable" = some (.ref (He.ga K "InvalidTable")) := He.glo_ok T.X T.G (T.c.t.d.fact 6 rfl)
theorem g_InvalidFinals (T : Tx w h K mg) : mg "InvalidFinals" = some (.ref (He.ga K "InvalidFinals")) := He.glo_ok T.X T.G (T.c.t.d.fact 7 rfl)
theorem g_InvalidBound (T : Tx w h K mg) : mg "InvalidBound" = some (.ref (He.ga K "InvalidBound")) := He.glo_ok T.X T.G (T.c.t.d.fact 8 rfl)
theorem g_InvalidText (T : Tx w h K mg) : mg "InvalidText" = some (.ref (He.ga K "InvalidText")) := He.glo_ok T.X T.G (T.c.t.d.fact 9 rfl)
theorem g_NotWaiting (T : Tx w h K mg) : mg "NotWaiting" = some (.ref (He.ga K "NotWaiting")) := He.glo_ok T.X T.G (T.c.t.d.fact 10 rfl)
theorem g_LimitExceeded (T : Tx w h K mg) : mg "LimitExceeded" = some (.ref (He.ga K "LimitExceeded")) := He.glo_ok T.X T.G (T.c.t.d.fact 11 rfl)
theorem g_law_cell_at (T : Tx w h K mg) : mg "_law_cell_at" = some (.ref (He.ga K "_law_cell_at")) := He.glo_ok T.X T.G (T.c.t.d.fact 12 rfl)
theorem g_law_source_of (T : Tx w h K mg) : mg "_law_source_of" = some (.ref (He.ga K "_law_source_of")) := He.glo_ok T.X T.G (T.c.t.d.fact 13 rfl)
theorem g_law_draw (T : Tx w h K mg) : mg "_law_draw" = some (.ref (He.ga K "_law_draw")) := He.glo_ok T.X T.G (T.c.t.d.fact 14 rfl)
theorem g_law_one (T : Tx w h K mg) : mg "_law_one" = some (.ref (He.ga K "_law_one")) := He.glo_ok T.X T.G (T.c.t.d.fact 15 rfl)
theorem g_law_kinds (T : Tx w h K mg) : mg "_law_kinds" = some (.ref (He.ga K "_law_kinds")) := He.glo_ok T.X T.G (T.c.t.d.fact 16 rfl)
theorem g_law_fields (T : Tx w h K mg) : mg "_law_fields" = some (.ref (He.ga K "_law_fields")) := He.glo_ok T.X T.G (T.c.t.d.fact 17 rfl)
theorem g_law_right (T : Tx w h K mg) : mg "_law_right" = some (.ref (He.ga K "_law_right")) := He.glo_ok T.X T.G (T.c.t.d.fact 18 rfl)
theorem g_law (T : Tx w h K mg) : mg "law" = some (.ref (He.ga K "law")) := He.glo_ok T.X T.G (T.c.t.d.fact 19 rfl)
theorem fr_ArithmeticError (T : Tx w h K mg) : mg "ArithmeticError" = none := He.free_ok T.X T.G (T.c.t.d.fact 20 rfl)
theorem fr_LookupError (T : Tx w h K mg) : mg "LookupError" = none := He.free_ok T.X T.G (T.c.t.d.fact 21 rfl)
theorem fr_TypeError (T : Tx w h K mg) : mg "TypeError" = none := He.free_ok T.X T.G (T.c.t.d.fact 22 rfl)
theorem fr_ValueError (T : Tx w h K mg) : mg "ValueError" = none := He.free_ok T.X T.G (T.c.t.d.fact 23 rfl)
theorem fr_all (T : Tx w h K mg) : mg "all" = none := He.free_ok T.X T.G (T.c.t.d.fact 24 rfl)
theorem fr_bool (T : Tx w h K mg) : mg "bool" = none := He.free_ok T.X T.G (T.c.t.d.fact 25 rfl)
theorem fr_enumerate (T : Tx w h K mg) : mg "enumerate" = none := He.free_ok T.X T.G (T.c.t.d.fact 26 rfl)
theorem fr_int (T : Tx w h K mg) : mg "int" = none := He.free_ok T.X T.G (T.c.t.d.fact 27 rfl)
theorem fr_isinstance (T : Tx w h K mg) : mg "isinstance" = none := He.free_ok T.X T.G (T.c.t.d.fact 28 rfl)
theorem fr_len (T : Tx w h K mg) : mg "len" = none := He.free_ok T.X T.G (T.c.t.d.fact 29 rfl)
theorem fr_range (T : Tx w h K mg) : mg "range" = none := He.free_ok T.X T.G (T.c.t.d.fact 30 rfl)
theorem F_is_integer (T : Tx w h K mg) : ∃ fd, FunD K "is_integer" "is_integer" (defArgs sd_is_integer) (defBody sd_is_integer) (defScope sd_is_integer) [] [] (He.fAd K ("is_integer", none)) fd := T.c.t.d.def_ 0 rfl
theorem F_InvalidCode___init__ (T : Tx w h K mg) : ∃ fd, FunD K "__init__" "InvalidCode.__init__" (defArgs sd_InvalidCode___init__) (defBody sd_InvalidCode___init__) (defScope sd_InvalidCode___init__) [] [] (He.fAd K ("InvalidCode", some "__init__")) fd := T.c.t.d.def_ 1 rfl
theorem F_InvalidNumber___init__ (T : Tx w h K mg) : ∃ fd, FunD K "__init__" "InvalidNumber.__init__" (defArgs sd_InvalidNumber___init__) (defBody sd_InvalidNumber___init__) (defScope sd_InvalidNumber___init__) [] [] (He.fAd K ("InvalidNumber", some "__init__")) fd := T.c.t.d.def_ 2 rfl
theorem F_InvalidAnswers___init__ (T : Tx w h K mg) : ∃ fd, FunD K "__init__" "InvalidAnswers.__init__" (defArgs sd_InvalidAnswers___init__) (defBody sd_InvalidAnswers___init__) (defScope sd_InvalidAnswers___init__) [] [] (He.fAd K ("InvalidAnswers", some "__init__")) fd := T.c.t.d.def_ 3 rfl
theorem F_InvalidWay___init__ (T : Tx w h K mg) : ∃ fd, FunD K "__init__" "InvalidWay.__init__" (defArgs sd_InvalidWay___init__) (defBody sd_InvalidWay___init__) (defScope sd_InvalidWay___init__) [] [] (He.fAd K ("InvalidWay", some "__init__")) fd := T.c.t.d.def_ 4 rfl
theorem F_InvalidTable___init__ (T : Tx w h K mg) : ∃ fd, FunD K "__init__" "InvalidTable.__init__" (defArgs sd_InvalidTable___init__) (defBody sd_InvalidTable___init__) (defScope sd_InvalidTable___init__) [] [] (He.fAd K ("InvalidTable", some "__init__")) fd := T.c.t.d.def_ 5 rfl
theorem F_InvalidFinals___init__ (T : Tx w h K mg) : ∃ fd, FunD K "__init__" "InvalidFinals.__init__" (defArgs sd_InvalidFinals___init__) (defBody sd_InvalidFinals___init__) (defScope sd_InvalidFinals___init__) [] [] (He.fAd K ("InvalidFinals", some "__init__")) fd := T.c.t.d.def_ 6 rfl
theorem F_InvalidBound___init__ (T : Tx w h K mg) : ∃ fd, FunD K "__init__" "InvalidBound.__init__" (defArgs sd_InvalidBound___init__) (defBody sd_InvalidBound___init__) (defScope sd_InvalidBound___init__) [] [] (He.fAd K ("InvalidBound", some "__init__")) fd := T.c.t.d.def_ 7 rfl
theorem F_InvalidText___init__ (T : Tx w h K mg) : ∃ fd, FunD K "__init__" "InvalidText.__init__" (defArgs sd_InvalidText___init__) (defBody sd_InvalidText___init__) (defScope sd_InvalidText___init__) [] [] (He.fAd K ("InvalidText", some "__init__")) fd := T.c.t.d.def_ 8 rfl
theorem F_NotWaiting___init__ (T : Tx w h K mg) : ∃ fd, FunD K "__init__" "NotWaiting.__init__" (defArgs sd_NotWaiting___init__) (defBody sd_NotWaiting___init__) (defScope sd_NotWaiting___init__) [] [] (He.fAd K ("NotWaiting", some "__init__")) fd := T.c.t.d.def_ 9 rfl
theorem F_LimitExceeded___init__ (T : Tx w h K mg) : ∃ fd, FunD K "__init__" "LimitExceeded.__init__" (defArgs sd_LimitExceeded___init__) (defBody sd_LimitExceeded___init__) (defScope sd_LimitExceeded___init__) [] [] (He.fAd K ("LimitExceeded", some "__init__")) fd := T.c.t.d.def_ 10 rfl
theorem F_law_cell_at (T : Tx w h K mg) : ∃ fd, FunD K "_law_cell_at" "_law_cell_at" (defArgs sd_law_cell_at) (defBody sd_law_cell_at) (defScope sd_law_cell_at) [] [] (He.fAd K ("_law_cell_at", none)) fd := T.c.t.d.def_ 11 rfl
theorem F_law_source_of (T : Tx w h K mg) : ∃ fd, FunD K "_law_source_of" "_law_source_of" (defArgs sd_law_source_of) (defBody sd_law_source_of) (defScope sd_law_source_of) [] [] (He.fAd K ("_law_source_of", none)) fd := T.c.t.d.def_ 12 rfl
theorem F_law_draw (T : Tx w h K mg) : ∃ fd, FunD K "_law_draw" "_law_draw" (defArgs sd_law_draw) (defBody sd_law_draw) (defScope sd_law_draw) [] [] (He.fAd K ("_law_draw", none)) fd := T.c.t.d.def_ 13 rfl
theorem F_law_one (T : Tx w h K mg) : ∃ fd, FunD K "_law_one" "_law_one" (defArgs sd_law_one) (defBody sd_law_one) (defScope sd_law_one) [] [] (He.fAd K ("_law_one", none)) fd := T.c.t.d.def_ 14 rfl
theorem F_law_kinds (T : Tx w h K mg) : ∃ fd, FunD K "_law_kinds" "_law_kinds" (defArgs sd_law_kinds) (defBody sd_law_kinds) (defScope sd_law_kinds) [] [] (He.fAd K ("_law_kinds", none)) fd := T.c.t.d.def_ 15 rfl
theorem F_law_fields (T : Tx w h K mg) : ∃ fd, FunD K "_law_fields" "_law_fields" (defArgs sd_law_fields) (defBody sd_law_fields) (defScope sd_law_fields) [] [] (He.fAd K ("_law_fields", none)) fd := T.c.t.d.def_ 16 rfl
theorem F_law_right (T : Tx w h K mg) : ∃ fd, FunD K "_law_right" "_law_right" (defArgs sd_law_right) (defBody sd_law_right) (defScope sd_law_right) [] [] (He.fAd K ("_law_right", none)) fd := T.c.t.d.def_ 17 rfl
theorem F_law (T : Tx w h K mg) : ∃ fd, FunD K "law" "law" (defArgs sd_law) (defBody sd_law) (defScope sd_law) [] [] (He.fAd K ("law", none)) fd := T.c.t.d.def_ 18 rfl
theorem x_CopyError (T : Tx w h K mg) : FcX.XC K (He.ga K "CopyError") := FcX.xcB_ok (He.ba ((He.ba (He.ba (He.ba (He.ba (He.ba (He.ba (He.ba (He.ba (He.ba (He.ba (He.ba T.c.more).1).1).1).1).1).1).1).1).1).1).1)).1
theorem xi_CopyError (T : Tx w h K mg) : PySem.W.excIn K (He.ga K "CopyError") FcX.aeT "ArithmeticError.__new__" = true := (He.ba ((He.ba (He.ba (He.ba (He.ba (He.ba (He.ba (He.ba (He.ba (He.ba (He.ba (He.ba T.c.more).1).1).1).1).1).1).1).1).1).1).1)).2
theorem x_InvalidCode (T : Tx w h K mg) : FcX.XC K (He.ga K "InvalidCode") := FcX.xcB_ok (He.ba ((He.ba (He.ba (He.ba (He.ba (He.ba (He.ba (He.ba (He.ba (He.ba (He.ba (He.ba T.c.more).1).1).1).1).1).1).1).1).1).1).2)).1
theorem xi_InvalidCode (T : Tx w h K mg) : FcX.XI K (He.ga K "InvalidCode") (He.fAd K ("InvalidCode", some "__init__")) "number" := FcX.xiB_ok (He.ba ((He.ba (He.ba (He.ba (He.ba (He.ba (He.ba (He.ba (He.ba (He.ba (He.ba (He.ba T.c.more).1).1).1).1).1).1).1).1).1).1).2)).2
theorem x_InvalidNumber (T : Tx w h K mg) : FcX.XC K (He.ga K "InvalidNumber") := FcX.xcB_ok (He.ba ((He.ba (He.ba (He.ba (He.ba (He.ba (He.ba (He.ba (He.ba (He.ba (He.ba T.c.more).1).1).1).1).1).1).1).1).1).2)).1
theorem xi_InvalidNumber (T : Tx w h K mg) : FcX.XI K (He.ga K "InvalidNumber") (He.fAd K ("InvalidNumber", some "__init__")) "number" := FcX.xiB_ok (He.ba ((He.ba (He.ba (He.ba (He.ba (He.ba (He.ba (He.ba (He.ba (He.ba (He.ba T.c.more).1).1).1).1).1).1).1).1).1).2)).2
theorem x_InvalidAnswers (T : Tx w h K mg) : FcX.XC K (He.ga K "InvalidAnswers") := FcX.xcB_ok (He.ba ((He.ba (He.ba (He.ba (He.ba (He.ba (He.ba (He.ba (He.ba (He.ba T.c.more).1).1).1).1).1).1).1).1).2)).1
theorem xi_InvalidAnswers (T : Tx w h K mg) : FcX.XI K (He.ga K "InvalidAnswers") (He.fAd K ("InvalidAnswers", some "__init__")) "at" := FcX.xiB_ok (He.ba ((He.ba (He.ba (He.ba (He.ba (He.ba (He.ba (He.ba (He.ba (He.ba T.c.more).1).1).1).1).1).1).1).1).2)).2
theorem x_InvalidWay (T : Tx w h K mg) : FcX.XC K (He.ga K "InvalidWay") := FcX.xcB_ok (He.ba ((He.ba (He.ba (He.ba (He.ba (He.ba (He.ba (He.ba (He.ba T.c.more).1).1).1).1).1).1).1).2)).1
theorem xi_InvalidWay (T : Tx w h K mg) : FcX.XI K (He.ga K "InvalidWay") (He.fAd K ("InvalidWay", some "__init__")) "way" := FcX.xiB_ok (He.ba ((He.ba (He.ba (He.ba (He.ba (He.ba (He.ba (He.ba (He.ba T.c.more).1).1).1).1).1).1).1).2)).2
theorem x_InvalidTable (T : Tx w h K mg) : FcX.XC K (He.ga K "InvalidTable") := FcX.xcB_ok (He.ba ((He.ba (He.ba (He.ba (He.ba (He.ba (He.ba (He.ba T.c.more).1).1).1).1).1).1).2)).1
theorem xi_InvalidTable (T : Tx w h K mg) : FcX.XI K (He.ga K "InvalidTable") (He.fAd K ("InvalidTable", some "__init__")) "at" := FcX.xiB_ok (He.ba ((He.ba (He.ba (He.ba (He.ba (He.ba (He.ba (He.ba T.c.more).1).1).1).1).1).1).2)).2
theorem x_InvalidFinals (T : Tx w h K mg) : FcX.XC K (He.ga K "InvalidFinals") := FcX.xcB_ok (He.ba ((He.ba (He.ba (He.ba (He.ba (He.ba (He.ba T.c.more).1).1).1).1).1).2)).1
theorem xi_InvalidFinals (T : Tx w h K mg) : FcX.XI K (He.ga K "InvalidFinals") (He.fAd K ("InvalidFinals", some "__init__")) "at" := FcX.xiB_ok (He.ba ((He.ba (He.ba (He.ba (He.ba (He.ba (He.ba T.c.more).1).1).1).1).1).2)).2
theorem x_InvalidBound (T : Tx w h K mg) : FcX.XC K (He.ga K "InvalidBound") := FcX.xcB_ok (He.ba ((He.ba (He.ba (He.ba (He.ba (He.ba T.c.more).1).1).1).1).2)).1
theorem xi_InvalidBound (T : Tx w h K mg) : FcX.XI K (He.ga K "InvalidBound") (He.fAd K ("InvalidBound", some "__init__")) "bound" := FcX.xiB_ok (He.ba ((He.ba (He.ba (He.ba (He.ba (He.ba T.c.more).1).1).1).1).2)).2
theorem x_InvalidText (T : Tx w h K mg) : FcX.XC K (He.ga K "InvalidText") := FcX.xcB_ok (He.ba ((He.ba (He.ba (He.ba (He.ba T.c.more).1).1).1).2)).1
theorem xi_InvalidText (T : Tx w h K mg) : FcX.XI K (He.ga K "InvalidText") (He.fAd K ("InvalidText", some "__init__")) "at" := FcX.xiB_ok (He.ba ((He.ba (He.ba (He.ba (He.ba T.c.more).1).1).1).2)).2
theorem x_NotWaiting (T : Tx w h K mg) : FcX.XC K (He.ga K "NotWaiting") := FcX.xcB_ok (He.ba ((He.ba (He.ba (He.ba T.c.more).1).1).2)).1
theorem xi_NotWaiting (T : Tx w h K mg) : FcX.XI K (He.ga K "NotWaiting") (He.fAd K ("NotWaiting", some "__init__")) "end" := FcX.xiB_ok (He.ba ((He.ba (He.ba (He.ba T.c.more).1).1).2)).2
theorem x_LimitExceeded (T : Tx w h K mg) : FcX.XC K (He.ga K "LimitExceeded") := FcX.xcB_ok (He.ba ((He.ba (He.ba T.c.more).1).2)).1
theorem xi_LimitExceeded (T : Tx w h K mg) : FcX.XI K (He.ga K "LimitExceeded") (He.fAd K ("LimitExceeded", some "__init__")) "limit" := FcX.xiB_ok (He.ba ((He.ba (He.ba T.c.more).1).2)).2
theorem xk (T : Tx w h K mg) : FcX.xkB K xN = true := (He.ba T.c.more).2
end
end Fc

set_option maxRecDepth 100000
set_option maxHeartbeats 4000000
namespace Fc
open PySem PySem.Spec PyProof.Rows L2 FcR
open Evl (Ex)
/-! ### what all laws draw by -/
def sp_cell (K : PySem.W.Frag) : Sp := fun vs H Q _ => ∃ (a : Addr) (ns : List Int) (k : Nat), vs = [.ref a, .int (k : Int)] ∧ SqL K H a (ns.map V.int) ∧ Q (.int (ns.getD k 0)) H
def sp_source : Sp := fun vs H Q _ => ∃ c : Int, vs = [.int c] ∧ ∀ (p : Addr) (x y : Int), H p = none → Q (.ref p) (upd H p (.lst [.int x, .int y, .int 0]))
def sp_draw : Sp := fun vs H Q _ => ∃ (p : Addr) (x y z m : Int), vs = [.ref p, .int m] ∧ H p = some (.lst [.int x, .int y, .int z]) ∧ 0 < m ∧ m < 1073741824 ∧
  ∀ x' y' z' v : Int, 0 ≤ v → v < m → Q (.int v) (upd H p (.lst [.int x', .int y', .int z']))
section
variable {P : Program} {w : World} {h : Heap} {K : PySem.W.Frag} {mg : Str → Option Value} {base : Heap}
abbrev N_law_cell_at : List Str := ["_law_script", "_law_k"]
theorem sc_law_cell_at : FnScope N_law_cell_at ["_law_script", "_law_k"] (defScope sd_law_cell_at) := ⟨rfl, rfl, rfl, by decide +kernel, rfl, by decide +kernel, by decide +kernel⟩
theorem ok_law_cell_at (T : Tx w h K mg) : Ok P w K mg base 1 ("_law_cell_at", none) ["_law_script", "_law_k"] (sp_cell K) := by
  obtain ⟨fd, F⟩ := F_law_cell_at T
  refine ⟨fd, ?_, F.bindsN (fun _ _ _ _ _ _ us hl => match us, hl with | [_, _], _ => rfl), F.kp⟩
  refine F.ok sc_law_cell_at (fun vs H Q E h => ?_) (fun cdv A outer s H vs Q E hr h => ?_)
  · obtain ⟨a, ns, k, rfl, hs, q⟩ := h
    rfl
  · obtain ⟨a, ns, k, rfl, hs, q⟩ := h
    refine ⟨_, PSs.nox (pss_one (ps_ret (pe_ifExp (pt_cmpR op_lt (pv 1) (pe_callB call_len_seq rfl (fr_len T) b_len (pa_cons (pv 0) pa_nil)) (nomark _)) (pe_ix ix_list (pv 0) (pv 1) (fun _ _ => rfl)) pe_int))), ?_⟩
    refine ⟨_, rfl, _, rfl, a, _, rfl, .inl hs, _, _, rfl, rfl, _, rfl, ite_of (fun h1 => ?_) (fun h1 => ?_)⟩
    · have hk : k < ns.length := by
        have := of_decide_eq_true h1
        rw [List.length_map] at this
        omega
      refine ⟨_, rfl, _, rfl, a, _, _, .int (ns.getD k 0), rfl, rfl, hs, atI_nat ?_, q⟩
      rw [List.getElem?_map, List.getD_eq_getElem?_getD, List.getElem?_eq_getElem hk] <;> rfl
    · have hk : ns.length ≤ k := by
        have := of_decide_eq_false h1
        rw [List.length_map] at this
        omega
      have e : ns.getD k 0 = 0 := by rw [List.getD_eq_getElem?_getD, List.getElem?_eq_none hk] <;> rfl
      rw [e] at q
      exact q
abbrev N_law_source_of : List Str := ["_law_cell"]
theorem sc_law_source_of : FnScope N_law_source_of ["_law_cell"] (defScope sd_law_source_of) := ⟨rfl, rfl, rfl, by decide +kernel, rfl, by decide +kernel, by decide +kernel⟩
theorem ok_law_source_of (T : Tx w h K mg) : Ok P w K mg base 1 ("_law_source_of", none) ["_law_cell"] (sp_source) := by
  obtain ⟨fd, F⟩ := F_law_source_of T
  refine ⟨fd, ?_, F.bindsN (fun _ _ _ _ _ _ us hl => match us, hl with | [_], _ => rfl), F.kp⟩
  refine F.ok sc_law_source_of (fun vs H Q E h => ?_) (fun cdv A outer s H vs Q E hr h => ?_)
  · obtain ⟨c, rfl, q⟩ := h
    rfl
  · obtain ⟨c, rfl, q⟩ := h
    refine ⟨_, PSs.nox (pss_one (ps_ret (pe_lst (pa_cons (pe_op op_mul (pv 0) (pe_callTy call_int1 rfl (fr_int T) b_int (pa_cons (pe_cmpR op_ge (pv 0) (pe_op op_pow pe_int pe_int) (nomark _)) pa_nil))) (pa_cons (pe_op op_add (pe_op op_mod (pe_callTy call_int1 rfl (fr_int T) b_int (pa_cons (pv 0) pa_nil)) pe_int) pe_int) (pa_cons pe_int pa_nil)))))), ?_⟩
    refine ⟨_, rfl, _, rfl, _, _, rfl, rfl, (by unfold CPow; decide), _, _, rfl, rfl, .inr ⟨_, rfl, _, _, rfl, rfl, ?_, _, rfl, .inl ⟨_, rfl, _, _, rfl, rfl, (by first | (show (0 : Int) < _; decide) | (show (0 : Int) < _ ∧ _ < (1073741824 : Int); decide)), _, _, rfl, rfl, sz (by simp), fun p hp => q p _ _ hp⟩⟩⟩
    refine .inr ?_
    by_cases h1 : decide ((10 : Int) ^ (18 : Int).toNat ≤ c) = true
    · rw [if_pos h1] <;> decide
    · rw [if_neg h1] <;> decide
abbrev N_law_draw : List Str := ["_law_source", "_law_many", "_law_found", "_law_mixed"]
theorem sc_law_draw : FnScope N_law_draw ["_law_source", "_law_many"] (defScope sd_law_draw) := ⟨rfl, rfl, rfl, by decide +kernel, rfl, by decide +kernel, by decide +kernel⟩
theorem ok_law_draw (T : Tx w h K mg) : Ok P w K mg base 1 ("_law_draw", none) ["_law_source", "_law_many"] (sp_draw) := by
  obtain ⟨fd, F⟩ := F_law_draw T
  refine ⟨fd, ?_, F.bindsN (fun _ _ _ _ _ _ us hl => match us, hl with | [_, _], _ => rfl), F.kp⟩
  refine F.ok sc_law_draw (fun vs H Q E h => ?_) (fun cdv A outer s H vs Q E hr h => ?_)
  · obtain ⟨p, x, y, z, m, rfl, hp, h1, h2, q⟩ := h
    rfl
  · obtain ⟨p, x, y, z, m, rfl, hp, h1, h2, q⟩ := h
    refine ⟨_, PSs.nox (pss_cons (ps_if (pt_cmpR op_gt (pe_ix ix_list (pv 0) pe_int (fun _ _ => rfl)) pe_int (nomark _)) (pss_cons (ps_set (i := 2) sc_law_draw.nd rfl (Or.inl rfl) (pe_op op_mod (pe_callTy call_int1 rfl (fr_int T) b_int (pa_cons (pe_ix ix_list (pv 0) pe_int (fun _ _ => rfl)) pa_nil)) (pv 1))) (pss_cons (ps_asg (pe_op op_fdiv (pe_ix ix_list (pv 0) pe_int (fun _ _ => rfl)) (pv 1)) (pg_sub (pv 0) pe_int set_list)) (pss_one (ps_ret (pv 2))))) pss_nil) (pss_cons (ps_asg (pe_op op_add (pe_ix ix_list (pv 0) pe_int (fun _ _ => rfl)) pe_int) (pg_sub (pv 0) pe_int set_list)) (pss_cons (ps_set (i := 3) sc_law_draw.nd rfl (Or.inl rfl) (pe_op op_mod (pe_callTy call_int1 rfl (fr_int T) b_int (pa_cons (pe_op op_mul (pe_op op_add (pe_ix ix_list (pv 0) pe_int (fun _ _ => rfl)) (pe_op op_mul pe_int (pe_ix ix_list (pv 0) pe_int (fun _ _ => rfl)))) pe_int) pa_nil)) pe_int)) (pss_cons (ps_set (i := 3) sc_law_draw.nd rfl (Or.inl rfl) (pe_op op_mod (pe_callTy call_int1 rfl (fr_int T) b_int (pa_cons (pe_op op_mul (pv 3) (pe_op op_add (pe_op op_add (pe_op op_fdiv (pv 3) pe_int) pe_int) (pe_ix ix_list (pv 0) pe_int (fun _ _ => rfl)))) pa_nil)) pe_int)) (pss_one (ps_ret (pe_op op_mod (pe_callTy call_int1 rfl (fr_int T) b_int (pa_cons (pe_op op_fdiv (pe_op op_mod (pe_callTy call_int1 rfl (fr_int T) b_int (pa_cons (pe_op op_mul (pv 3) (pe_op op_add (pe_op op_fdiv (pv 3) pe_int) pe_int)) pa_nil)) pe_int) pe_int) pa_nil)) (pv 1)))))))), ?_⟩
    have hs := Evl.sq_of (K := K) hp
    refine ⟨_, rfl, p, _, _, _, rfl, rfl, hs, rfl, _, _, rfl, rfl, _, rfl, ite_of (fun h3 => ?_) (fun h3 => ?_)⟩
    · refine ⟨_, rfl, p, _, _, _, rfl, rfl, hs, rfl, .inl ⟨_, rfl, _, rfl, _, _, rfl, rfl, h1, ?_⟩⟩
      refine ⟨_, rfl, p, _, _, _, rfl, rfl, hs, rfl, _, rfl, _, _, rfl, rfl, ⟨h1, h2⟩, _, rfl, p, _, _, 0, rfl, rfl, hp, rfl, ?_⟩
      exact ⟨_, rfl, q _ _ _ _ (Int.emod_nonneg _ (by omega)) (Int.emod_lt_of_pos _ h1)⟩
    · refine ⟨_, rfl, p, _, _, _, rfl, rfl, hs, rfl, _, _, rfl, rfl, _, rfl, p, _, _, 2, rfl, rfl, hp, rfl, ?_⟩
      have hs2 := Evl.sq_of (K := K) (upd_same (H := H) (a := p) (o := .lst [.int x, .int y, .int (z + 1)]))
      refine ⟨_, rfl, p, _, _, _, rfl, rfl, hs2, rfl, _, rfl, p, _, _, _, rfl, rfl, hs2, rfl, _, _, rfl, rfl, .inl (by show (-(2 ^ 64) < (8191 : Int) ∧ (8191 : Int) < 2 ^ 64); decide), _, _, rfl, rfl, _, _, rfl, rfl, .inr (by show (-(2 ^ 64) < (48271 : Int) ∧ (48271 : Int) < 2 ^ 64); decide), .inl ⟨_, rfl, _, _, rfl, rfl, (by first | (show (0 : Int) < _; decide) | (show (0 : Int) < _ ∧ _ < (1073741824 : Int); decide)), ?_⟩⟩
      generalize (y + 8191 * (z + 1)) * 48271 = r1
      have b1 := Int.emod_nonneg r1 (show (2147483647 : Int) ≠ 0 by decide)
      have b2 := Int.emod_lt_of_pos r1 (show (0 : Int) < 2147483647 by decide)
      refine ⟨_, rfl, _, rfl, _, _, rfl, rfl, (by first | (show (0 : Int) < _; decide) | (show (0 : Int) < _ ∧ _ < (1073741824 : Int); decide)), _, _, rfl, rfl, _, rfl, p, _, _, _, rfl, rfl, hs2, rfl, _, _, rfl, rfl, _, _, rfl, rfl, .inl (by omega), .inl ⟨_, rfl, _, _, rfl, rfl, (by first | (show (0 : Int) < _; decide) | (show (0 : Int) < _ ∧ _ < (1073741824 : Int); decide)), ?_⟩⟩
      generalize r1 % 2147483647 * (r1 % 2147483647 / 1021 + 69621 + (z + 1)) = r2
      have b3 := Int.emod_nonneg r2 (show (2147483587 : Int) ≠ 0 by decide)
      have b4 := Int.emod_lt_of_pos r2 (show (0 : Int) < 2147483587 by decide)
      refine ⟨_, rfl, _, rfl, _, _, rfl, rfl, (by first | (show (0 : Int) < _; decide) | (show (0 : Int) < _ ∧ _ < (1073741824 : Int); decide)), _, _, rfl, rfl, _, _, rfl, rfl, .inl (by omega), .inl ⟨_, rfl, _, _, rfl, rfl, (by first | (show (0 : Int) < _; decide) | (show (0 : Int) < _ ∧ _ < (1073741824 : Int); decide)), _, _, rfl, rfl, (by first | (show (0 : Int) < _; decide) | (show (0 : Int) < _ ∧ _ < (1073741824 : Int); decide)), .inl ⟨_, rfl, _, rfl, _, _, rfl, rfl, h1, ?_⟩⟩⟩
      exact q _ _ _ _ (Int.emod_nonneg _ (by omega)) (Int.emod_lt_of_pos _ h1)
end
end Fc

set_option maxRecDepth 100000
set_option maxHeartbeats 4000000
namespace Fc
open PySem PySem.Spec PyProof.Rows L2 FcR
open Evl (Ex)
section
variable {P : Program} {w : World} {h : Heap} {K : PySem.W.Frag} {mg : Str → Option Value} {base : Heap}
abbrev N_InvalidCode___init__ : List Str := ["self", "number"]
theorem sc_InvalidCode___init__ : FnScope N_InvalidCode___init__ ["self", "number"] (defScope sd_InvalidCode___init__) := ⟨rfl, rfl, rfl, by decide +kernel, rfl, by decide +kernel, by decide +kernel⟩
theorem okF_InvalidCode___init__ (T : Tx w h K mg) : ∃ fd, FnOk P w K mg base (CX P w) 1 (He.fAd K ("InvalidCode", some "__init__")) fd ["self", "number"] (FcX.spX K (He.ga K "InvalidCode") "number") ∧ Binds K fd ["self", "number"] [] ∧ PySem.W.keepIn K (.ref (He.fAd K ("InvalidCode", some "__init__"))) = true ∧ FunD K "__init__" "InvalidCode.__init__" (defArgs sd_InvalidCode___init__) (defBody sd_InvalidCode___init__) (defScope sd_InvalidCode___init__) [] [] (He.fAd K ("InvalidCode", some "__init__")) fd := by
  obtain ⟨fd, F⟩ := F_InvalidCode___init__ T
  refine ⟨fd, ?_, F.bindsN (fun _ _ _ _ _ _ us hl => match us, hl with | [_, _], _ => rfl), F.kp, F⟩
  refine F.ok sc_InvalidCode___init__ (fun vs H Q E h => ?_) (fun cdv A outer s H vs Q E hr h => ?_)
  · obtain ⟨a, y, rfl, ea, q⟩ := h
    rfl
  · obtain ⟨a, y, rfl, ea, q⟩ := h
    refine ⟨_, PSs.nox (pss_one (FcX.ps_xst (pv 0) (pv 1))), ?_⟩
    exact ⟨y, rfl, .ref a, rfl, a, _, rfl, x_InvalidCode T, (xi_InvalidCode T).tk, ea, fun dx h1 h2 => q dx h1 h2⟩
theorem ok_InvalidCode___init__ (T : Tx w h K mg) : Ok P w K mg base 1 ("InvalidCode", some "__init__") ["self", "number"] (FcX.spX K (He.ga K "InvalidCode") "number") := by
  obtain ⟨fd, a, b, c, _⟩ := okF_InvalidCode___init__ (P := P) (base := base) T
  exact ⟨fd, a, b, c⟩
abbrev N_InvalidNumber___init__ : List Str := ["self", "number"]
theorem sc_InvalidNumber___init__ : FnScope N_InvalidNumber___init__ ["self", "number"] (defScope sd_InvalidNumber___init__) := ⟨rfl, rfl, rfl, by decide +kernel, rfl, by decide +kernel, by decide +kernel⟩
theorem okF_InvalidNumber___init__ (T : Tx w h K mg) : ∃ fd, FnOk P w K mg base (CX P w) 1 (He.fAd K ("InvalidNumber", some "__init__")) fd ["self", "number"] (FcX.spX K (He.ga K "InvalidNumber") "number") ∧ Binds K fd ["self", "number"] [] ∧ PySem.W.keepIn K (.ref (He.fAd K ("InvalidNumber", some "__init__"))) = true ∧ FunD K "__init__" "InvalidNumber.__init__" (defArgs sd_InvalidNumber___init__) (defBody sd_InvalidNumber___init__) (defScope sd_InvalidNumber___init__) [] [] (He.fAd K ("InvalidNumber", some "__init__")) fd := by
  obtain ⟨fd, F⟩ := F_InvalidNumber___init__ T
  refine ⟨fd, ?_, F.bindsN (fun _ _ _ _ _ _ us hl => match us, hl with | [_, _], _ => rfl), F.kp, F⟩
  refine F.ok sc_InvalidNumber___init__ (fun vs H Q E h => ?_) (fun cdv A outer s H vs Q E hr h => ?_)
  · obtain ⟨a, y, rfl, ea, q⟩ := h
    rfl
  · obtain ⟨a, y, rfl, ea, q⟩ := h
    refine ⟨_, PSs.nox (pss_one (FcX.ps_xst (pv 0) (pv 1))), ?_⟩
    exact ⟨y, rfl, .ref a, rfl, a, _, rfl, x_InvalidNumber T, (xi_InvalidNumber T).tk, ea, fun dx h1 h2 => q dx h1 h2⟩
theorem ok_InvalidNumber___init__ (T : Tx w h K mg) : Ok P w K mg base 1 ("InvalidNumber", some "__init__") ["self", "number"] (FcX.spX K (He.ga K "InvalidNumber") "number") := by
  obtain ⟨fd, a, b, c, _⟩ := okF_InvalidNumber___init__ (P := P) (base := base) T
  exact ⟨fd, a, b, c⟩
abbrev N_InvalidAnswers___init__ : List Str := ["self", "at"]
theorem sc_InvalidAnswers___init__ : FnScope N_InvalidAnswers___init__ ["self", "at"] (defScope sd_InvalidAnswers___init__) := ⟨rfl, rfl, rfl, by decide +kernel, rfl, by decide +kernel, by decide +kernel⟩
theorem okF_InvalidAnswers___init__ (T : Tx w h K mg) : ∃ fd, FnOk P w K mg base (CX P w) 1 (He.fAd K ("InvalidAnswers", some "__init__")) fd ["self", "at"] (FcX.spX K (He.ga K "InvalidAnswers") "at") ∧ Binds K fd ["self", "at"] [] ∧ PySem.W.keepIn K (.ref (He.fAd K ("InvalidAnswers", some "__init__"))) = true ∧ FunD K "__init__" "InvalidAnswers.__init__" (defArgs sd_InvalidAnswers___init__) (defBody sd_InvalidAnswers___init__) (defScope sd_InvalidAnswers___init__) [] [] (He.fAd K ("InvalidAnswers", some "__init__")) fd := by
  obtain ⟨fd, F⟩ := F_InvalidAnswers___init__ T
  refine ⟨fd, ?_, F.bindsN (fun _ _ _ _ _ _ us hl => match us, hl with | [_, _], _ => rfl), F.kp, F⟩
  refine F.ok sc_InvalidAnswers___init__ (fun vs H Q E h => ?_) (fun cdv A outer s H vs Q E hr h => ?_)
  · obtain ⟨a, y, rfl, ea, q⟩ := h
    rfl
  · obtain ⟨a, y, rfl, ea, q⟩ := h
    refine ⟨_, PSs.nox (pss_one (FcX.ps_xst (pv 0) (pv 1))), ?_⟩
    exact ⟨y, rfl, .ref a, rfl, a, _, rfl, x_InvalidAnswers T, (xi_InvalidAnswers T).tk, ea, fun dx h1 h2 => q dx h1 h2⟩
theorem ok_InvalidAnswers___init__ (T : Tx w h K mg) : Ok P w K mg base 1 ("InvalidAnswers", some "__init__") ["self", "at"] (FcX.spX K (He.ga K "InvalidAnswers") "at") := by
  obtain ⟨fd, a, b, c, _⟩ := okF_InvalidAnswers___init__ (P := P) (base := base) T
  exact ⟨fd, a, b, c⟩
abbrev N_InvalidWay___init__ : List Str := ["self", "way"]
theorem sc_InvalidWay___init__ : FnScope N_InvalidWay___init__ ["self", "way"] (defScope sd_InvalidWay___init__) := ⟨rfl, rfl, rfl, by decide +kernel, rfl, by decide +kernel, by decide +kernel⟩
theorem okF_InvalidWay___init__ (T : Tx w h K mg) : ∃ fd, FnOk P w K mg base (CX P w) 1 (He.fAd K ("InvalidWay", some "__init__")) fd ["self", "way"] (FcX.spX K (He.ga K "InvalidWay") "way") ∧ Binds K fd ["self", "way"] [] ∧ PySem.W.keepIn K (.ref (He.fAd K ("InvalidWay", some "__init__"))) = true ∧ FunD K "__init__" "InvalidWay.__init__" (defArgs sd_InvalidWay___init__) (defBody sd_InvalidWay___init__) (defScope sd_InvalidWay___init__) [] [] (He.fAd K ("InvalidWay", some "__init__")) fd := by
  obtain ⟨fd, F⟩ := F_InvalidWay___init__ T
  refine ⟨fd, ?_, F.bindsN (fun _ _ _ _ _ _ us hl => match us, hl with | [_, _], _ => rfl), F.kp, F⟩
  refine F.ok sc_InvalidWay___init__ (fun vs H Q E h => ?_) (fun cdv A outer s H vs Q E hr h => ?_)
  · obtain ⟨a, y, rfl, ea, q⟩ := h
    rfl
  · obtain ⟨a, y, rfl, ea, q⟩ := h
    refine ⟨_, PSs.nox (pss_one (FcX.ps_xst (pv 0) (pv 1))), ?_⟩
    exact ⟨y, rfl, .ref a, rfl, a, _, rfl, x_InvalidWay T, (xi_InvalidWay T).tk, ea, fun dx h1 h2 => q dx h1 h2⟩
theorem ok_InvalidWay___init__ (T : Tx w h K mg) : Ok P w K mg base 1 ("InvalidWay", some "__init__") ["self", "way"] (FcX.spX K (He.ga K "InvalidWay") "way") := by
  obtain ⟨fd, a, b, c, _⟩ := okF_InvalidWay___init__ (P := P) (base := base) T
  exact ⟨fd, a, b, c⟩
abbrev N_InvalidTable___init__ : List Str := ["self", "at"]
theorem sc_InvalidTable___init__ : FnScope N_InvalidTable___init__ ["self", "at"] (defScope sd_InvalidTable___init__) := ⟨rfl, rfl, rfl, by decide +kernel, rfl, by decide +kernel, by decide +kernel⟩
theorem okF_InvalidTable___init__ (T : Tx w h K mg) : ∃ fd, FnOk P w K mg base (CX P w) 1 (He.fAd K ("InvalidTable", some "__init__")) fd ["self", "at"] (FcX.spX K (He.ga K "InvalidTable") "at") ∧ Binds K fd ["self", "at"] [] ∧ PySem.W.keepIn K (.ref (He.fAd K ("InvalidTable", some "__init__"))) = true ∧ FunD K "__init__" "InvalidTable.__init__" (defArgs sd_InvalidTable___init__) (defBody sd_InvalidTable___init__) (defScope sd_InvalidTable___init__) [] [] (He.fAd K ("InvalidTable", some "__init__")) fd := by
  obtain ⟨fd, F⟩ := F_InvalidTable___init__ T
  refine ⟨fd, ?_, F.bindsN (fun _ _ _ _ _ _ us hl => match us, hl with | [_, _], _ => rfl), F.kp, F⟩
  refine F.ok sc_InvalidTable___init__ (fun vs H Q E h => ?_) (fun cdv A outer s H vs Q E hr h => ?_)
  · obtain ⟨a, y, rfl, ea, q⟩ := h
    rfl
  · obtain ⟨a, y, rfl, ea, q⟩ := h
    refine ⟨_, PSs.nox (pss_one (FcX.ps_xst (pv 0) (pv 1))), ?_⟩
    exact ⟨y, rfl, .ref a, rfl, a, _, rfl, x_InvalidTable T, (xi_InvalidTable T).tk, ea, fun dx h1 h2 => q dx h1 h2⟩
theorem ok_InvalidTable___init__ (T : Tx w h K mg) : Ok P w K mg base 1 ("InvalidTable", some "__init__") ["self", "at"] (FcX.spX K (He.ga K "InvalidTable") "at") := by
  obtain ⟨fd, a, b, c, _⟩ := okF_InvalidTable___init__ (P := P) (base := base) T
  exact ⟨fd, a, b, c⟩
abbrev N_InvalidFinals___init__ : List Str := ["self", "at"]
theorem sc_InvalidFinals___init__ : FnScope N_InvalidFinals___init__ ["self", "at"] (defScope sd_InvalidFinals___init__) := ⟨rfl, rfl, rfl, by decide +kernel, rfl, by decide +kernel, by decide +kernel⟩
theorem okF_InvalidFinals___init__ (T : Tx w h K mg) : ∃ fd, FnOk P w K mg base (CX P w) 1 (He.fAd K ("InvalidFinals", some "__init__")) fd ["self", "at"] (FcX.spX K (He.ga K "InvalidFinals") "at") ∧ Binds K fd ["self", "at"] [] ∧ PySem.W.keepIn K (.ref (He.fAd K ("InvalidFinals", some "__init__"))) = true ∧ FunD K "__init__" "InvalidFinals.__init__" (defArgs sd_InvalidFinals___init__) (defBody sd_InvalidFinals___init__) (defScope sd_InvalidFinals___init__) [] [] (He.fAd K ("InvalidFinals", some "__init__")) fd := by
  obtain ⟨fd, F⟩ := F_InvalidFinals___init__ T
  refine ⟨fd, ?_, F.bindsN (fun _ _ _ _ _ _ us hl => match us, hl with | [_, _], _ => rfl), F.kp, F⟩
  refine F.ok sc_InvalidFinals___init__ (fun vs H Q E h => ?_) (fun cdv A outer s H vs Q E hr h => ?_)
  · obtain ⟨a, y, rfl, ea, q⟩ := h
    rfl
  · obtain ⟨a, y, rfl, ea, q⟩ := h
    refine ⟨_, PSs.nox (pss_one (FcX.ps_xst (pv 0) (pv 1))), ?_⟩
    exact ⟨y, rfl, .ref a, rfl, a, _, rfl, x_InvalidFinals T, (xi_InvalidFinals T).tk, ea, fun dx h1 h2 => q dx h1 h2⟩
theorem ok_InvalidFinals___init__ (T : Tx w h K mg) : Ok P w K mg base 1 ("InvalidFinals", some "__init__") ["self", "at"] (FcX.spX K (He.ga K "InvalidFinals") "at") := by
  obtain ⟨fd, a, b, c, _⟩ := okF_InvalidFinals___init__ (P := P) (base := base) T
  exact ⟨fd, a, b, c⟩
abbrev N_InvalidBound___init__ : List Str := ["self", "bound"]
theorem sc_InvalidBound___init__ : FnScope N_InvalidBound___init__ ["self", "bound"] (defScope sd_InvalidBound___init__) := ⟨rfl, rfl, rfl, by decide +kernel, rfl, by decide +kernel, by decide +kernel⟩
theorem okF_InvalidBound___init__ (T : Tx w h K mg) : ∃ fd, FnOk P w K mg base (CX P w) 1 (He.fAd K ("InvalidBound", some "__init__")) fd ["self", "bound"] (FcX.spX K (He.ga K "InvalidBound") "bound") ∧ Binds K fd ["self", "bound"] [] ∧ PySem.W.keepIn K (.ref (He.fAd K ("InvalidBound", some "__init__"))) = true ∧ FunD K "__init__" "InvalidBound.__init__" (defArgs sd_InvalidBound___init__) (defBody sd_InvalidBound___init__) (defScope sd_InvalidBound___init__) [] [] (He.fAd K ("InvalidBound", some "__init__")) fd := by
  obtain ⟨fd, F⟩ := F_InvalidBound___init__ T
  refine ⟨fd, ?_, F.bindsN (fun _ _ _ _ _ _ us hl => match us, hl with | [_, _], _ => rfl), F.kp, F⟩
  refine F.ok sc_InvalidBound___init__ (fun vs H Q E h => ?_) (fun cdv A outer s H vs Q E hr h => ?_)
  · obtain ⟨a, y, rfl, ea, q⟩ := h
    rfl
  · obtain ⟨a, y, rfl, ea, q⟩ := h
    refine ⟨_, PSs.nox (pss_one (FcX.ps_xst (pv 0) (pv 1))), ?_⟩
    exact ⟨y, rfl, .ref a, rfl, a, _, rfl, x_InvalidBound T, (xi_InvalidBound T).tk, ea, fun dx h1 h2 => q dx h1 h2⟩
theorem ok_InvalidBound___init__ (T : Tx w h K mg) : Ok P w K mg base 1 ("InvalidBound", some "__init__") ["self", "bound"] (FcX.spX K (He.ga K "InvalidBound") "bound") := by
  obtain ⟨fd, a, b, c, _⟩ := okF_InvalidBound___init__ (P := P) (base := base) T
  exact ⟨fd, a, b, c⟩
abbrev N_InvalidText___init__ : List Str := ["self", "at"]
theorem sc_InvalidText___init__ : FnScope N_InvalidText___init__ ["self", "at"] (defScope sd_InvalidText___init__) := ⟨rfl, rfl, rfl, by decide +kernel, rfl, by decide +kernel, by decide +kernel⟩
theorem okF_InvalidText___init__ (T : Tx w h K mg) : ∃ fd, FnOk P w K mg base (CX P w) 1 (He.fAd K ("InvalidText", some "__init__")) fd ["self", "at"] (FcX.spX K (He.ga K "InvalidText") "at") ∧ Binds K fd ["self", "at"] [] ∧ PySem.W.keepIn K (.ref (He.fAd K ("InvalidText", some "__init__"))) = true ∧ FunD K "__init__" "InvalidText.__init__" (defArgs sd_InvalidText___init__) (defBody sd_InvalidText___init__) (defScope sd_InvalidText___init__) [] [] (He.fAd K ("InvalidText", some "__init__")) fd := by
  obtain ⟨fd, F⟩ := F_InvalidText___init__ T
  refine ⟨fd, ?_, F.bindsN (fun _ _ _ _ _ _ us hl => match us, hl with | [_, _], _ => rfl), F.kp, F⟩
  refine F.ok sc_InvalidText___init__ (fun vs H Q E h => ?_) (fun cdv A outer s H vs Q E hr h => ?_)
  · obtain ⟨a, y, rfl, ea, q⟩ := h
    rfl
  · obtain ⟨a, y, rfl, ea, q⟩ := h
    refine ⟨_, PSs.nox (pss_one (FcX.ps_xst (pv 0) (pv 1))), ?_⟩
    exact ⟨y, rfl, .ref a, rfl, a, _, rfl, x_InvalidText T, (xi_InvalidText T).tk, ea, fun dx h1 h2 => q dx h1 h2⟩
theorem ok_InvalidText___init__ (T : Tx w h K mg) : Ok P w K mg base 1 ("InvalidText", some "__init__") ["self", "at"] (FcX.spX K (He.ga K "InvalidText") "at") := by
  obtain ⟨fd, a, b, c, _⟩ := okF_InvalidText___init__ (P := P) (base := base) T
  exact ⟨fd, a, b, c⟩
abbrev N_NotWaiting___init__ : List Str := ["self", "end"]
theorem sc_NotWaiting___init__ : FnScope N_NotWaiting___init__ ["self", "end"] (defScope sd_NotWaiting___init__) := ⟨rfl, rfl, rfl, by decide +kernel, rfl, by decide +kernel, by decide +kernel⟩
theorem okF_NotWaiting___init__ (T : Tx w h K mg) : ∃ fd, FnOk P w K mg base (CX P w) 1 (He.fAd K ("NotWaiting", some "__init__")) fd ["self", "end"] (FcX.spX K (He.ga K "NotWaiting") "end") ∧ Binds K fd ["self", "end"] [] ∧ PySem.W.keepIn K (.ref (He.fAd K ("NotWaiting", some "__init__"))) = true ∧ FunD K "__init__" "NotWaiting.__init__" (defArgs sd_NotWaiting___init__) (defBody sd_NotWaiting___init__) (defScope sd_NotWaiting___init__) [] [] (He.fAd K ("NotWaiting", some "__init__")) fd := by
  obtain ⟨fd, F⟩ := F_NotWaiting___init__ T
  refine ⟨fd, ?_, F.bindsN (fun _ _ _ _ _ _ us hl => match us, hl with | [_, _], _ => rfl), F.kp, F⟩
  refine F.ok sc_NotWaiting___init__ (fun vs H Q E h => ?_) (fun cdv A outer s H vs Q E hr h => ?_)
  · obtain ⟨a, y, rfl, ea, q⟩ := h
    rfl
  · obtain ⟨a, y, rfl, ea, q⟩ := h
    refine ⟨_, PSs.nox (pss_one (FcX.ps_xst (pv 0) (pv 1))), ?_⟩
    exact ⟨y, rfl, .ref a, rfl, a, _, rfl, x_NotWaiting T, (xi_NotWaiting T).tk, ea, fun dx h1 h2 => q dx h1 h2⟩
theorem ok_NotWaiting___init__ (T : Tx w h K mg) : Ok P w K mg base 1 ("NotWaiting", some "__init__") ["self", "end"] (FcX.spX K (He.ga K "NotWaiting") "end") := by
  obtain ⟨fd, a, b, c, _⟩ := okF_NotWaiting___init__ (P := P) (base := base) T
  exact ⟨fd, a, b, c⟩
abbrev N_LimitExceeded___init__ : List Str := ["self", "limit"]
theorem sc_LimitExceeded___init__ : FnScope N_LimitExceeded___init__ ["self", "limit"] (defScope sd_LimitExceeded___init__) := ⟨rfl, rfl, rfl, by decide +kernel, rfl, by decide +kernel, by decide +kernel⟩
theorem okF_LimitExceeded___init__ (T : Tx w h K mg) : ∃ fd, FnOk P w K mg base (CX P w) 1 (He.fAd K ("LimitExceeded", some "__init__")) fd ["self", "limit"] (FcX.spX K (He.ga K "LimitExceeded") "limit") ∧ Binds K fd ["self", "limit"] [] ∧ PySem.W.keepIn K (.ref (He.fAd K ("LimitExceeded", some "__init__"))) = true ∧ FunD K "__init__" "LimitExceeded.__init__" (defArgs sd_LimitExceeded___init__) (defBody sd_LimitExceeded___init__) (defScope sd_LimitExceeded___init__) [] [] (He.fAd K ("LimitExceeded", some "__init__")) fd := by
  obtain ⟨fd, F⟩ := F_LimitExceeded___init__ T
  refine ⟨fd, ?_, F.bindsN (fun _ _ _ _ _ _ us hl => match us, hl with | [_, _], _ => rfl), F.kp, F⟩
  refine F.ok sc_LimitExceeded___init__ (fun vs H Q E h => ?_) (fun cdv A outer s H vs Q E hr h => ?_)
  · obtain ⟨a, y, rfl, ea, q⟩ := h
    rfl
  · obtain ⟨a, y, rfl, ea, q⟩ := h
    refine ⟨_, PSs.nox (pss_one (FcX.ps_xst (pv 0) (pv 1))), ?_⟩
    exact ⟨y, rfl, .ref a, rfl, a, _, rfl, x_LimitExceeded T, (xi_LimitExceeded T).tk, ea, fun dx h1 h2 => q dx h1 h2⟩
theorem ok_LimitExceeded___init__ (T : Tx w h K mg) : Ok P w K mg base 1 ("LimitExceeded", some "__init__") ["self", "limit"] (FcX.spX K (He.ga K "LimitExceeded") "limit") := by
  obtain ⟨fd, a, b, c, _⟩ := okF_LimitExceeded___init__ (P := P) (base := base) T
  exact ⟨fd, a, b, c⟩
end
end Fc

set_option maxRecDepth 100000
set_option maxHeartbeats 4000000
namespace Fc
open PySem PySem.Spec PyProof.Rows L2 FcR
open Evl (Ex)
/-! ### the classes of an error, and its fields -/
def xT : List Str := ["InvalidCode", "InvalidNumber", "InvalidAnswers", "InvalidWay", "InvalidTable", "InvalidFinals", "InvalidBound", "InvalidText", "NotWaiting", "LimitExceeded"]
def xF : List Str := ["number", "number", "at", "way", "at", "at", "bound", "at", "end", "limit"]
def xb (c d : Str) : Bool := c == d || d == "CopyError"
def kOf (c : Str) (n : Nat) : List Nat := (List.range n).filter fun i => xb c (xT.getD i "")
theorem kOf_step (c : Str) (n : Nat) : kOf c (n + 1) = kOf c n ++ (if xb c (xT.getD n "") = true then [n] else []) := by
  unfold kOf
  rw [List.range_succ, List.filter_append, List.filter_cons]
  rfl
theorem kOf_at : ∀ i < 10, kOf (xT.getD i "") 10 = [i] := by decide +kernel
theorem kOf_base : kOf "CopyError" 10 = [] := by decide +kernel
theorem xT_in : ∀ i < 10, xT.getD i "" ∈ xN := by decide +kernel
def sp_kinds (K : PySem.W.Frag) : Sp := fun vs H Q _ => ∃ (a : Addr) (c : Str), vs = [.ref a] ∧ c ∈ xN ∧ FcX.XC K (He.ga K c) ∧ FcX.XO H (He.ga K c) a ∧
  ∀ (p : Addr) (H' : Hp), Ex H H' → H p = none → H' p = some (.lst ((kOf c 10).map fun i => V.int (i : Nat))) → Q (.ref p) H'
theorem xo_ex {H H' : Hp} {C a : Addr} (h : FcX.XO H C a) (e : Ex H H') : FcX.XO H' C a := by
  rcases h with ⟨d, fs, h1, h2⟩ | h1
  · exact .inl ⟨d, fs, e _ _ h1, e _ _ h2⟩
  · exact .inr (e _ _ h1)
theorem xv_o {H : Hp} {C a : Addr} {f : Str} {y : V} (h : FcX.XV H C f y a) : FcX.XO H C a := by
  obtain ⟨d, h1, h2⟩ := h
  exact .inl ⟨d, _, h1, h2⟩
def XTen (K : PySem.W.Frag) (H : Hp) (y : V) (es : List Addr) : Prop := es.length = 10 ∧ ∀ (i : Nat) (e : Addr), es[i]? = some e → FcX.XV H (He.ga K (xT.getD i "")) (xF.getD i "") y e
def sp_fields (K : PySem.W.Frag) : Sp := fun vs H Q _ => ∃ (a : Addr) (es : List Addr) (y : V), vs = [.ref a] ∧ SqL K H a (es.map V.ref) ∧ XTen K H y es ∧
  ∀ (p : Addr) (H' : Hp), Ex H H' → H p = none → H' p = some (.lst (List.replicate 10 y)) → Q (.ref p) H'
section
variable {P : Program} {w : World} {h : Heap} {K : PySem.W.Frag} {mg : Str → Option Value} {base : Heap}
abbrev N_law_kinds : List Str := ["_law_e", "_law_some", "_law_k_so", "_law_mark"]
theorem sc_law_kinds : FnScope N_law_kinds ["_law_e"] (defScope sd_law_kinds) := ⟨rfl, rfl, rfl, by decide +kernel, rfl, by decide +kernel, by decide +kernel⟩
theorem ok_law_kinds (T : Tx w h K mg) : Ok P w K mg base 1 ("_law_kinds", none) ["_law_e"] (sp_kinds K) := by
  obtain ⟨fd, F⟩ := F_law_kinds T
  refine ⟨fd, ?_, F.bindsN (fun _ _ _ _ _ _ us hl => match us, hl with | [_], _ => rfl), F.kp⟩
  refine F.ok sc_law_kinds (fun vs H Q E h => ?_) (fun cdv A outer s H vs Q E hr h => ?_)
  · obtain ⟨a, c, rfl, hc, X, xo, q⟩ := h
    rfl
  · obtain ⟨a, c, rfl, hc, X, xo, q⟩ := h
    refine ⟨_, PSs.nox (pss_cons (ps_set (i := 1) sc_law_kinds.nd rfl (Or.inl rfl) (pe_lst (pa_cons (pe_callB FcX.call_isX rfl (fr_isinstance T) b_isinstance (pa_cons (pv 0) (pa_cons (pe_glob (v := .ref (He.ga K "InvalidCode")) rfl (g_InvalidCode T) rfl) pa_nil))) (pa_cons (pe_callB FcX.call_isX rfl (fr_isinstance T) b_isinstance (pa_cons (pv 0) (pa_cons (pe_glob (v := .ref (He.ga K "InvalidNumber")) rfl (g_InvalidNumber T) rfl) pa_nil))) (pa_cons (pe_callB FcX.call_isX rfl (fr_isinstance T) b_isinstance (pa_cons (pv 0) (pa_cons (pe_glob (v := .ref (He.ga K "InvalidAnswers")) rfl (g_InvalidAnswers T) rfl) pa_nil))) pa_nil))))) (pss_cons (ps_set (i := 1) sc_law_kinds.nd rfl (Or.inl rfl) (pe_op op_cat (pv 1) (pe_lst (pa_cons (pe_callB FcX.call_isX rfl (fr_isinstance T) b_isinstance (pa_cons (pv 0) (pa_cons (pe_glob (v := .ref (He.ga K "InvalidWay")) rfl (g_InvalidWay T) rfl) pa_nil))) (pa_cons (pe_callB FcX.call_isX rfl (fr_isinstance T) b_isinstance (pa_cons (pv 0) (pa_cons (pe_glob (v := .ref (He.ga K "InvalidTable")) rfl (g_InvalidTable T) rfl) pa_nil))) (pa_cons (pe_callB FcX.call_isX rfl (fr_isinstance T) b_isinstance (pa_cons (pv 0) (pa_cons (pe_glob (v := .ref (He.ga K "InvalidFinals")) rfl (g_InvalidFinals T) rfl) pa_nil))) pa_nil)))))) (pss_cons (ps_set (i := 1) sc_law_kinds.nd rfl (Or.inl rfl) (pe_op op_cat (pv 1) (pe_lst (pa_cons (pe_callB FcX.call_isX rfl (fr_isinstance T) b_isinstance (pa_cons (pv 0) (pa_cons (pe_glob (v := .ref (He.ga K "InvalidBound")) rfl (g_InvalidBound T) rfl) pa_nil))) (pa_cons (pe_callB FcX.call_isX rfl (fr_isinstance T) b_isinstance (pa_cons (pv 0) (pa_cons (pe_glob (v := .ref (He.ga K "InvalidText")) rfl (g_InvalidText T) rfl) pa_nil))) (pa_cons (pe_callB FcX.call_isX rfl (fr_isinstance T) b_isinstance (pa_cons (pv 0) (pa_cons (pe_glob (v := .ref (He.ga K "NotWaiting")) rfl (g_NotWaiting T) rfl) pa_nil))) pa_nil)))))) (pss_cons (ps_expr (pe_bm PySem.F.plainAttrs_list PySem.F.slot_list_append PySem.F.type_list_append mt_append (pv 1) (pa_cons (pe_callB FcX.call_isX rfl (fr_isinstance T) b_isinstance (pa_cons (pv 0) (pa_cons (pe_glob (v := .ref (He.ga K "LimitExceeded")) rfl (g_LimitExceeded T) rfl) pa_nil))) pa_nil))) (pss_one (ps_ret (pe_lc (own := [("_law_k_so", 2), ("_law_mark", 3)]) rfl sc_law_kinds.nd (pi_enum rfl (fr_enumerate T) (pa_cons (pv 1) pa_nil)) (blkOk_by (N := N_law_kinds) (sc := defScope sd_law_kinds) (by decide +kernel)) (fun _ _ _ _ _ => (show PG _ _ (gTup K 2 _) from pg_tup (n := 2) rfl (pgs_cons (pg_name (i := 2) sc_law_kinds.nd rfl (Or.inl rfl) (Or.inr rfl)) (pgs_cons (pg_name (i := 3) sc_law_kinds.nd rfl (Or.inl rfl) (Or.inr rfl)) pgs_nil)))) (fun _ _ _ _ _ => (pts_one (pt_val (pv 3)))) (fun _ _ _ _ _ => (pv 2))))))))), ?_⟩
    have kk : ∀ d, d ∈ xN → PySem.W.kitOne K (.ref (He.ga K c)) (.ref (He.ga K d)) = some (xb c d) := fun d hd => FcX.xk_own (xk T) hc hd
    refine ⟨_, rfl, a, _, _, _, _, rfl, .own _, X, xo, kk "InvalidCode" (by decide), _, rfl, a, _, _, _, _, rfl, .own _, X, xo, kk "InvalidNumber" (by decide), _, rfl, a, _, _, _, _, rfl, .own _, X, xo, kk "InvalidAnswers" (by decide), sz (by simp), ?_⟩
    intro p1 n1
    generalize e1 : upd _ p1 _ = H1
    obtain ⟨x1, s1, o1⟩ := new_of e1 n1
    clear e1
    have xo1 := xo_ex xo x1
    refine ⟨_, rfl, _, rfl, a, _, _, _, _, rfl, .own _, X, xo1, kk "InvalidWay" (by decide), _, rfl, a, _, _, _, _, rfl, .own _, X, xo1, kk "InvalidTable" (by decide), _, rfl, a, _, _, _, _, rfl, .own _, X, xo1, kk "InvalidFinals" (by decide), sz (by simp), ?_⟩
    intro p2 n2
    generalize e2 : upd _ p2 _ = H2
    obtain ⟨x2, s2, o2⟩ := new_of e2 n2
    clear e2
    refine ⟨p1, p2, _, _, rfl, rfl, x2 _ _ s1, s2, sz (by simp), ?_⟩
    intro p3 n3
    generalize e3 : upd _ p3 _ = H3
    obtain ⟨x3, s3, o3⟩ := new_of e3 n3
    clear e3
    have x13 := (x1.trans x2).trans x3
    have xo3 := xo_ex xo x13
    refine ⟨_, rfl, _, rfl, a, _, _, _, _, rfl, .own _, X, xo3, kk "InvalidBound" (by decide), _, rfl, a, _, _, _, _, rfl, .own _, X, xo3, kk "InvalidText" (by decide), _, rfl, a, _, _, _, _, rfl, .own _, X, xo3, kk "NotWaiting" (by decide), sz (by simp), ?_⟩
    intro p4 n4
    generalize e4 : upd _ p4 _ = H4
    obtain ⟨x4, s4, o4⟩ := new_of e4 n4
    clear e4
    refine ⟨p3, p4, _, _, rfl, rfl, x4 _ _ s3, s4, sz (by simp), ?_⟩
    intro p5 n5
    generalize e5 : upd _ p5 _ = H5
    obtain ⟨x5, s5, o5⟩ := new_of e5 n5
    clear e5
    have x15 := (x13.trans x4).trans x5
    have xo5 := xo_ex xo x15
    refine ⟨_, rfl, Or.inl ⟨rfl, _, Evl.sq_of s5⟩, _, rfl, a, _, _, _, _, rfl, .own _, X, xo5, kk "LimitExceeded" (by decide), p5, _, _, rfl, rfl, s5, szl (by simp), ?_⟩
    generalize e6 : upd _ p5 _ = H6
    obtain ⟨s6, o6⟩ := set_of e6
    clear e6
    have x6 : Ex H H6 := set_ex x15 (ex_none x13 (ex_none x4 n5)) o6
    replace s6 : H6 p5 = some (.lst (xT.map fun d => V.bl (xb c d))) := s6
    refine ⟨_, rfl, p5, _, rfl, Evl.sq_of s6, fun D nD => ?_⟩
    refine lc_it (walk_enum (xs := xT.map fun d => V.bl (xb c d))) (fun i H' => Ex H6 H' ∧ H' D = some (.lst ((kOf c i).map fun j => V.int (j : Nat)))) ?_ ?_ ?_ ?_
    · exact ⟨exu (Evl.Ex.refl _) nD, upd_same⟩
    · exact fun i H' _ ⟨e, _⟩ => Evl.sq_of (e _ _ s6)
    · rintro i v H1 H2 hi ⟨e1, d1⟩ ⟨tp, u1, u2, rfl, n2, rfl, z1, z2⟩
      cases z1
      have hi' : i < 10 := by simpa [xT] using hi
      have hu : u2 = .bl (xb c (xT.getD i "")) := by
        replace z2 : (xT.map fun d => V.bl (xb c d))[i]? = some u2 := z2
        rw [List.getElem?_map] at z2
        rw [List.getD_eq_getElem?_getD]
        cases e : xT[i]? with
        | none => rw [e] at z2; cases z2
        | some d => rw [e] at z2; exact (Option.some.inj z2).symm
      subst hu
      have hD : D ≠ tp := ne_of_none d1 n2
      have e2 : Ex H6 (upd H1 tp (.tup [.int (i : Nat), .bl (xb c (xT.getD i ""))])) := e1.trans (exu (Evl.Ex.refl _) n2)
      have d2 : upd H1 tp (.tup [.int (i : Nat), .bl (xb c (xT.getD i ""))]) D = some (.lst ((kOf c i).map fun j => V.int (j : Nat))) := by rw [upd_ne hD]; exact d1
      refine ⟨tp, _, rfl, Evl.st_of upd_same, rfl, _, _, rfl, _, _, rfl, rfl, rfl, ?_⟩
      refine ⟨_, rfl, _, rfl, ite_of (fun hb => ?_) (fun hb => ?_)⟩
      · refine ⟨_, rfl, _, d2, szl ?_, exm e2 nD, ?_⟩
        · have l1 : (kOf c i).length ≤ (List.range i).length := List.length_filter_le ..
          rw [List.length_range] at l1
          rw [List.length_map]
          omega
        · rw [upd_same, kOf_step, if_pos hb, List.map_append]
          rfl
      · refine ⟨e2, ?_⟩
        rw [d2, kOf_step, if_neg (by rw [hb]; exact Bool.false_ne_true), List.append_nil]
    · rintro H' ⟨e, d⟩
      refine q D H' (x6.trans e) ?_ d
      cases e2 : H D with
      | none => rfl
      | some o => rw [x6 _ _ e2] at nD; cases nD
abbrev N_law_fields : List Str := ["_law_errors", "_law_found"]
theorem sc_law_fields : FnScope N_law_fields ["_law_errors"] (defScope sd_law_fields) := ⟨rfl, rfl, rfl, by decide +kernel, rfl, by decide +kernel, by decide +kernel⟩
theorem ok_law_fields (T : Tx w h K mg) : Ok P w K mg base 1 ("_law_fields", none) ["_law_errors"] (sp_fields K) := by
  obtain ⟨fd, F⟩ := F_law_fields T
  refine ⟨fd, ?_, F.bindsN (fun _ _ _ _ _ _ us hl => match us, hl with | [_], _ => rfl), F.kp⟩
  refine F.ok sc_law_fields (fun vs H Q E h => ?_) (fun cdv A outer s H vs Q E hr h => ?_)
  · obtain ⟨a, es, y, rfl, hs, ⟨hl, hx⟩, q⟩ := h
    rfl
  · obtain ⟨a, es, y, rfl, hs, ⟨hl, hx⟩, q⟩ := h
    refine ⟨_, PSs.nox (pss_cons (ps_set (i := 1) sc_law_fields.nd rfl (Or.inl rfl) (pe_lst (pa_cons (FcX.pe_xfv (pe_ix ix_list (pv 0) pe_int (fun _ _ => rfl))) (pa_cons (FcX.pe_xfv (pe_ix ix_list (pv 0) pe_int (fun _ _ => rfl))) (pa_cons (FcX.pe_xfv (pe_ix ix_list (pv 0) pe_int (fun _ _ => rfl))) (pa_cons (FcX.pe_xfv (pe_ix ix_list (pv 0) pe_int (fun _ _ => rfl))) (pa_cons (FcX.pe_xfv (pe_ix ix_list (pv 0) pe_int (fun _ _ => rfl))) (pa_cons (FcX.pe_xfv (pe_ix ix_list (pv 0) pe_int (fun _ _ => rfl))) pa_nil)))))))) (pss_one (ps_ret (pe_op op_cat (pv 1) (pe_lst (pa_cons (FcX.pe_xfv (pe_ix ix_list (pv 0) pe_int (fun _ _ => rfl))) (pa_cons (FcX.pe_xfv (pe_ix ix_list (pv 0) pe_int (fun _ _ => rfl))) (pa_cons (FcX.pe_xfv (pe_ix ix_list (pv 0) pe_int (fun _ _ => rfl))) (pa_cons (FcX.pe_xfv (pe_ix ix_list (pv 0) pe_int (fun _ _ => rfl))) pa_nil))))))))), ?_⟩
    obtain ⟨e0, e1, e2, e3, e4, e5, e6, e7, e8, e9, rfl⟩ : ∃ e0 e1 e2 e3 e4 e5 e6 e7 e8 e9, es = [e0, e1, e2, e3, e4, e5, e6, e7, e8, e9] := by
      match es, hl with
      | [_, _, _, _, _, _, _, _, _, _], _ => exact ⟨_, _, _, _, _, _, _, _, _, _, rfl⟩
    refine ⟨_, rfl, a, _, _, _, rfl, rfl, hs, rfl, e0, _, y, rfl, x_InvalidCode T, (xi_InvalidCode T).no, hx 0 _ rfl, _, rfl, a, _, _, _, rfl, rfl, hs, rfl, e1, _, y, rfl, x_InvalidNumber T, (xi_InvalidNumber T).no, hx 1 _ rfl, _, rfl, a, _, _, _, rfl, rfl, hs, rfl, e2, _, y, rfl, x_InvalidAnswers T, (xi_InvalidAnswers T).no, hx 2 _ rfl, _, rfl, a, _, _, _, rfl, rfl, hs, rfl, e3, _, y, rfl, x_InvalidWay T, (xi_InvalidWay T).no, hx 3 _ rfl, _, rfl, a, _, _, _, rfl, rfl, hs, rfl, e4, _, y, rfl, x_InvalidTable T, (xi_InvalidTable T).no, hx 4 _ rfl, _, rfl, a, _, _, _, rfl, rfl, hs, rfl, e5, _, y, rfl, x_InvalidFinals T, (xi_InvalidFinals T).no, hx 5 _ rfl, sz (by simp), ?_⟩
    intro p1 n1
    generalize e1 : upd _ p1 _ = H1
    obtain ⟨x1, s1, o1⟩ := new_of e1 n1
    clear e1
    have hs1 := Evl.ex_l x1 hs
    refine ⟨_, rfl, _, rfl, a, _, _, _, rfl, rfl, hs1, rfl, e6, _, y, rfl, x_InvalidBound T, (xi_InvalidBound T).no, (hx 6 _ rfl).ex x1, _, rfl, a, _, _, _, rfl, rfl, hs1, rfl, e7, _, y, rfl, x_InvalidText T, (xi_InvalidText T).no, (hx 7 _ rfl).ex x1, _, rfl, a, _, _, _, rfl, rfl, hs1, rfl, e8, _, y, rfl, x_NotWaiting T, (xi_NotWaiting T).no, (hx 8 _ rfl).ex x1, _, rfl, a, _, _, _, rfl, rfl, hs1, rfl, e9, _, y, rfl, x_LimitExceeded T, (xi_LimitExceeded T).no, (hx 9 _ rfl).ex x1, sz (by simp), ?_⟩
    intro p2 n2
    generalize e2 : upd _ p2 _ = H2
    obtain ⟨x2, s2, o2⟩ := new_of e2 n2
    clear e2
    refine ⟨p1, p2, _, _, rfl, rfl, x2 _ _ s1, s2, sz (by simp), ?_⟩
    intro p3 n3
    generalize e3 : upd _ p3 _ = H3
    obtain ⟨x3, s3, o3⟩ := new_of e3 n3
    clear e3
    exact q p3 H3 ((x1.trans x2).trans x3) (ex_none (x1.trans x2) n3) s3
end
end Fc

set_option maxRecDepth 100000
set_option maxHeartbeats 4000000
namespace Fc
open PySem PySem.Spec PyProof.Rows L2 FcR
open Evl (Ex)
def sp_is_integer (K : PySem.W.Frag) : Sp := fun vs H Q _ => ∃ (v : V) (t : Value) (b1 b2 : Bool), vs = [v] ∧ TyX K H v t ∧ PySem.W.kitOne K t (.type "int") = some b1 ∧ PySem.W.kitOne K t (.type "bool") = some b2 ∧ Q (.bl (b1 && !b2)) H
section
variable {P : Program} {w : World} {h : Heap} {K : PySem.W.Frag} {mg : Str → Option Value} {base : Heap}
abbrev N_is_integer : List Str := ["value"]
theorem sc_is_integer : FnScope N_is_integer ["value"] (defScope sd_is_integer) := ⟨rfl, rfl, rfl, by decide +kernel, rfl, by decide +kernel, by decide +kernel⟩
theorem okF_is_integer (T : Tx w h K mg) : ∃ fd, FnOk P w K mg base (CX P w) 1 (He.fAd K ("is_integer", none)) fd ["value"] (sp_is_integer K) ∧ Binds K fd ["value"] [] ∧ PySem.W.keepIn K (.ref (He.fAd K ("is_integer", none))) = true ∧ FunD K "is_integer" "is_integer" (defArgs sd_is_integer) (defBody sd_is_integer) (defScope sd_is_integer) [] [] (He.fAd K ("is_integer", none)) fd := by
  obtain ⟨fd, F⟩ := F_is_integer T
  refine ⟨fd, ?_, F.bindsN (fun _ _ _ _ _ _ us hl => match us, hl with | [_], _ => rfl), F.kp, F⟩
  refine F.ok sc_is_integer (fun vs H Q E h => ?_) (fun cdv A outer s H vs Q E hr h => ?_)
  · obtain ⟨v, t, b1, b2, rfl, ty, k1, k2, q⟩ := h
    rfl
  · obtain ⟨v, t, b1, b2, rfl, ty, k1, k2, q⟩ := h
    refine ⟨_, PSs.nox (pss_one (ps_ret (pe_and (pe_callB call_isi rfl (fr_isinstance T) b_isinstance (pa_cons (pv 0) (pa_cons (pe_bltn (v := .ty "int") rfl (fr_int T) b_int rfl) pa_nil))) (pe_one (pe_not (pe_callB call_isi rfl (fr_isinstance T) b_isinstance (pa_cons (pv 0) (pa_cons (pe_bltn (v := .ty "bool") rfl (fr_bool T) b_bool rfl) pa_nil)))))))), ?_⟩
    refine ⟨_, rfl, v, .ty "int", t, _, b1, rfl, .ty _, ty, k1, _, rfl, ite_of (fun h1 => ?_) (fun h1 => ?_)⟩
    · subst h1
      exact ⟨_, rfl, v, .ty "bool", t, _, b2, rfl, .ty _, ty, k2, _, rfl, q⟩
    · subst h1
      exact q
theorem ok_is_integer (T : Tx w h K mg) : Ok P w K mg base 1 ("is_integer", none) ["value"] (sp_is_integer K) := by
  obtain ⟨fd, a, b, c, _⟩ := okF_is_integer (P := P) (base := base) T
  exact ⟨fd, a, b, c⟩
end
end Fc

set_option maxRecDepth 100000
set_option maxHeartbeats 4000000
namespace Fc
open PySem PySem.Spec PyProof.Rows L2 FcR
open Evl (Ex)
theorem b_ValueError : bootBuiltins "ValueError" = some (.type "ValueError") := by decide +kernel
theorem b_TypeError : bootBuiltins "TypeError" = some (.type "TypeError") := by decide +kernel
theorem b_LookupError : bootBuiltins "LookupError" = some (.type "LookupError") := by decide +kernel
theorem b_ArithmeticError : bootBuiltins "ArithmeticError" = some (.type "ArithmeticError") := by decide +kernel
theorem xv_set {H H1 : Hp} {C a p : Addr} {f : Str} {y : V} {xs : List V} (h : FcX.XV H C f y a) (hp : H p = some (.lst xs)) (o : ∀ b, b ≠ p → H1 b = H b) : FcX.XV H1 C f y a := by
  obtain ⟨d, h1, h2⟩ := h
  refine ⟨d, ?_, ?_⟩
  · rw [o a (fun z => by rw [z, hp] at h1; cases (show HO.lst xs = HO.ext _ from Option.some.inj h1))]
    exact h1
  · rw [o d (fun z => by rw [z, hp] at h2; cases (show HO.lst xs = HO.ext _ from Option.some.inj h2))]
    exact h2
def sp_right (K : PySem.W.Frag) : Sp := fun vs H Q _ => ∃ (y : V) (d : PyData), vs = [y] ∧ Dp K H y d ∧ PyData.canLay0 d = true ∧ d.depth ≤ 10 ∧ ∀ H', Ex H H' → Q (.bl true) H'
theorem xten {K : PySem.W.Frag} {H : Hp} {y : V} {a0 a1 a2 a3 a4 a5 a6 a7 a8 a9 : Addr} (h0 : FcX.XV H (He.ga K "InvalidCode") "number" y a0) (h1 : FcX.XV H (He.ga K "InvalidNumber") "number" y a1) (h2 : FcX.XV H (He.ga K "InvalidAnswers") "at" y a2) (h3 : FcX.XV H (He.ga K "InvalidWay") "way" y a3) (h4 : FcX.XV H (He.ga K "InvalidTable") "at" y a4) (h5 : FcX.XV H (He.ga K "InvalidFinals") "at" y a5) (h6 : FcX.XV H (He.ga K "InvalidBound") "bound" y a6) (h7 : FcX.XV H (He.ga K "InvalidText") "at" y a7) (h8 : FcX.XV H (He.ga K "NotWaiting") "end" y a8) (h9 : FcX.XV H (He.ga K "LimitExceeded") "limit" y a9) : XTen K H y [a0, a1, a2, a3, a4, a5, a6, a7, a8, a9] := by
  refine ⟨rfl, fun i e he => ?_⟩
  match i, he with
  | 0, he => cases he; exact h0
  | 1, he => cases he; exact h1
  | 2, he => cases he; exact h2
  | 3, he => cases he; exact h3
  | 4, he => cases he; exact h4
  | 5, he => cases he; exact h5
  | 6, he => cases he; exact h6
  | 7, he => cases he; exact h7
  | 8, he => cases he; exact h8
  | 9, he => cases he; exact h9
theorem dpA_rep {K : PySem.W.Frag} {H : Hp} {y : V} {d : PyData} (h : Dp K H y d) : ∀ n, DpAll K H (List.replicate n y) (List.replicate n d)
  | 0 => .nil
  | n + 1 => .cons h (dpA_rep h n)
theorem lay_rep {d : PyData} (h : PyData.canLay0 d = true) : ∀ n, PyData.canLayAll0 (List.replicate n d) = true
  | 0 => rfl
  | n + 1 => by
    show (PyData.canLay0 d && PyData.canLayAll0 (List.replicate n d)) = true
    rw [h, lay_rep h n] <;> rfl
theorem dep_rep (d : PyData) : ∀ n, PyData.depthAll (List.replicate n d) ≤ d.depth
  | 0 => Nat.zero_le _
  | n + 1 => by
    show max d.depth (PyData.depthAll (List.replicate n d)) ≤ d.depth
    have := dep_rep d n
    omega
/-- at D: a list of n new lists, each of its own number -/
def LL (H : Hp) (D : Addr) (n : Nat) : Prop := ∃ ks : List Addr, ks.length = n ∧ H D = some (.lst (ks.map V.ref)) ∧ ∀ (j : Nat) (k : Addr), ks[j]? = some k → k ≠ D ∧ H k = some (.lst [.int (j : Nat)])
def dLL (n : Nat) : List PyData := (List.range n).map fun j => .list [.int (j : Nat)]
theorem LL.nil {H : Hp} {D : Addr} : LL (upd H D (.lst [])) D 0 := ⟨[], rfl, upd_same, fun j k h => by simp at h⟩
theorem LL.push {H H1 : Hp} {D p : Addr} {n : Nat} (h : LL H D n) (e : Ex H H1) (n1 : H p = none) (s : H1 p = some (.lst [.int (n : Nat)])) :
    ∃ acc, H1 D = some (.lst acc) ∧ acc.length = n ∧ LL (upd H1 D (.lst (acc ++ [.ref p]))) D (n + 1) := by
  obtain ⟨ks, h1, h2, h3⟩ := h
  have hp : p ≠ D := fun z => by rw [z, h2] at n1; cases n1
  refine ⟨_, e _ _ h2, by rw [List.length_map, h1], ks ++ [p], by rw [List.length_append, h1] <;> rfl, by rw [upd_same, List.map_append] <;> rfl, fun j k hk => ?_⟩
  by_cases hj : j < ks.length
  · rw [List.getElem?_append_left hj] at hk
    obtain ⟨z1, z2⟩ := h3 j k hk
    exact ⟨z1, by rw [upd_ne z1]; exact e _ _ z2⟩
  · have hj2 : j = ks.length := by
      have := (List.getElem?_eq_some_iff.mp hk).1
      rw [List.length_append, List.length_singleton] at this
      omega
    subst hj2
    rw [List.getElem?_append_right (Nat.le_refl _), Nat.sub_self] at hk
    cases hk
    exact ⟨hp, by rw [upd_ne hp, h1]; exact s⟩
theorem LL.dp {K : PySem.W.Frag} {H : Hp} {D : Addr} {n : Nat} (h : LL H D n) : Dp K H (.ref D) (.list (dLL n)) := by
  obtain ⟨ks, h1, h2, h3⟩ := h
  refine .lst (Evl.sq_of h2) ?_
  have key : ∀ (ls : List Addr) (m : Nat), (∀ (j : Nat) (k : Addr), ls[j]? = some k → H k = some (.lst [.int ((m + j : Nat) : Int)])) → DpAll K H (ls.map V.ref) ((List.range' m ls.length).map fun j => PyData.list [.int (j : Nat)]) := by
    intro ls
    induction ls with
    | nil => exact fun m _ => .nil
    | cons k ls ih =>
      intro m hk
      exact .cons (.lst (Evl.sq_of (hk 0 k rfl)) (.cons (.int _) .nil)) (ih (m + 1) fun j k' hk' => by
        have := hk (j + 1) k' (by simpa using hk')
        rw [show m + 1 + j = m + (j + 1) by omega]
        exact this)
  have z := key ks 0 (fun j k hk => by rw [Nat.zero_add]; exact (h3 j k hk).2)
  rw [h1, ← List.range_eq_range'] at z
  exact z
theorem LL.ex {H H' : Hp} {D : Addr} {n : Nat} (h : LL H D n) (e : Ex H H') : LL H' D n := by
  obtain ⟨ks, h1, h2, h3⟩ := h
  exact ⟨ks, h1, e _ _ h2, fun j k hk => ⟨(h3 j k hk).1, e _ _ (h3 j k hk).2⟩⟩
theorem lay_LL : PyData.canLay0 (.list (dLL 10)) = true := by decide +kernel
theorem dep_LL : (PyData.list (dLL 10)).depth ≤ 10 := by decide +kernel
theorem xT_x {w : World} {h : Heap} {K : PySem.W.Frag} {mg : Str → Option Value} (T : Tx w h K mg) (i : Nat) (hi : i < 10) : FcX.XC K (He.ga K (xT.getD i "")) := by
  match i, hi with
  | 0, _ => exact x_InvalidCode T
  | 1, _ => exact x_InvalidNumber T
  | 2, _ => exact x_InvalidAnswers T
  | 3, _ => exact x_InvalidWay T
  | 4, _ => exact x_InvalidTable T
  | 5, _ => exact x_InvalidFinals T
  | 6, _ => exact x_InvalidBound T
  | 7, _ => exact x_InvalidText T
  | 8, _ => exact x_NotWaiting T
  | 9, _ => exact x_LimitExceeded T
section
variable {P : Program} {w : World} {h : Heap} {K : PySem.W.Frag} {mg : Str → Option Value} {base : Heap}
abbrev N_law_right : List Str := ["_law_field", "_law_errors", "_law_named", "_law_some", "_law_e", "_law_k_so"]
theorem sc_law_right : FnScope N_law_right ["_law_field"] (defScope sd_law_right) := ⟨rfl, rfl, rfl, by decide +kernel, rfl, by decide +kernel, by decide +kernel⟩
theorem ok_law_right (T : Tx w h K mg) : Ok P w K mg base 3 ("_law_right", none) ["_law_field"] (sp_right K) := by
  obtain ⟨fd, F⟩ := F_law_right T
  refine ⟨fd, ?_, F.bindsN (fun _ _ _ _ _ _ us hl => match us, hl with | [_], _ => rfl), F.kp⟩
  obtain ⟨fd_law_fields, G_law_fields, bi_law_fields, kp_law_fields⟩ := ok_law_fields (P := P) (base := base) T
  obtain ⟨fd_law_kinds, G_law_kinds, bi_law_kinds, kp_law_kinds⟩ := ok_law_kinds (P := P) (base := base) T
  obtain ⟨fd_InvalidAnswers___init__, G_InvalidAnswers___init__, bi_InvalidAnswers___init__, kp_InvalidAnswers___init__, FD_InvalidAnswers___init__⟩ := okF_InvalidAnswers___init__ (P := P) (base := base) T
  obtain ⟨fd_InvalidBound___init__, G_InvalidBound___init__, bi_InvalidBound___init__, kp_InvalidBound___init__, FD_InvalidBound___init__⟩ := okF_InvalidBound___init__ (P := P) (base := base) T
  obtain ⟨fd_InvalidCode___init__, G_InvalidCode___init__, bi_InvalidCode___init__, kp_InvalidCode___init__, FD_InvalidCode___init__⟩ := okF_InvalidCode___init__ (P := P) (base := base) T
  obtain ⟨fd_InvalidFinals___init__, G_InvalidFinals___init__, bi_InvalidFinals___init__, kp_InvalidFinals___init__, FD_InvalidFinals___init__⟩ := okF_InvalidFinals___init__ (P := P) (base := base) T
  obtain ⟨fd_InvalidNumber___init__, G_InvalidNumber___init__, bi_InvalidNumber___init__, kp_InvalidNumber___init__, FD_InvalidNumber___init__⟩ := okF_InvalidNumber___init__ (P := P) (base := base) T
  obtain ⟨fd_InvalidTable___init__, G_InvalidTable___init__, bi_InvalidTable___init__, kp_InvalidTable___init__, FD_InvalidTable___init__⟩ := okF_InvalidTable___init__ (P := P) (base := base) T
  obtain ⟨fd_InvalidText___init__, G_InvalidText___init__, bi_InvalidText___init__, kp_InvalidText___init__, FD_InvalidText___init__⟩ := okF_InvalidText___init__ (P := P) (base := base) T
  obtain ⟨fd_InvalidWay___init__, G_InvalidWay___init__, bi_InvalidWay___init__, kp_InvalidWay___init__, FD_InvalidWay___init__⟩ := okF_InvalidWay___init__ (P := P) (base := base) T
  obtain ⟨fd_LimitExceeded___init__, G_LimitExceeded___init__, bi_LimitExceeded___init__, kp_LimitExceeded___init__, FD_LimitExceeded___init__⟩ := okF_LimitExceeded___init__ (P := P) (base := base) T
  obtain ⟨fd_NotWaiting___init__, G_NotWaiting___init__, bi_NotWaiting___init__, kp_NotWaiting___init__, FD_NotWaiting___init__⟩ := okF_NotWaiting___init__ (P := P) (base := base) T
  refine F.ok sc_law_right (fun vs H Q E h => ?_) (fun cdv A outer s H vs Q E hr h => ?_)
  · obtain ⟨y, d, rfl, hd, hc, hz, q⟩ := h
    rfl
  · obtain ⟨y, d, rfl, hd, hc, hz, q⟩ := h
    refine ⟨_, PSs.nox (pss_cons (ps_set (i := 1) sc_law_right.nd rfl (Or.inl rfl) (pe_lst (pa_cons (FcX.pe_mkX (x_InvalidCode T) (xi_InvalidCode T) G_InvalidCode___init__ (hr.mono (by decide)) bi_InvalidCode___init__ passF rfl (g_InvalidCode T) (pv 0)) (pa_cons (FcX.pe_mkX (x_InvalidNumber T) (xi_InvalidNumber T) G_InvalidNumber___init__ (hr.mono (by decide)) bi_InvalidNumber___init__ passF rfl (g_InvalidNumber T) (pv 0)) (pa_cons (FcX.pe_mkX (x_InvalidAnswers T) (xi_InvalidAnswers T) G_InvalidAnswers___init__ (hr.mono (by decide)) bi_InvalidAnswers___init__ passF rfl (g_InvalidAnswers T) (pv 0)) (pa_cons (FcX.pe_mkX (x_InvalidWay T) (xi_InvalidWay T) G_InvalidWay___init__ (hr.mono (by decide)) bi_InvalidWay___init__ passF rfl (g_InvalidWay T) (pv 0)) (pa_cons (FcX.pe_mkX (x_InvalidTable T) (xi_InvalidTable T) G_InvalidTable___init__ (hr.mono (by decide)) bi_InvalidTable___init__ passF rfl (g_InvalidTable T) (pv 0)) pa_nil))))))) (pss_cons (ps_set (i := 1) sc_law_right.nd rfl (Or.inl rfl) (pe_op op_cat (pv 1) (pe_lst (pa_cons (FcX.pe_mkX (x_InvalidFinals T) (xi_InvalidFinals T) G_InvalidFinals___init__ (hr.mono (by decide)) bi_InvalidFinals___init__ passF rfl (g_InvalidFinals T) (pv 0)) (pa_cons (FcX.pe_mkX (x_InvalidBound T) (xi_InvalidBound T) G_InvalidBound___init__ (hr.mono (by decide)) bi_InvalidBound___init__ passF rfl (g_InvalidBound T) (pv 0)) (pa_cons (FcX.pe_mkX (x_InvalidText T) (xi_InvalidText T) G_InvalidText___init__ (hr.mono (by decide)) bi_InvalidText___init__ passF rfl (g_InvalidText T) (pv 0)) (pa_cons (FcX.pe_mkX (x_NotWaiting T) (xi_NotWaiting T) G_NotWaiting___init__ (hr.mono (by decide)) bi_NotWaiting___init__ passF rfl (g_NotWaiting T) (pv 0)) pa_nil))))))) (pss_cons (ps_expr (pe_bm PySem.F.plainAttrs_list PySem.F.slot_list_append PySem.F.type_list_append mt_append (pv 1) (pa_cons (FcX.pe_mkX (x_LimitExceeded T) (xi_LimitExceeded T) G_LimitExceeded___init__ (hr.mono (by decide)) bi_LimitExceeded___init__ passF rfl (g_LimitExceeded T) (pv 0)) pa_nil))) (pss_cons (ps_set (i := 2) sc_law_right.nd rfl (Or.inl rfl) (pe_lst (pa_cons (FcX.pe_mkXK (x_InvalidCode T) (xi_InvalidCode T) G_InvalidCode___init__ (hr.mono (by decide)) (fun s o v hk => FcX.bindsX FD_InvalidCode___init__ (fun _ _ _ _ _ _ => rfl) s) passF rfl (g_InvalidCode T) (pv 0)) (pa_cons (FcX.pe_mkXK (x_InvalidNumber T) (xi_InvalidNumber T) G_InvalidNumber___init__ (hr.mono (by decide)) (fun s o v hk => FcX.bindsX FD_InvalidNumber___init__ (fun _ _ _ _ _ _ => rfl) s) passF rfl (g_InvalidNumber T) (pv 0)) (pa_cons (FcX.pe_mkXK (x_InvalidAnswers T) (xi_InvalidAnswers T) G_InvalidAnswers___init__ (hr.mono (by decide)) (fun s o v hk => FcX.bindsX FD_InvalidAnswers___init__ (fun _ _ _ _ _ _ => rfl) s) passF rfl (g_InvalidAnswers T) (pv 0)) (pa_cons (FcX.pe_mkXK (x_InvalidWay T) (xi_InvalidWay T) G_InvalidWay___init__ (hr.mono (by decide)) (fun s o v hk => FcX.bindsX FD_InvalidWay___init__ (fun _ _ _ _ _ _ => rfl) s) passF rfl (g_InvalidWay T) (pv 0)) pa_nil)))))) (pss_cons (ps_set (i := 2) sc_law_right.nd rfl (Or.inl rfl) (pe_op op_cat (pv 2) (pe_lst (pa_cons (FcX.pe_mkXK (x_InvalidTable T) (xi_InvalidTable T) G_InvalidTable___init__ (hr.mono (by decide)) (fun s o v hk => FcX.bindsX FD_InvalidTable___init__ (fun _ _ _ _ _ _ => rfl) s) passF rfl (g_InvalidTable T) (pv 0)) (pa_cons (FcX.pe_mkXK (x_InvalidFinals T) (xi_InvalidFinals T) G_InvalidFinals___init__ (hr.mono (by decide)) (fun s o v hk => FcX.bindsX FD_InvalidFinals___init__ (fun _ _ _ _ _ _ => rfl) s) passF rfl (g_InvalidFinals T) (pv 0)) (pa_cons (FcX.pe_mkXK (x_InvalidBound T) (xi_InvalidBound T) G_InvalidBound___init__ (hr.mono (by decide)) (fun s o v hk => FcX.bindsX FD_InvalidBound___init__ (fun _ _ _ _ _ _ => rfl) s) passF rfl (g_InvalidBound T) (pv 0)) (pa_cons (FcX.pe_mkXK (x_InvalidText T) (xi_InvalidText T) G_InvalidText___init__ (hr.mono (by decide)) (fun s o v hk => FcX.bindsX FD_InvalidText___init__ (fun _ _ _ _ _ _ => rfl) s) passF rfl (g_InvalidText T) (pv 0)) pa_nil))))))) (pss_cons (ps_set (i := 2) sc_law_right.nd rfl (Or.inl rfl) (pe_op op_cat (pv 2) (pe_lst (pa_cons (FcX.pe_mkXK (x_NotWaiting T) (xi_NotWaiting T) G_NotWaiting___init__ (hr.mono (by decide)) (fun s o v hk => FcX.bindsX FD_NotWaiting___init__ (fun _ _ _ _ _ _ => rfl) s) passF rfl (g_NotWaiting T) (pv 0)) (pa_cons (FcX.pe_mkXK (x_LimitExceeded T) (xi_LimitExceeded T) G_LimitExceeded___init__ (hr.mono (by decide)) (fun s o v hk => FcX.bindsX FD_LimitExceeded___init__ (fun _ _ _ _ _ _ => rfl) s) passF rfl (g_LimitExceeded T) (pv 0)) pa_nil))))) (pss_cons (ps_for PassesOwn.never rfl (pi_tup (pe_tup (pa_cons (pv 1) (pa_cons (pv 2) pa_nil)))) (pg_name (i := 3) sc_law_right.nd rfl (Or.inl rfl)) (pss_cons (ps_if (PW.pt (pw_or (pt_cmpR (op_neM hr) (pe_call G_law_fields (hr.mono (by decide)) rfl (g_law_fields T) kp_law_fields bi_law_fields .nil passF (pa_cons (pv 3) pa_nil)) (pe_op op_rep (pe_lst (pa_cons (pv 0) pa_nil)) pe_int) (nomark _)) (pw_or1 (pt_cmpR (op_neM hr) (pe_lc (own := [("_law_e", 4)]) rfl sc_law_right.nd (pi_list (pv 3)) (blkOk_by (N := N_law_right) (sc := defScope sd_law_right) (by decide +kernel)) (fun _ _ _ _ _ => (pg_name (i := 4) sc_law_right.nd rfl (Or.inl rfl))) (fun _ _ _ _ _ => pts_nil) (fun _ _ _ _ _ => (pe_call G_law_kinds (hr.mono (by decide)) rfl (g_law_kinds T) kp_law_kinds bi_law_kinds .nil passF (pa_cons (pv 4) pa_nil)))) (pe_lc (own := [("_law_k_so", 5)]) rfl sc_law_right.nd (pi_range1 rfl (fr_range T) (pa_cons pe_int pa_nil)) (blkOk_by (N := N_law_right) (sc := defScope sd_law_right) (by decide +kernel)) (fun _ _ _ _ _ => (pg_name (i := 5) sc_law_right.nd rfl (Or.inl rfl))) (fun _ _ _ _ _ => pts_nil) (fun _ _ _ _ _ => (pe_lst (pa_cons (pv 5) pa_nil)))) (nomark _))))) (pss_one (ps_ret pe_bl)) pss_nil) (pss_cons (ps_if (pt_not (pt_val (pe_callB (cr_all rfl) rfl (fr_all T) b_all (pa_cons (pe_lc (own := [("_law_e", 4)]) rfl sc_law_right.nd (pi_list (pv 3)) (blkOk_by (N := N_law_right) (sc := defScope sd_law_right) (by decide +kernel)) (fun _ _ _ _ _ => (pg_name (i := 4) sc_law_right.nd rfl (Or.inl rfl))) (fun _ _ _ _ _ => pts_nil) (fun _ _ _ _ _ => (pe_and (pe_callB (show CallR _ _ (FcX.rIsX K) from FcX.call_isX) rfl (fr_isinstance T) b_isinstance (pa_cons (pv 4) (pa_cons (pe_glob (v := .ref (He.ga K "CopyError")) rfl (g_CopyError T) rfl) pa_nil))) (pe_one (pe_callB (show CallR _ _ (FcX.rIsX K) from FcX.call_isX) rfl (fr_isinstance T) b_isinstance (pa_cons (pv 4) (pa_cons (pe_bltn (v := .ty "ArithmeticError") rfl (fr_ArithmeticError T) b_ArithmeticError rfl) pa_nil))))))) pa_nil)))) (pss_one (ps_ret pe_bl)) pss_nil) (pss_one (ps_if (pt_cmpR (op_neM hr) (pe_lc (own := [("_law_e", 4)]) rfl sc_law_right.nd (pi_list (pv 3)) (blkOk_by (N := N_law_right) (sc := defScope sd_law_right) (by decide +kernel)) (fun _ _ _ _ _ => (pg_name (i := 4) sc_law_right.nd rfl (Or.inl rfl))) (fun _ _ _ _ _ => (pts_one (pt_val (pe_callB (show CallR _ _ (FcX.rIsXT K) from FcX.call_isXT) rfl (fr_isinstance T) b_isinstance (pa_cons (pv 4) (pa_cons (pe_tup (pa_cons (pe_bltn (v := .ty "ValueError") rfl (fr_ValueError T) b_ValueError rfl) (pa_cons (pe_bltn (v := .ty "TypeError") rfl (fr_TypeError T) b_TypeError rfl) (pa_cons (pe_bltn (v := .ty "LookupError") rfl (fr_LookupError T) b_LookupError rfl) pa_nil)))) pa_nil)))))) (fun _ _ _ _ _ => pe_int)) (pe_lst pa_nil) (nomark _)) (pss_one (ps_ret pe_bl)) pss_nil))))) (pss_one (ps_ret pe_bl))))))))), ?_⟩
    refine ⟨_, rfl, y, rfl, fun a0 G0 z0 m0 v0 => ?_⟩
    refine ⟨_, rfl, y, rfl, fun a1 G1 z1 m1 v1 => ?_⟩
    refine ⟨_, rfl, y, rfl, fun a2 G2 z2 m2 v2 => ?_⟩
    refine ⟨_, rfl, y, rfl, fun a3 G3 z3 m3 v3 => ?_⟩
    refine ⟨_, rfl, y, rfl, fun a4 G4 z4 m4 v4 => ?_⟩
    refine ⟨sz (by simp), ?_⟩
    intro p1 n1
    generalize e1 : upd _ p1 _ = H1
    obtain ⟨x1, s1, o1⟩ := new_of e1 n1
    clear e1
    refine ⟨_, rfl, ?_⟩
    refine ⟨_, rfl, y, rfl, fun a5 G5 z5 m5 v5 => ?_⟩
    refine ⟨_, rfl, y, rfl, fun a6 G6 z6 m6 v6 => ?_⟩
    refine ⟨_, rfl, y, rfl, fun a7 G7 z7 m7 v7 => ?_⟩
    refine ⟨_, rfl, y, rfl, fun a8 G8 z8 m8 v8 => ?_⟩
    refine ⟨sz (by simp), ?_⟩
    intro p2 n2
    generalize e2 : upd _ p2 _ = H2
    obtain ⟨x2, s2, o2⟩ := new_of e2 n2
    clear e2
    refine ⟨p1, p2, _, _, rfl, rfl, x2 _ _ (z8 _ _ (z7 _ _ (z6 _ _ (z5 _ _ s1)))), s2, sz (by simp), ?_⟩
    intro p3 n3
    generalize e3 : upd _ p3 _ = H3
    obtain ⟨x3, s3, o3⟩ := new_of e3 n3
    clear e3
    refine ⟨_, rfl, Or.inl ⟨rfl, _, Evl.sq_of s3⟩, ?_⟩
    refine ⟨_, rfl, y, rfl, fun a9 G9 z9 m9 v9 => ?_⟩
    refine ⟨p3, _, _, rfl, rfl, z9 _ _ s3, szl (by simp), ?_⟩
    generalize e4 : upd _ p3 _ = H4
    obtain ⟨s4, o4⟩ := set_of e4
    clear e4
    have y4 : Ex H2 H4 := set_ex (x3.trans z9) n3 o4
    have w9 := xv_set v9 (z9 _ _ s3) o4
    have y8 : Ex G8 H4 := x2.trans y4
    have y7 : Ex G7 H4 := z8.trans y8
    have y6 : Ex G6 H4 := z7.trans y7
    have y5 : Ex G5 H4 := z6.trans y6
    have yp : Ex H1 H4 := z5.trans y5
    have yq : Ex G4 H4 := x1.trans yp
    have w4 := v4.ex yq
    have y3 : Ex G3 H4 := z4.trans yq
    have y2 : Ex G2 H4 := z3.trans y3
    have y1 : Ex G1 H4 := z2.trans y2
    have y0 : Ex G0 H4 := z1.trans y1
    have w0 := v0.ex y0
    have w1 := v1.ex y1
    have w2 := v2.ex y2
    have w3 := v3.ex y3
    have w5 := v5.ex y5
    have w6 := v6.ex y6
    have w7 := v7.ex y7
    have w8 := v8.ex y8
    have yH : Ex H H4 := z0.trans y0
    have t4 := xten w0 w1 w2 w3 w4 w5 w6 w7 w8 w9
    clear w0 w1 w2 w3 w4 w5 w6 w7 w8 w9 v0 v1 v2 v3 v4 v5 v6 v7 v8 v9 y0 y1 y2 y3 y5 y6 y7 y8 yp yq z0 z1 z2 z3 z4 z5 z6 z7 z8 z9
    refine ⟨_, rfl, y, rfl, fun b0 G0 z0 m0 v0 => ?_⟩
    refine ⟨_, rfl, y, rfl, fun b1 G1 z1 m1 v1 => ?_⟩
    refine ⟨_, rfl, y, rfl, fun b2 G2 z2 m2 v2 => ?_⟩
    refine ⟨_, rfl, y, rfl, fun b3 G3 z3 m3 v3 => ?_⟩
    refine ⟨sz (by simp), ?_⟩
    intro p5 n5
    generalize e5 : upd _ p5 _ = H5
    obtain ⟨x5, s5, o5⟩ := new_of e5 n5
    clear e5
    refine ⟨_, rfl, ?_⟩
    refine ⟨_, rfl, y, rfl, fun b4 G4 z4 m4 v4 => ?_⟩
    refine ⟨_, rfl, y, rfl, fun b5 G5 z5 m5 v5 => ?_⟩
    refine ⟨_, rfl, y, rfl, fun b6 G6 z6 m6 v6 => ?_⟩
    refine ⟨_, rfl, y, rfl, fun b7 G7 z7 m7 v7 => ?_⟩
    refine ⟨sz (by simp), ?_⟩
    intro p6 n6
    generalize e6 : upd _ p6 _ = H6
    obtain ⟨x6, s6, o6⟩ := new_of e6 n6
    clear e6
    refine ⟨p5, p6, _, _, rfl, rfl, x6 _ _ (z7 _ _ (z6 _ _ (z5 _ _ (z4 _ _ s5)))), s6, sz (by simp), ?_⟩
    intro p7 n7
    generalize e7 : upd _ p7 _ = H7
    obtain ⟨x7, s7, o7⟩ := new_of e7 n7
    clear e7
    refine ⟨_, rfl, ?_⟩
    refine ⟨_, rfl, y, rfl, fun b8 G8 z8 m8 v8 => ?_⟩
    refine ⟨_, rfl, y, rfl, fun b9 G9 z9 m9 v9 => ?_⟩
    refine ⟨sz (by simp), ?_⟩
    intro p8 n8
    generalize e8 : upd _ p8 _ = H8
    obtain ⟨x8, s8, o8⟩ := new_of e8 n8
    clear e8
    refine ⟨p7, p8, _, _, rfl, rfl, x8 _ _ (z9 _ _ (z8 _ _ s7)), s8, sz (by simp), ?_⟩
    intro p9 n9
    generalize e9 : upd _ p9 _ = H9
    obtain ⟨x9, s9, o9⟩ := new_of e9 n9
    clear e9
    refine ⟨_, rfl, _, rfl, sz (by simp), ?_⟩
    intro p10 n10
    generalize e10 : upd _ p10 _ = H10
    obtain ⟨x10, s10, o10⟩ := new_of e10 n10
    clear e10
    have y9 : Ex G9 H10 := (x8.trans x9).trans x10
    have y8 : Ex G8 H10 := z9.trans y9
    have y7 : Ex G7 H10 := (x6.trans x7).trans (z8.trans y8)
    have y6 : Ex G6 H10 := z7.trans y7
    have y5 : Ex G5 H10 := z6.trans y6
    have y4 : Ex G4 H10 := z5.trans y5
    have y3 : Ex G3 H10 := x5.trans (z4.trans y4)
    have y2 : Ex G2 H10 := z3.trans y3
    have y1 : Ex G1 H10 := z2.trans y2
    have y0 : Ex G0 H10 := z1.trans y1
    have yb : Ex H4 H10 := z0.trans y0
    have t9 := xten (v0.ex y0) (v1.ex y1) (v2.ex y2) (v3.ex y3) (v4.ex y4) (v5.ex y5) (v6.ex y6) (v7.ex y7) (v8.ex y8) (v9.ex y9)
    replace t4 : XTen K H10 y _ := ⟨t4.1, fun i e he => (t4.2 i e he).ex yb⟩
    have l4 := yb _ _ s4
    have l9 := x10 _ _ s9
    replace hd := dp_ex (yH.trans yb) hd
    have yh := yH.trans yb
    clear y0 z0 v0 y1 z1 v1 y2 z2 v2 y3 z3 v3 y4 z4 v4 y5 z5 v5 y6 z6 v6 y7 z7 v7 y8 z8 v8 y9 z9 v9
    refine ⟨p10, rfl, ⟨_, Evl.st_of s10⟩, ?_⟩
    refine for_it (walk_tup (xs := [.ref p3, .ref p9])) (fun i σ' H' => Ex H10 H' ∧ ∃ u3 u4 u5, σ' = [some y, some (.ref p3), some (.ref p9), u3, u4, u5]) ?_ ?_ ?_ ?_
    · exact ⟨Evl.Ex.refl _, _, _, _, rfl⟩
    · exact fun i σ' H' _ ⟨e, _⟩ => Evl.st_of (e _ _ s10)
    · rintro i v σ' Ha Hb hi ⟨e, u3, u4, u5, rfl⟩ ⟨rfl, hv⟩
      obtain ⟨l, es, rfl, hl, tn⟩ : ∃ (l : Addr) (es : List Addr), v = .ref l ∧ H10 l = some (.lst (es.map V.ref)) ∧ XTen K H10 y es := by
        match i, hv with
        | 0, hv => cases hv; exact ⟨p3, [a0, a1, a2, a3, a4, a5, a6, a7, a8, a9], rfl, l4, t4⟩
        | 1, hv => cases hv; exact ⟨p9, [b0, b1, b2, b3, b4, b5, b6, b7, b8, b9], rfl, l9, t9⟩
      have hl1 := e _ _ hl
      have tn1 : XTen K Hb y es := ⟨tn.1, fun i x hx => (tn.2 i x hx).ex e⟩
      have hd1 := dp_ex e hd
      refine ⟨_, rfl, l, es, y, rfl, Evl.sq_of hl1, tn1, fun q1 J1 e1 m1 r1 => ?_⟩
      refine ⟨_, rfl, sz (by simp), ?_⟩
      intro p11 n11
      generalize e11 : upd _ p11 _ = H11
      obtain ⟨x11, s11, o11⟩ := new_of e11 n11
      clear e11
      refine ⟨p11, 10, [y], rfl, rfl, s11, by decide, by decide, sz (by simp), ?_⟩
      intro p12 n12
      generalize e12 : upd _ p12 _ = H12
      obtain ⟨x12, s12, o12⟩ := new_of e12 n12
      clear e12
      have k12 : H12 p12 = some (.lst (List.replicate 10 y)) := s12
      have cl : PyData.canLay0 (.list (List.replicate 10 d)) = true := lay_rep hc 10
      have dl : (PyData.list (List.replicate 10 d)).depth ≤ 11 := Nat.succ_le_succ (Nat.le_trans (dep_rep d 10) hz)
      have e12 := (e1.trans x11).trans x12
      have hd12 := dp_ex e12 hd1
      refine ⟨.list (List.replicate 10 d), .list (List.replicate 10 d), .lst (Evl.sq_of (x12 _ _ (x11 _ _ r1))) (dpA_rep hd12 10), .lst (Evl.sq_of k12) (dpA_rep hd12 10), cl, cl, by omega, _, rfl, itF (by rw [PySem.SeqAt.eqv_refl _ cl] <;> rfl) ?_⟩
      have hl12 := e12 _ _ hl1
      have tn12 : XTen K H12 y es := ⟨tn1.1, fun i x hx => (tn1.2 i x hx).ex e12⟩
      refine ⟨_, rfl, l, rfl, ⟨_, Evl.sq_of hl12⟩, fun D nD => ?_⟩
      refine lc_it (walk_list (xs := es.map V.ref)) (fun i H' => Ex H12 H' ∧ LL H' D i) ?_ ?_ ?_ ?_
      · exact ⟨exu (Evl.Ex.refl _) nD, LL.nil⟩
      · exact fun i H' _ ⟨e, _⟩ => Evl.sq_of (e _ _ hl12)
      · rintro i v Ja Jb hi ⟨ea, la⟩ ⟨rfl, hv⟩
        have hi' : i < 10 := by
          rw [List.length_map, tn.1] at hi
          exact hi
        obtain ⟨x, hx, rfl⟩ : ∃ x, es[i]? = some x ∧ v = .ref x := by
          rw [List.getElem?_map] at hv
          cases ex : es[i]? with
          | none => rw [ex] at hv; cases hv
          | some x => rw [ex] at hv; exact ⟨x, rfl, (Option.some.inj hv).symm⟩
        have xv := (tn12.2 i x hx).ex ea
        refine ⟨rfl, _, rfl, x, xT.getD i "", rfl, xT_in i hi', xT_x T i hi', xv_o xv, fun pk Hk ek nk sk => ?_⟩
        rw [kOf_at i hi'] at sk
        obtain ⟨acc, h1, h2, h3⟩ := la.push ek nk sk
        exact ⟨acc, h1, szl (by omega), exm (ea.trans ek) nD, h3⟩
      rintro Hc ⟨ec, lc⟩
      rw [List.length_map, tn.1] at lc
      refine ⟨10, rfl, by decide, by decide, fun D2 nD2 => ?_⟩
      refine lc_it (walk_range (lo := 0) (n := 10)) (fun i H' => Ex Hc H' ∧ LL H' D2 i) ?_ ?_ ?_ ?_
      · exact ⟨exu (Evl.Ex.refl _) nD2, LL.nil⟩
      · exact fun _ _ _ _ => True.intro
      · rintro i v Ja Jb hi ⟨ea, la⟩ ⟨rfl, rfl⟩
        refine ⟨rfl, _, rfl, sz (by simp), ?_⟩
        intro p13 n13
        generalize e13 : upd _ p13 _ = H13
        obtain ⟨x13, s13, o13⟩ := new_of e13 n13
        clear e13
        replace s13 : H13 p13 = some (.lst [.int (0 + (i : Int))]) := s13
        rw [Int.zero_add] at s13
        obtain ⟨acc, h1, h2, h3⟩ := la.push x13 n13 s13
        exact ⟨acc, h1, szl (by omega), exm (ea.trans x13) nD2, h3⟩
      rintro Hd ⟨ed, ld⟩
      refine ⟨_, _, (lc.ex ed).dp, ld.dp, lay_LL, lay_LL, (by have := dep_LL; omega), _, rfl, itF (by rw [PySem.SeqAt.eqv_refl _ lay_LL] <;> rfl) ?_⟩
      have e14 := (e12.trans ec).trans ed
      have hl14 := e14 _ _ hl1
      have tn14 : XTen K Hd y es := ⟨tn1.1, fun i x hx => (tn1.2 i x hx).ex e14⟩
      refine ⟨_, rfl, l, rfl, ⟨_, Evl.sq_of hl14⟩, fun D3 nD3 => ?_⟩
      refine lc_it (walk_list (xs := es.map V.ref)) (fun i H' => Ex Hd H' ∧ H' D3 = some (.lst ((List.replicate i true).map V.bl))) ?_ ?_ ?_ ?_
      · exact ⟨exu (Evl.Ex.refl _) nD3, upd_same⟩
      · exact fun i H' _ ⟨e, _⟩ => Evl.sq_of (e _ _ hl14)
      · rintro i v Ja Jb hi ⟨ea, la⟩ ⟨rfl, hv⟩
        have hi' : i < 10 := by
          rw [List.length_map, tn.1] at hi
          exact hi
        obtain ⟨x, hx, rfl⟩ : ∃ x, es[i]? = some x ∧ v = .ref x := by
          rw [List.getElem?_map] at hv
          cases ex : es[i]? with
          | none => rw [ex] at hv; cases hv
          | some x => rw [ex] at hv; exact ⟨x, rfl, (Option.some.inj hv).symm⟩
        have xv := xv_o ((tn14.2 i x hx).ex ea)
        refine ⟨rfl, _, rfl, x, _, _, _, _, rfl, .own _, xT_x T i hi', xv, (FcX.xk_own (xk T) (xT_in i hi') (d := "CopyError") (by decide)), _, rfl, itT (by rw [Bool.or_eq_true]; exact .inr rfl) ?_⟩
        refine ⟨_, rfl, x, _, _, _, _, rfl, .ty _, xT_x T i hi', xv, FcX.xk_ae (xk T) (xT_in i hi'), _, la, szl (by simp; omega), exm ea nD3, ?_⟩
        rw [upd_same, List.replicate_succ', List.map_append] <;> rfl
      rintro He ⟨ee, le⟩
      refine ⟨D3, _, rfl, Evl.sq_of le, _, rfl, itF (by rw [List.length_map, tn.1] <;> rfl) ?_⟩
      have hl15 := ee _ _ hl14
      refine ⟨_, rfl, l, rfl, ⟨_, Evl.sq_of hl15⟩, fun D4 nD4 => ?_⟩
      refine lc_it (walk_list (xs := es.map V.ref)) (fun i H' => Ex He H' ∧ H' D4 = some (.lst [])) ?_ ?_ ?_ ?_
      · exact ⟨exu (Evl.Ex.refl _) nD4, upd_same⟩
      · exact fun i H' _ ⟨e, _⟩ => Evl.sq_of (e _ _ hl15)
      · rintro i v Ja Jb hi ⟨ea, la⟩ ⟨rfl, hv⟩
        have hi' : i < 10 := by
          rw [List.length_map, tn.1] at hi
          exact hi
        obtain ⟨x, hx, rfl⟩ : ∃ x, es[i]? = some x ∧ v = .ref x := by
          rw [List.getElem?_map] at hv
          cases ex : es[i]? with
          | none => rw [ex] at hv; cases hv
          | some x => rw [ex] at hv; exact ⟨x, rfl, (Option.some.inj hv).symm⟩
        have xv := xv_o (((tn14.2 i x hx).ex ee).ex ea)
        refine ⟨rfl, _, rfl, sz (by simp), ?_⟩
        intro p16 n16
        generalize e16 : upd _ p16 _ = H16
        obtain ⟨x16, s16, o16⟩ := new_of e16 n16
        clear e16
        exact ⟨x, _, p16, _, _, _, rfl, s16, .cons (.ty _) (.cons (.ty _) (.cons (.ty _) .nil)), xT_x T i hi', xo_ex xv x16, FcX.xk_no (xk T) (xT_in i hi'), _, rfl, ea.trans x16, x16 _ _ la⟩
      rintro Hf ⟨ef, lf⟩
      refine ⟨sz (by simp), ?_⟩
      intro p17 n17
      generalize e17 : upd _ p17 _ = H17
      obtain ⟨x17, s17, o17⟩ := new_of e17 n17
      clear e17
      refine ⟨.list [], .list [], .lst (Evl.sq_of (x17 _ _ lf)) .nil, .lst (Evl.sq_of s17) .nil, rfl, rfl, (by decide), _, rfl, itF rfl ?_⟩
      exact ⟨((((e.trans e14).trans ee).trans ef).trans x17), _, _, _, rfl⟩
    · rintro σ' H' ⟨e, _⟩
      exact q H' (yh.trans e)
end
end Fc

set_option maxRecDepth 100000
set_option maxHeartbeats 4000000
namespace Fc
open PySem PySem.Spec PyProof.Rows L2 FcR
open Evl (Ex)
def sp_law (K : PySem.W.Frag) : Sp := fun vs H Q _ => ∃ (a : Addr) (ns : List Int), vs = [.ref a] ∧ ns.length ≤ 63 ∧ SqL K H a (ns.map V.int) ∧ ∀ H', Q (.bl true) H'
theorem cut_mem {xs : List V} {lo hi : Option Int} {x : V} (h : x ∈ cutV xs lo hi) : x ∈ xs := by
  unfold cutV at h
  exact List.mem_of_mem_drop (List.mem_of_mem_take h)
section
variable {P : Program} {w : World} {h : Heap} {K : PySem.W.Frag} {mg : Str → Option Value} {base : Heap}
abbrev N_law : List Str := ["_law_script", "_law_cell", "_law_source", "_law_num", "_law_field", "_law_base", "_law_one_here"]
theorem sc_law : FnScope N_law ["_law_script"] (defScope sd_law) := ⟨rfl, rfl, rfl, by decide +kernel, rfl, by decide +kernel, by decide +kernel⟩
theorem okF_law (T : Tx w h K mg) : ∃ fd, FnOk P w K mg base (CX P w) 4 (He.fAd K ("law", none)) fd ["_law_script"] (sp_law K) ∧ Binds K fd ["_law_script"] [] ∧ PySem.W.keepIn K (.ref (He.fAd K ("law", none))) = true ∧ FunD K "law" "law" (defArgs sd_law) (defBody sd_law) (defScope sd_law) [] [] (He.fAd K ("law", none)) fd := by
  obtain ⟨fd, F⟩ := F_law T
  refine ⟨fd, ?_, F.bindsN (fun _ _ _ _ _ _ us hl => match us, hl with | [_], _ => rfl), F.kp, F⟩
  obtain ⟨fd_law_cell_at, G_law_cell_at, bi_law_cell_at, kp_law_cell_at⟩ := ok_law_cell_at (P := P) (base := base) T
  obtain ⟨fd_law_draw, G_law_draw, bi_law_draw, kp_law_draw⟩ := ok_law_draw (P := P) (base := base) T
  obtain ⟨fd_law_kinds, G_law_kinds, bi_law_kinds, kp_law_kinds⟩ := ok_law_kinds (P := P) (base := base) T
  obtain ⟨fd_law_right, G_law_right, bi_law_right, kp_law_right⟩ := ok_law_right (P := P) (base := base) T
  obtain ⟨fd_law_source_of, G_law_source_of, bi_law_source_of, kp_law_source_of⟩ := ok_law_source_of (P := P) (base := base) T
  obtain ⟨fd_is_integer, G_is_integer, bi_is_integer, kp_is_integer, FD_is_integer⟩ := okF_is_integer (P := P) (base := base) T
  refine F.ok sc_law (fun vs H Q E h => ?_) (fun cdv A outer s H vs Q E hr h => ?_)
  · obtain ⟨a, ns, rfl, hl, hs, q⟩ := h
    rfl
  · obtain ⟨a, ns, rfl, hl, hs, q⟩ := h
    refine ⟨_, PSs.nox (pss_cons (ps_for PassesOwn.never rfl (pi_list (pe_op op_cat (pe_lst (pa_cons (pe_call G_law_cell_at (hr.mono (by decide)) rfl (g_law_cell_at T) kp_law_cell_at bi_law_cell_at .nil passF (pa_cons (pv 0) (pa_cons pe_int pa_nil))) pa_nil)) (pe_slice sl_list (pv 0) (po_some pe_int) (po_some pe_int)))) (pg_name (i := 1) sc_law.nd rfl (Or.inl rfl)) (pss_cons (ps_set (i := 2) sc_law.nd rfl (Or.inl rfl) (pe_call G_law_source_of (hr.mono (by decide)) rfl (g_law_source_of T) kp_law_source_of bi_law_source_of .nil passF (pa_cons (pv 1) pa_nil))) (pss_cons (ps_set (i := 3) sc_law.nd rfl (Or.inl rfl) (pe_call G_law_draw (hr.mono (by decide)) rfl (g_law_draw T) kp_law_draw bi_law_draw .nil passF (pa_cons (pv 2) (pa_cons (pe_op op_pow pe_int pe_int) pa_nil)))) (pss_cons (ps_for PassesOwn.never rfl (pi_list (pe_lst (pa_cons (pv 3) (pa_cons (pe_op op_sub pe_int (pv 3)) (pa_cons pe_non (pa_cons pe_str (pa_cons (pe_tup (pa_cons pe_str (pa_cons (pv 3) pa_nil))) (pa_cons (pe_lst (pa_cons (pv 3) pa_nil)) pa_nil)))))))) (pg_name (i := 4) sc_law.nd rfl (Or.inl rfl)) (pss_one (ps_if (pt_not (pt_val (pe_call G_law_right (hr.mono (by decide)) rfl (g_law_right T) kp_law_right bi_law_right .nil passF (pa_cons (pv 4) pa_nil)))) (pss_one (ps_ret pe_bl)) pss_nil))) (pss_cons (ps_set (i := 5) sc_law.nd rfl (Or.inl rfl) (FcX.pe_exc0 (xi_CopyError T) (x_CopyError T).kp rfl (g_CopyError T))) (pss_cons (ps_if (PW.pt (pw_or (pt_cmpR (op_neM hr) (pe_call G_law_kinds (hr.mono (by decide)) rfl (g_law_kinds T) kp_law_kinds bi_law_kinds .nil passF (pa_cons (pv 5) pa_nil)) (pe_lst pa_nil) (nomark _)) (pw_or1 (pt_not (pt_val (pe_callB FcX.call_isX rfl (fr_isinstance T) b_isinstance (pa_cons (pv 5) (pa_cons (pe_bltn (v := .ty "ArithmeticError") rfl (fr_ArithmeticError T) b_ArithmeticError rfl) pa_nil)))))))) (pss_one (ps_ret pe_bl)) pss_nil) (pss_cons (ps_if (pt_not (pt_val (pe_callB (cr_all rfl) rfl (fr_all T) b_all (pa_cons (pe_lc (own := [("_law_one_here", 6)]) rfl sc_law.nd (pi_list (pe_lst (pa_cons (pv 3) (pa_cons (pe_op op_sub pe_int (pv 3)) (pa_cons pe_int (pa_cons (pe_op op_pow pe_int pe_int) pa_nil)))))) (blkOk_by (N := N_law) (sc := defScope sd_law) (by decide +kernel)) (fun _ _ _ _ _ => (pg_name (i := 6) sc_law.nd rfl (Or.inl rfl))) (fun _ _ _ _ _ => pts_nil) (fun _ _ _ _ _ => (pe_cmpR op_isBl (pe_call G_is_integer (hr.mono (by decide)) rfl (g_is_integer T) kp_is_integer bi_is_integer .nil passF (pa_cons (pv 6) pa_nil)) pe_bl (nomark _)))) pa_nil)))) (pss_one (ps_ret pe_bl)) pss_nil) (pss_one (ps_if (pt_cmpR (op_neM hr) (pe_lc (own := [("_law_one_here", 6)]) rfl sc_law.nd (pi_list (pe_lst (pa_cons pe_bl (pa_cons pe_bl (pa_cons pe_non (pa_cons pe_str (pa_cons (pe_tup (pa_cons pe_int pa_nil)) (pa_cons (pe_lst (pa_cons pe_int pa_nil)) (pa_cons pe_dnewK pa_nil))))))))) (blkOk_by (N := N_law) (sc := defScope sd_law) (by decide +kernel)) (fun _ _ _ _ _ => (pg_name (i := 6) sc_law.nd rfl (Or.inl rfl))) (fun _ _ _ _ _ => (pts_one (pt_cmpR op_notBl (FcX.pe_callW (ks := ["value"]) (g := fun | [z0] => [z0] | _ => []) (gV := fun | [z0] => [z0] | _ => []) G_is_integer (hr.mono (by decide)) rfl (g_is_integer T) kp_is_integer (fun s ws hl => match ws, hl with | [_], _ => FcX.bindsX FD_is_integer (fun _ _ _ _ _ _ => rfl) s) (fun r _ => match r with | (.cons r0 .nil) => (.cons r0 .nil)) passF (pk_cons (pv 6) pk_nil)) pe_bl (nomark _)))) (fun _ _ _ _ _ => pe_int)) (pe_lst pa_nil) (nomark _)) (pss_one (ps_ret pe_bl)) pss_nil))))))))) (pss_one (ps_ret pe_bl))), ?_⟩
    refine ⟨_, rfl, a, ns, 0, rfl, hs, sz (by simp), ?_⟩
    intro p1 n1
    generalize e1 : upd _ p1 _ = H1
    obtain ⟨x1, s1, o1⟩ := new_of e1 n1
    clear e1
    have hs1 := Evl.ex_l x1 hs
    refine ⟨_, rfl, 1, rfl, 6, rfl, a, _, rfl, hs1, ?_⟩
    intro p2 n2
    generalize e2 : upd _ p2 _ = H2
    obtain ⟨x2, s2, o2⟩ := new_of e2 n2
    clear e2
    have hc2 : (cutV (ns.map V.int) (some 1) (some 6)).length ≤ 63 := Nat.le_trans (cutV_length ..) (by rw [List.length_map]; exact hl)
    refine ⟨p1, p2, _, _, rfl, rfl, x2 _ _ s1, s2, sz (by simp; omega), ?_⟩
    intro p3 n3
    generalize e3 : upd _ p3 _ = H3
    obtain ⟨x3, s3, o3⟩ := new_of e3 n3
    clear e3
    have isI : ∀ (i : Nat) (x : V), ([V.int (ns.getD 0 0)] ++ cutV (ns.map V.int) (some 1) (some 6))[i]? = some x → ∃ c, x = .int c := fun i x hx => by
      have hm := List.mem_of_getElem? hx
      rcases List.mem_append.mp hm with h1 | h1
      · exact ⟨_, List.mem_singleton.mp h1⟩
      · obtain ⟨c, _, e⟩ := List.mem_map.mp (cut_mem h1)
        exact ⟨c, e.symm⟩
    generalize [V.int (ns.getD 0 0)] ++ cutV (ns.map V.int) (some 1) (some 6) = cs at s3 isI
    refine ⟨p3, rfl, ⟨_, Evl.sq_of s3⟩, ?_⟩
    refine for_it (walk_list (xs := cs)) (fun i σ' H' => Ex H3 H' ∧ ∃ u1 u2 u3 u4 u5 u6, σ' = [some (.ref a), u1, u2, u3, u4, u5, u6]) ?_ ?_ ?_ ?_
    · exact ⟨Evl.Ex.refl _, _, _, _, _, _, _, rfl⟩
    · exact fun i σ' H' _ ⟨e, _⟩ => Evl.sq_of (e _ _ s3)
    · rintro i v σ' Ha Hb hi ⟨e, u1, u2, u3, u4, u5, u6, rfl⟩ ⟨rfl, hv⟩
      obtain ⟨c, rfl⟩ := isI i v hv
      refine ⟨_, rfl, c, rfl, fun p4 sx sy n4 => ?_⟩
      generalize e4 : upd _ p4 _ = H4
      obtain ⟨x4, s4, o4⟩ := new_of e4 n4
      clear e4
      refine ⟨_, rfl, _, _, rfl, rfl, ⟨by decide, by decide, by decide⟩, p4, sx, sy, 0, _, rfl, s4, (by decide), (by decide), fun sx' sy' sz' v v0 v1 => ?_⟩
      generalize e5 : upd _ p4 _ = H5
      obtain ⟨s5, o5⟩ := set_of e5
      clear e5
      have x5 := set_ex x4 n4 o5
      refine ⟨_, rfl, _, rfl, _, _, rfl, rfl, _, rfl, sz (by simp), ?_⟩
      intro p6 n6
      generalize e6 : upd _ p6 _ = H6
      obtain ⟨x6, s6, o6⟩ := new_of e6 n6
      clear e6
      refine ⟨_, rfl, sz (by simp), ?_⟩
      intro p7 n7
      generalize e7 : upd _ p7 _ = H7
      obtain ⟨x7, s7, o7⟩ := new_of e7 n7
      clear e7
      refine ⟨sz (by simp), ?_⟩
      intro p8 n8
      generalize e8 : upd _ p8 _ = H8
      obtain ⟨x8, s8, o8⟩ := new_of e8 n8
      clear e8
      have x58 := (x6.trans x7).trans x8
      have da : DpAll K H8 [.int v, .int (0 - v), .non, .str "end", .ref p6, .ref p7] [.int v, .int (0 - v), .none, .str "end", .tuple [.str "break", .int v], .list [.int v]] :=
        .cons (.int _) (.cons (.int _) (.cons .non (.cons (.str _) (.cons (.tup (Evl.st_of (x8 _ _ (x7 _ _ s6))) (.cons (.str _) (.cons (.int _) .nil))) (.cons (.lst (Evl.sq_of (x8 _ _ s7)) (.cons (.int _) .nil)) .nil)))))
      refine ⟨p8, rfl, ⟨_, Evl.sq_of s8⟩, ?_⟩
      refine for_it (walk_list (xs := [.int v, .int (0 - v), .non, .str "end", .ref p6, .ref p7])) (fun i σ' H' => Ex H8 H' ∧ ∃ u4, σ' = [some (.ref a), some (.int c), some (.ref p4), some (.int v), u4, u5, u6]) ?_ ?_ ?_ ?_
      · exact ⟨Evl.Ex.refl _, _, rfl⟩
      · exact fun i σ' H' _ ⟨e, _⟩ => Evl.sq_of (e _ _ s8)
      · rintro i y σ' Ja Jb hi ⟨ea, u4, rfl⟩ ⟨rfl, hy⟩
        obtain ⟨d, hd⟩ : ∃ d, ([.int v, .int (0 - v), .none, .str "end", .tuple [.str "break", .int v], .list [.int v]] : List PyData)[i]? = some d := ⟨_, List.getElem?_eq_getElem (show i < 6 from hi)⟩
        obtain ⟨y', hy', dy⟩ := dpA_get da hd
        rw [hy] at hy'
        cases hy'
        have cd : PyData.canLay0 d = true ∧ d.depth ≤ 10 := by
          match i, hd with
          | 0, hd => cases hd; exact ⟨by first | rfl | kernel_rfl, by simp [PyData.depth, PyData.depthAll]⟩
          | 1, hd => cases hd; exact ⟨by first | rfl | kernel_rfl, by simp [PyData.depth, PyData.depthAll]⟩
          | 2, hd => cases hd; exact ⟨by first | rfl | kernel_rfl, by simp [PyData.depth, PyData.depthAll]⟩
          | 3, hd => cases hd; exact ⟨by first | rfl | kernel_rfl, by simp [PyData.depth, PyData.depthAll]⟩
          | 4, hd => cases hd; exact ⟨by first | rfl | kernel_rfl, by simp [PyData.depth, PyData.depthAll]⟩
          | 5, hd => cases hd; exact ⟨by first | rfl | kernel_rfl, by simp [PyData.depth, PyData.depthAll]⟩
        refine ⟨_, rfl, y, d, rfl, dp_ex ea dy, cd.1, cd.2, fun Hk ek => ?_⟩
        exact ⟨_, rfl, ea.trans ek, _, rfl⟩
      rintro σ' Hc ⟨ec, u4, rfl⟩
      intro p9 n9
      generalize e9 : upd _ p9 _ = H9
      obtain ⟨x9, s9, o9⟩ := new_of e9 n9
      clear e9
      refine ⟨_, rfl, p9, "CopyError", rfl, by decide, x_CopyError T, .inr s9, fun pk Hk ek nk sk => ?_⟩
      rw [kOf_base] at sk
      refine ⟨sz (by simp), ?_⟩
      intro p10 n10
      generalize e10 : upd _ p10 _ = H10
      obtain ⟨x10, s10, o10⟩ := new_of e10 n10
      clear e10
      refine ⟨.list [], .list [], .lst (Evl.sq_of (x10 _ _ sk)) .nil, .lst (Evl.sq_of s10) .nil, rfl, rfl, (by decide), _, rfl, itF rfl ?_⟩
      refine ⟨_, rfl, p9, _, _, _, _, rfl, .ty _, x_CopyError T, .inr (x10 _ _ (ek _ _ s9)), FcX.xk_ae (xk T) (c := "CopyError") (by decide), _, rfl, ?_⟩
      refine ⟨_, rfl, _, rfl, _, _, rfl, rfl, _, _, rfl, rfl, ⟨by decide, by decide, by decide⟩, sz (by simp), ?_⟩
      intro p11 n11
      generalize e11 : upd _ p11 _ = H11
      obtain ⟨x11, s11, o11⟩ := new_of e11 n11
      clear e11
      refine ⟨p11, rfl, ⟨_, Evl.sq_of s11⟩, fun D nD => ?_⟩
      refine lc_it (walk_list (xs := [.int v, .int (0 - v), .int 0, .int (10 ^ (39 : Int).toNat)])) (fun i H' => Ex H11 H' ∧ H' D = some (.lst ((List.replicate i true).map V.bl))) ?_ ?_ ?_ ?_
      · exact ⟨exu (Evl.Ex.refl _) nD, upd_same⟩
      · exact fun i H' _ ⟨e, _⟩ => Evl.sq_of (e _ _ s11)
      · rintro i y Ja Jb hi ⟨ea, la⟩ ⟨rfl, hy⟩
        obtain ⟨n, rfl⟩ : ∃ n, y = .int n := by
          match i, hy with
          | 0, hy => cases hy; exact ⟨_, rfl⟩
          | 1, hy => cases hy; exact ⟨_, rfl⟩
          | 2, hy => cases hy; exact ⟨_, rfl⟩
          | 3, hy => cases hy; exact ⟨_, rfl⟩
        refine ⟨rfl, _, rfl, .int n, _, _, _, rfl, .base (.int n), k_int (.int n), k_bool (.int n), _, _, rfl, rfl, _, la, szl ?_, exm ea nD, ?_⟩
        · have h4 : i < 4 := hi
          rw [List.length_map, List.length_replicate]
          omega
        rw [upd_same, List.replicate_succ', List.map_append] <;> rfl
      rintro Hd ⟨ed, ld⟩
      refine ⟨D, _, rfl, Evl.sq_of ld, _, rfl, itF rfl ?_⟩
      refine ⟨sz (by simp), ?_⟩
      intro p12 n12
      generalize e12 : upd _ p12 _ = H12
      obtain ⟨x12, s12, o12⟩ := new_of e12 n12
      clear e12
      refine ⟨sz (by simp), ?_⟩
      intro p13 n13
      generalize e13 : upd _ p13 _ = H13
      obtain ⟨x13, s13, o13⟩ := new_of e13 n13
      clear e13
      intro p14 n14
      generalize e14 : upd _ p14 _ = H14
      obtain ⟨x14, s14, o14⟩ := new_of e14 n14
      clear e14
      refine ⟨sz (by simp), ?_⟩
      intro p15 n15
      generalize e15 : upd _ p15 _ = H15
      obtain ⟨x15, s15, o15⟩ := new_of e15 n15
      clear e15
      have s12' := x15 _ _ (x14 _ _ (x13 _ _ s12))
      have s13' := x15 _ _ (x14 _ _ s13)
      have s14' := x15 _ _ s14
      refine ⟨p15, rfl, ⟨_, Evl.sq_of s15⟩, fun D2 nD2 => ?_⟩
      refine lc_it (walk_list (xs := [.bl true, .bl false, .non, .str "5", .ref p12, .ref p13, .ref p14])) (fun i H' => Ex H15 H' ∧ H' D2 = some (.lst [])) ?_ ?_ ?_ ?_
      · exact ⟨exu (Evl.Ex.refl _) nD2, upd_same⟩
      · exact fun i H' _ ⟨e, _⟩ => Evl.sq_of (e _ _ s15)
      · rintro i y Ja Jb hi ⟨ea, la⟩ ⟨rfl, hy⟩
        obtain ⟨t, b1, b2, ty, k1, k2, hb⟩ : ∃ (t : Value) (b1 b2 : Bool), TyX K Jb y t ∧ PySem.W.kitOne K t (.type "int") = some b1 ∧ PySem.W.kitOne K t (.type "bool") = some b2 ∧ (b1 && !b2) = false := by
          match i, hy with
          | 0, hy => cases hy; exact ⟨_, _, _, .base (.bl _), k_int (.bool true), k_bool (.bool true), rfl⟩
          | 1, hy => cases hy; exact ⟨_, _, _, .base (.bl _), k_int (.bool true), k_bool (.bool true), rfl⟩
          | 2, hy => cases hy; exact ⟨_, _, _, .base .non, k_int .none, k_bool .none, rfl⟩
          | 3, hy => cases hy; exact ⟨_, _, _, .base (.str _), k_int (.str "5"), k_bool (.str "5"), rfl⟩
          | 4, hy => cases hy; exact ⟨_, _, _, .base (.tup (ea _ _ s12')), k_int (.tuple []), k_bool (.tuple []), rfl⟩
          | 5, hy => cases hy; exact ⟨_, _, _, .base (.lst (ea _ _ s13')), k_int (.list []), k_bool (.list []), rfl⟩
          | 6, hy => cases hy; exact ⟨_, _, _, .base (.dK (ea _ _ s14')), k_int (.dict []), k_bool (.dict []), rfl⟩
        exact ⟨rfl, _, rfl, rfl, y, t, b1, b2, rfl, ty, k1, k2, _, _, rfl, rfl, _, rfl, itF (by rw [hb] <;> rfl) ⟨ea, la⟩⟩
      rintro He ⟨ee, le⟩
      refine ⟨sz (by simp), ?_⟩
      intro p16 n16
      generalize e16 : upd _ p16 _ = H16
      obtain ⟨x16, s16, o16⟩ := new_of e16 n16
      clear e16
      refine ⟨.list [], .list [], .lst (Evl.sq_of (x16 _ _ le)) .nil, .lst (Evl.sq_of s16) .nil, rfl, rfl, (by decide), _, rfl, itF rfl ?_⟩
      exact ⟨(((((((((((e.trans x5).trans x58).trans ec).trans x9).trans ek).trans x10).trans x11).trans ed).trans (((x12.trans x13).trans x14).trans x15)).trans ee).trans x16), _, _, _, _, _, _, rfl⟩
    · exact fun σ' H' _ => q H'
theorem ok_law (T : Tx w h K mg) : Ok P w K mg base 4 ("law", none) ["_law_script"] (sp_law K) := by
  obtain ⟨fd, a, b, c, _⟩ := okF_law (P := P) (base := base) T
  exact ⟨fd, a, b, c⟩
end
end Fc

namespace Fc
open PySem PySem.Spec PyProof.Rows L2
/-- a def that lets nothing out -/
theorem calm_fn {P : Program} {w : World} {K : PySem.W.Frag} {mg : Str → Option Value} {base : Heap} {k : Nat} {f : Addr} {fd : FuncData} {ps : List Str} {sp : Sp} (G : FnOk P w K mg base (L2.CX P w) k f fd ps sp) (hsp : ∀ vs H Q E, sp vs H Q E → sp vs H Q (fun _ _ _ => False)) : FnOk P w K mg base CX0 k f fd ps sp :=
  ⟨G.len, fun A outer s H args us vs Q E hr e b r h => codeAny_mono (G.run A outer s H args us vs Q (fun _ _ _ => False) hr e b r (hsp _ _ _ _ h)) fun r s' hq => by
    cases r with
    | error e =>
      obtain ⟨_, _, _, _, _, _, _, _, _, _, _, _, z⟩ := hq
      exact z.elim
    | ok fl => cases fl <;> exact hq⟩
end Fc
open PySem PySem.W PyProof.Rows in
set_option maxRecDepth 100000 in
set_option maxHeartbeats 0 in
theorem PySem.Challenge.cw_finallycopies_k05_error_classes_and_inte_holds : PySem.Challenge.rw_finallycopies_k05_error_classes_and_inte.Holds := by
  w_on; o_law
  refine HandSHeadRun.head_any (r := Fc.R) (q := view Fc.R.prog [22]) (H := Fc.hk) (ob := Fc.ob) (M := 6000) (loose := Fc.looseL) (d := HandSHeadRun.topDef Fc.R.prog 22) (kwd := []) Fc.ob_eq
    (by kernel_rfl) (fun s => by kernel_rfl) Fc.run (by kernel_rfl) (by kernel_rfl) (by kernel_rfl) (by rfl) (by first | assumption | decide +kernel) (by decide +kernel) ⟨rfl, rfl, rfl, rfl, rfl, by decide +kernel⟩ ?hw ?hc
  case hw => w_witness2
  case hc =>
    refine L2.walk_ofE (l := PySem.Challenge.rw_finallycopies_k05_error_classes_and_inte) (n := 63) (k := 4) (x := "_law_script") (CX := L2.CX0) rfl (by decide) (by kernel_rfl) ⟨rfl, by decide, by decide⟩ ?F (fun _ _ _ _ z => z)
    intro w mg fa h Y G hmg0
    obtain ⟨K, KX, c⟩ := Y
    have hmg : mg ("law" : PySem.Str) = some (.ref fa) := by
      have e : (HandSHeadRun.topDef Fc.R.prog 22).name = ("law" : PySem.Str) := by kernel_rfl
      rw [← e]
      exact hmg0
    have T : Fc.Tx w h K mg := ⟨KX, G, c⟩
    obtain rfl : fa = He.ga K "law" := Value.ref.inj (Option.some.inj (hmg.symm.trans (Fc.g_law T)))
    obtain ⟨fd, F⟩ := Fc.F_law T
    have b := L2.FunD.bindsA (ps := ["_law_script"]) F fun _ _ _ _ _ _ us hl => match us, hl with | [_], _ => rfl
    refine ⟨K, fd, Fc.sp_law K, KX, fun s v => b s [v] rfl, fun H a ns hl _ hS => ⟨a, ns, rfl, hl, hS, fun _ => rfl⟩, fun base _ _ => ?_⟩
    obtain ⟨fd', G', _, _, F'⟩ := Fc.okF_law (P := (PySem.Challenge.rw_finallycopies_k05_error_classes_and_inte).prog) (base := base) T
    obtain rfl : fd = fd' := by
      obtain ⟨_, _, _, _, _, _, _, _, _, _, _, l1, _⟩ := F.ex
      obtain ⟨_, _, _, _, _, _, _, _, _, _, _, l2, _⟩ := F'.ex
      have z := l1.symm.trans l2
      cases z
      rfl
    exact Fc.calm_fn G' (fun _ _ _ _ z => z)


