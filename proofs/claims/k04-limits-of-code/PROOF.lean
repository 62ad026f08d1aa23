import PyProof.Rows.All
import Wide.All
import OpenK.AllK
import Wide.FinOn
import KE.KDictItemsList
import HandS.ForMost
import PyProof.EqAt
import PyProof.EqKinds
import PyProof.EnumMake
import HandS.Exc
import HandS.Conv
import HandS.Evl
import HandS.IsInst
import HandS.Style
import HandS.TupAny
import HandS.Defaults
import HandS.HeadHook4
import HandS.Walk
import KE.KExcInit
import KE.KExcIs
import HandS.ExcOwn
import HandS.ExcInit
import HandS.ExcValue
import HandS.OwnEq
import HandS.MakeKw
import HandS.TryMany
import HandS.ExcField
import HandS.CallLocal
import HandS.Head0
import HandS.Head1
import HandS.Head2
import HandS.HeadEnd
import HandS.HeadHook1
import HandS.HeadHook2
import HandS.HeadHook3
import HandS.More
import PySem.Challenge.RW_finallycopies_k04_limits_of_code
set_option Elab.async false
set_option linter.all false
set_option maxRecDepth 100000
set_option maxHeartbeats 4000000
/-! list(enumerate(xs)): the pairs of a list, in order -/
namespace FcE
open PySem PySem.W PySem.Calls PyProof.Rows PyProof.V PySem.Spec

/-- an enumerate object behind a pair that it gave out and that still lives at a -/
def EnB (h : Heap) (e it a : Addr) (f : Bool) (i : Int) (item : Value) : Prop :=
  h.get? e = some { cls := .type "enumerate", dict := none, data := .fields #[rawInt a, .bool f, .ref it, rawInt i, .none, item], slots := #[] }

section
variable {prog : Program} {w : World} {A : Around} {E : Value → Shared → Prop} {s : Shared}
theorem enB_next {e it l a : Addr} {f : Bool} {oa : Obj} {i : Nat} {items : Array Value} {x item : Value} {Q : Option Value → Shared → Prop}
    (he : EnB s.heap e it a f i item) (ha : s.heap.get? a = some oa) (hae : a ≠ e) (hai : a ≠ it) (hit : s.heap.IsListIter it l i) (hl : s.heap.IsList l items) (hx : items[i]? = some x) (hne : e ≠ it)
    (hQ : ∀ h', EnB h' e it a true ((i : Int) + 1) item → h'.IsListIter it l (i + 1) →
      h'.get? s.heap.objs.size = some { cls := .type "tuple", data := .seq #[.int i s.toks, x] } → h'.objs.size = s.heap.objs.size + 1 →
      (∀ b o, b ≠ e → b ≠ it → s.heap.get? b = some o → h'.get? b = some o) → Q (some (.ref s.heap.objs.size)) { s with heap := h', toks := s.toks + 1 }) :
    wpAny (model prog w) A (pyNext (.ref e)) Q E s := by
  obtain ⟨hp, g, d, tk, os⟩ := s
  have hT : Shared.TypeIs ⟨hp, g, d, tk, os⟩ (.ref e) "enumerate" := ⟨_, he, rfl⟩
  unfold pyNext
  refine wpAny_bind (wpAny_attempt (wpAny_callSpecial?_slot (name := Str.ofString "__next__") hT F.slot_enumerate_next
    (wpAny_call_entry F.slot_enumerate_next hT F.entry_enumerate_next ?_ (F.args_enumerate_next_1 _))))
  show wpAny _ _ (field (.ref e) 2 >>= _) _ _ _
  refine wpAny_bind (wpAny_field he rfl (x := .ref it) rfl ?_)
  refine wpAny_bind (wpAny_nextOf_list_item hit hl hx fun h1 hit1 hs1 => ?_)
  replace hs1 : Heap.SameBut it hp h1 := hs1
  have he1 : EnB h1 e it a f i item := (hs1.2 e hne).trans he
  show wpAny _ _ (field (.ref e) 3 >>= _) _ _ ⟨h1, g, d, tk, os⟩
  refine wpAny_bind (wpAny_field he1 rfl (x := rawInt i) rfl ?_)
  show wpAny _ _ (field (.ref e) 4 >>= _) _ _ ⟨h1, g, d, tk, os⟩
  refine wpAny_bind (wpAny_field he1 rfl (x := .none) rfl ?_)
  show wpAny _ _ (mkInt i >>= _) _ _ ⟨h1, g, d, tk, os⟩
  refine wpAny_bind (wpAny_mkInt ?_)
  show wpAny _ _ (setField (.ref e) 3 (rawInt ((i : Int) + 1)) >>= _) _ _ ⟨h1, g, d, tk + 1, os⟩
  refine wpAny_bind (wpAny_setField_rec he1 (by simp) fun h2 he2 hs2 => ?_)
  replace hs2 : Heap.SameBut e h1 h2 := hs2
  replace he2 : EnB h2 e it a f ((i : Int) + 1) item := he2
  show wpAny _ _ (setField (.ref e) 4 .none >>= _) _ _ ⟨h2, g, d, tk + 1, os⟩
  refine wpAny_bind (wpAny_setField_rec he2 (by simp) fun h3 he3 hs3 => ?_)
  replace hs3 : Heap.SameBut e h2 h3 := hs3
  replace he3 : EnB h3 e it a f ((i : Int) + 1) item := he3
  show wpAny _ _ (newTuple [.int i tk, x] >>= _) _ _ ⟨h3, g, d, tk + 1, os⟩
  refine wpAny_bind (wpAny_newTuple ?_)
  have he4 : EnB (h3.push { cls := .type "tuple", data := .seq #[.int i tk, x] }) e it a f ((i : Int) + 1) item := Heap.get?_push_of_some _ he3
  generalize hh4 : h3.push { cls := .type "tuple", data := .seq #[.int i tk, x] } = h4 at he4
  have hsz : h3.objs.size = hp.objs.size := by rw [hs3.1, hs2.1, hs1.1]
  have hel : e < hp.objs.size := Heap.lt_size he
  have ht4 : h4.get? hp.objs.size = some { cls := .type "tuple", data := .seq #[.int i tk, x] } := by rw [← hh4, ← hsz]; exact Heap.get?_push_size _ rfl
  have hz4 : h4.objs.size = hp.objs.size + 1 := by rw [← hh4, Heap.size_push, hsz]
  have hk4 : ∀ b o, b ≠ e → b ≠ it → hp.get? b = some o → h4.get? b = some o := fun b o hbe hbi hb => by
    rw [← hh4]; exact Heap.get?_push_of_some _ (hs3.extBut b o hbe (hs2.extBut b o hbe (hs1.extBut b o hbi hb)))
  have hit4 : h4.IsListIter it l (i + 1) := by
    rw [← hh4]; obtain ⟨o, ho, r⟩ := (hit1.extBut hs2.extBut (Ne.symm hne)).extBut hs3.extBut (Ne.symm hne); exact ⟨o, Heap.get?_push_of_some _ ho, r⟩
  show wpAny _ _ (Builtin.SmallTypes.ownedTupleIsFree (.ref e) >>= _) _ _ ⟨h4, g, d, tk + 1, os⟩
  rw [hsz]
  have ha4 : h4.get? a = some oa := hk4 a oa hae hai ha
  clear hh4 he3 hs3 he2 hs2 he1 hs1 hit1 hsz h3 h2 h1
  refine wpAny_bind ?_
  unfold Builtin.SmallTypes.ownedTupleIsFree
  refine wpAny_bind (wpAny_field he4 rfl (x := rawInt a) rfl ?_)
  show wpAny _ _ (loadIfAlive ((a : Int).toNat) >>= _) _ _ _
  rw [Int.toNat_natCast]
  refine wpAny_bind (kdx_alive ha4 ?_)
  simp only [Option.isNone_some, Bool.false_eq_true, if_false]
  refine wpAny_bind (wpAny_field he4 rfl (x := .bool f) rfl ?_)
  have fin : ∀ h5 : Heap, EnB h5 e it a true ((i : Int) + 1) item → Heap.SameBut e h4 h5 → Q (some (.ref hp.objs.size)) ⟨h5, g, d, tk + 1, os⟩ := fun h5 he5 hs5 =>
    hQ h5 he5 (hit4.extBut hs5.extBut (Ne.symm hne)) (by exact hs5.extBut _ _ (Nat.ne_of_gt hel) ht4) (by show h5.objs.size = hp.objs.size + 1; rw [hs5.1, hz4]) fun b o hbe hbi hb => hs5.extBut b o hbe (hk4 b o hbe hbi hb)
  cases f with
  | true =>
    rw [if_neg (show ¬ ((Value.bool true != Value.bool true) = true) from Bool.false_ne_true)]
    refine wpAny_pure ?_
    simp only [Bool.false_eq_true, if_false]
    exact wpAny_pure ⟨_, rfl, wpAny_pure (fin h4 he4 (Heap.SameBut.refl _ _))⟩
  | false =>
    rw [if_pos (show (Value.bool false != Value.bool true) = true from rfl)]
    refine wpAny_bind (wpAny_setField_rec he4 (by simp) fun h5 he5 hs5 => ?_)
    replace hs5 : Heap.SameBut e h4 h5 := hs5
    replace he5 : EnB h5 e it a true ((i : Int) + 1) item := he5
    refine wpAny_pure ?_
    simp only [Bool.false_eq_true, if_false]
    exact wpAny_pure ⟨_, rfl, wpAny_pure (fin h5 he5 hs5)⟩
theorem enB_done {e it l a : Addr} {f : Bool} {i : Nat} {items : Array Value} {item : Value} {Q : Option Value → Shared → Prop} (hh : A.handled = none)
    (he : EnB s.heap e it a f i item) (hit : s.heap.IsListIter it l i) (hl : s.heap.IsList l items) (hx : items[i]? = none)
    (hQ : ∀ h', Heap.ExtBut it s.heap h' → Q none { s with heap := h' }) : wpAny (model prog w) A (pyNext (.ref e)) Q E s := by
  have hT : s.TypeIs (.ref e) "enumerate" := ⟨_, he, rfl⟩
  unfold pyNext
  refine wpAny_bind (wpAny_attempt (wpAny_callSpecial?_slot (name := Str.ofString "__next__") hT F.slot_enumerate_next
    (wpAny_call_entry F.slot_enumerate_next hT F.entry_enumerate_next ?_ (F.args_enumerate_next_1 _))))
  show wpAny _ _ (field (.ref e) 2 >>= _) _ _ _
  refine wpAny_bind (wpAny_field he rfl (x := .ref it) rfl ?_)
  refine wpAny_bind (wpAny_nextOf_list_end hh hit hl hx fun h' x he' hx' => ?_)
  obtain ⟨o, ho, hc⟩ := hx'
  refine wpAny_bind (wpAny_isInstance (T := "StopIteration") (b := true) ⟨o, ho, hc⟩ isSubtype_stop ?_)
  exact wpAny_pure (hQ _ he')
end
/-- between two pairs: none given out, or the last one lives -/
def EnSt (h : Heap) (e it S : Addr) (i : Nat) : Prop :=
  (i = 0 ∧ ∃ old, IsEnum h e it 0 old) ∨ ∃ a f oa item, EnB h e it a f i item ∧ h.get? a = some oa ∧ a ≠ e ∧ a ≠ it ∧ a ≠ S
theorem EnSt.keep {h h' : Heap} {e it S : Addr} {i : Nat} (x : EnSt h e it S i) (hk : ∀ b o, b ≠ S → h.get? b = some o → h'.get? b = some o) (hS : e ≠ S) : EnSt h' e it S i := by
  rcases x with ⟨z, old, q⟩ | ⟨a, f, oa, item, q, r, n1, n2, n3⟩
  · exact .inl ⟨z, old, hk e _ hS q⟩
  · exact .inr ⟨a, f, oa, item, hk e _ hS q, hk a oa n3 r, n1, n2, n3⟩
/-- the pairs that were given: at as, above lo, in order -/
structure EnG (items : Array Value) (lo : Addr) (h : Heap) (as : List Addr) : Prop where
  above : ∀ a ∈ as, lo < a
  nodup : as.Nodup
  pairs : ∀ (j : Nat) (a : Addr), as[j]? = some a → ∃ t x, items[j]? = some x ∧ h.get? a = some { cls := .type "tuple", data := .seq #[.int j t, x] }
section
variable {prog : Program} {w : World} {A : Around} {E : Value → Shared → Prop} {s : Shared} {R : Result → Shared → Prop} {items : Array Value}
theorem en_item {e it l S : Addr} {i : Nat} {x : Value} {Q : Option Value → Shared → Prop} (hst : EnSt s.heap e it S i) (hS : S < s.heap.objs.size) (hit : s.heap.IsListIter it l i) (hl : s.heap.IsList l items) (hx : items[i]? = some x) (hne : e ≠ it)
    (hQ : ∀ h', EnSt h' e it S (i + 1) → h'.IsListIter it l (i + 1) → h'.get? s.heap.objs.size = some { cls := .type "tuple", data := .seq #[.int i s.toks, x] } → h'.objs.size = s.heap.objs.size + 1 →
      (∀ b o, b ≠ e → b ≠ it → s.heap.get? b = some o → h'.get? b = some o) → Q (some (.ref s.heap.objs.size)) { s with heap := h', toks := s.toks + 1 }) :
    wpAny (model prog w) A (pyNext (.ref e)) Q E s := by
  have itl : it < s.heap.objs.size := by obtain ⟨_, q, _⟩ := hit; exact Heap.lt_size q
  rcases hst with ⟨z, old, q⟩ | ⟨a, f, oa, item, q, r, n1, n2, n3⟩
  · subst z
    refine wpAny_pyNext_enum_item q hit hl hx hne fun h' ho h1 h2 h3 hk => hQ h' (.inr ⟨s.heap.objs.size, false, _, x, ?_, h2, Nat.ne_of_gt (Heap.lt_size q), Nat.ne_of_gt itl, Nat.ne_of_gt hS⟩) h1 h2 h3 hk
    exact ho
  · refine enB_next q r n1 n2 hit hl hx hne fun h' ho h1 h2 h3 hk => hQ h' (.inr ⟨a, true, oa, item, ?_, hk a oa n1 n2 r, n1, n2, n3⟩) h1 h2 h3 hk
    have z : ((i + 1 : Nat) : Int) = (i : Int) + 1 := by omega
    rw [z]
    exact ho
theorem en_done {e it l S : Addr} {i : Nat} {Q : Option Value → Shared → Prop} (hh : A.handled = none) (hst : EnSt s.heap e it S i) (hit : s.heap.IsListIter it l i) (hl : s.heap.IsList l items) (hx : items[i]? = none)
    (hQ : ∀ h', Heap.ExtBut it s.heap h' → Q none { s with heap := h' }) : wpAny (model prog w) A (pyNext (.ref e)) Q E s := by
  rcases hst with ⟨z, old, q⟩ | ⟨a, f, oa, item, q, r, n1, n2, n3⟩
  · subst z
    exact wpAny_pyNext_enum_end hh q hit hl hx hQ
  · exact enB_done hh q hit hl hx hQ

theorem en_loop {S e it l : Addr} (hh : A.handled = none) (hSe : e < S) (hSi : it < S) (hSl : l ≠ S) (hle : l ≠ e) (hli : l ≠ it) (hne : e ≠ it) (hn : items.size ≤ sizeLine) (res : Value) {h0 : Heap}
    (hR : ∀ h' tk acc c as, (∀ b o, b ≠ S → b ≠ e → b ≠ it → h0.get? b = some o → h'.get? b = some o) → h'.get? S = some { cls := .type "list", dict := none, data := .seq acc c, slots := #[] } → as.length = items.size → EnG items S h' as →
      acc.toList = as.map Value.ref → R (.ok (.ret res)) { s with heap := h', toks := tk }) :
    ∀ (k i : Nat) (h : Heap) (tk c : Nat) (acc : Array Value) (as : List Addr), items.size - i = k → i ≤ items.size → EnSt h e it S i → h.IsListIter it l i → h.IsList l items → (∀ b o, b ≠ S → b ≠ e → b ≠ it → h0.get? b = some o → h.get? b = some o) →
      h.get? S = some { cls := .type "list", dict := none, data := .seq acc c, slots := #[] } → acc.toList = as.map Value.ref → as.length = i → EnG items S h as →
      codeAny (model prog w) A (.builtin "list.extend.loop" ⟨[.ref S, .ref e, res], []⟩) R { s with heap := h, toks := tk } := by
  have nSe : S ≠ e := Nat.ne_of_gt hSe
  have nSi : S ≠ it := Nat.ne_of_gt hSi
  intro k
  induction k with
  | zero =>
    intro i h tk c acc as hk hi hst hit hl hkeep hS hacc hal hG
    have hin : i = items.size := by omega
    refine codeAny_builtin PySem.F.entry_extend_loop ?_
    rw [Around.under_plainId PySem.F.plain_extend_loop _]
    show wpAny _ A.in1 (pyNext (.ref e) >>= _) _ _ _
    refine wpAny_bind (en_done (s := { s with heap := h, toks := tk }) (A := A.in1) hh hst hit hl (Array.getElem?_eq_none (by omega)) fun h' he => ?_)
    refine wpAny_pure (hR h' tk acc c as (fun b o h1 h2 h3 z => he b o h3 (hkeep b o h1 h2 h3 z)) (he S _ nSi hS) (by omega) ⟨hG.above, hG.nodup, fun j a hj => ?_⟩ hacc)
    obtain ⟨t, x, e1, e2⟩ := hG.pairs j a hj
    exact ⟨t, x, e1, he a _ (Nat.ne_of_gt (Nat.lt_trans hSi (hG.above a (List.mem_of_getElem? hj)))) e2⟩
  | succ k ih =>
    intro i h tk c acc as hk hi hst hit hl hkeep hS hacc hal hG
    have hlt : i < items.size := by omega
    have hsz : acc.size = i := by rw [← Array.length_toList, hacc, List.length_map, hal]
    have hx : items[i]? = some items[i] := Array.getElem?_eq_getElem hlt
    have hSz : S < h.objs.size := Heap.lt_size hS
    refine codeAny_builtin PySem.F.entry_extend_loop ?_
    rw [Around.under_plainId PySem.F.plain_extend_loop _]
    show wpAny _ A.in1 (pyNext (.ref e) >>= _) _ _ _
    refine wpAny_bind (en_item (s := { s with heap := h, toks := tk }) (S := S) hst hSz hit hl hx hne fun h' hst' hit' ht hz hkp => ?_)
    dsimp only at ht hz hkp ⊢
    have hS' := hkp S _ nSe nSi hS
    have up : ∀ b o, b ≠ S → h'.get? b = some o → (h'.update S (Obj.mapSeq (·.push (Value.ref h.objs.size)))).get? b = some o := fun b o hb z => (Heap.get?_update_other _ _ (Ne.symm hb)).trans z
    have hl' : (h'.update S (Obj.mapSeq (·.push (Value.ref h.objs.size)))).IsList l items := hl.at fun o z => up l o hSl (hkp l o hle hli z)
    have hit2 : (h'.update S (Obj.mapSeq (·.push (Value.ref h.objs.size)))).IsListIter it l (i + 1) := hit'.at fun o z => up it o (Ne.symm nSi) z
    show wpAny _ A.in1 (updateSeq S (·.push (Value.ref h.objs.size)) >>= _) _ _ _
    refine wpAny_bind ?_
    refine wpAny_updateSeq hS' rfl (wpAny_pure ⟨plainId_quiet PySem.F.plain_extend_loop _, ih (i + 1) _ (tk + 1) _ (acc.push (Value.ref h.objs.size)) (as ++ [h.objs.size]) (by omega) hlt (hst'.keep up (Ne.symm nSe)) hit2 hl'
      (fun b o h1 h2 h3 z => up b o h1 (hkp b o h2 h3 (hkeep b o h1 h2 h3 z))) (Heap.get?_update_self _ hS' rfl) (by rw [Array.toList_push, hacc, List.map_append]; rfl) (by rw [List.length_append, hal]; rfl) ⟨?_, ?_, ?_⟩⟩) (by rw [hsz]; omega) (by show (acc.push (Value.ref h.objs.size)).size ≤ sizeLine + 1; rw [Array.size_push, hsz]; omega)
    · intro a ha
      rcases List.mem_append.mp ha with ha | ha
      · exact hG.above a ha
      · rw [List.mem_singleton.mp ha]; exact hSz
    · refine List.nodup_append.mpr ⟨hG.nodup, List.nodup_cons.mpr ⟨List.not_mem_nil, List.nodup_nil⟩, fun a ha b hb => ?_⟩
      rw [List.mem_singleton.mp hb]
      obtain ⟨j, hj⟩ := List.mem_iff_getElem?.mp ha
      obtain ⟨_, _, _, z⟩ := hG.pairs j a hj
      exact Nat.ne_of_lt (Heap.lt_size z)
    · intro j b hj
      rcases Nat.lt_trichotomy j as.length with h1 | h1 | h1
      · rw [List.getElem?_append_left h1] at hj
        obtain ⟨t, x, e1, e2⟩ := hG.pairs j b hj
        have hb := hG.above b (List.mem_of_getElem? hj)
        exact ⟨t, x, e1, up b _ (Nat.ne_of_gt hb) (hkp b _ (Nat.ne_of_gt (Nat.lt_trans hSe hb)) (Nat.ne_of_gt (Nat.lt_trans hSi hb)) e2)⟩
      · subst h1
        have hb : h.objs.size = b := by simpa using hj
        subst hb
        subst hal
        exact ⟨tk, _, hx, up _ _ (Nat.ne_of_gt hSz) ht⟩
      · have hnone : (as ++ [h.objs.size])[j]? = none := List.getElem?_eq_none (by rw [List.length_append, List.length_singleton]; omega)
        rw [hnone] at hj; cases hj
end
theorem nolen_enum : typeLookup (.type "enumerate") "__len__" = pure none := by rw [typeLookup_type, builtinLookup_eq_fast]; kernel_rfl
theorem nohint_enum : typeLookup (.type "enumerate") "__length_hint__" = pure none := by rw [typeLookup_type, builtinLookup_eq_fast]; kernel_rfl
section
variable {prog : Program} {w : World} {A : Around} {E : Value → Shared → Prop} {s : Shared} {items : Array Value}
theorem en_hint {r : Addr} {Q : Bool → Shared → Prop} (hT : s.TypeIs (.ref r) "enumerate") (h : Q true s) : wpAny (model prog w) A (Builtin.List.listLengthHint (.ref r)) Q E s := by
  unfold Builtin.List.listLengthHint
  refine wpAny_bind (wpAny_specialOf hT nolen_enum ?_)
  refine wpAny_ite_split (fun hab => absurd hab (by decide)) (fun _ => ?_)
  refine wpAny_ite_split (fun hab => absurd hab (by decide)) (fun _ => ?_)
  refine wpAny_bind (wpAny_specialOf hT nohint_enum ?_)
  exact wpAny_pure h
theorem en_extend {R : Result → Shared → Prop} {S e it l : Addr} (hh : A.handled = none) (hSe : e < S) (hSi : it < S) (hSl : l ≠ S) (hle : l ≠ e) (hli : l ≠ it) (hne : e ≠ it) (hst : IsEnum s.heap e it 0 .none) (hit : s.heap.IsListIter it l 0) (hl : s.heap.IsList l items)
    (res : Value) (c0 : Nat) (hS : s.heap.get? S = some { cls := .type "list", data := .seq #[] c0 })
    (hR : ∀ h' tk acc c as, (∀ b o, b ≠ S → b ≠ e → b ≠ it → s.heap.get? b = some o → h'.get? b = some o) → h'.get? S = some { cls := .type "list", dict := none, data := .seq acc c, slots := #[] } → as.length = items.size → EnG items S h' as →
      acc.toList = as.map Value.ref → R (.ok (.ret res)) { s with heap := h', toks := tk }) (hn : items.size ≤ sizeLine) :
    wpAny (model prog w) A.in1 (Builtin.List.listExtendWith (.ref S) (.ref e) res)
      (fun fin s' => match fin with | .done f => R (.ok f) s' | .again c' => c'.quiet = true ∧ codeAny (model prog w) A c' R s') (fun e s' => R (.error e) s') s := by
  have nSe : S ≠ e := Nat.ne_of_gt hSe
  have hT : s.TypeIs (.ref e) "enumerate" := ⟨_, hst, rfl⟩
  have key : ∀ (h : Heap) (c1 tk : Nat), (∀ b o, b ≠ S → s.heap.get? b = some o → h.get? b = some o) → h.get? S = some { cls := .type "list", data := .seq #[] c1 } →
      codeAny (model prog w) A (.builtin "list.extend.loop" ⟨[.ref S, .ref e, res], []⟩) R { s with heap := h, toks := tk } := by
    intro h c1 tk hk hS1
    exact en_loop (items := items) (s := s) (h0 := s.heap) hh hSe hSi hSl hle hli hne hn res hR items.size 0 h tk c1 #[] [] (Nat.sub_zero _) (Nat.zero_le _) (.inl ⟨rfl, .none, hk e _ (Ne.symm nSe) hst⟩)
      (hit.at fun o z => hk it o (Nat.ne_of_lt hSi) z) (hl.at fun o z => hk l o hSl z) (fun b o h1 _ _ z => hk b o h1 z) hS1 rfl rfl ⟨(fun _ z => nomatch z), List.nodup_nil, fun j a hj => by simp at hj⟩
  unfold Builtin.List.listExtendWith
  refine wpAny_bind (wpAny_typeOf (T := "enumerate") hT ?_)
  have h1 : Builtin.List.listSameRef (.ref S) (.ref e) = false := by simp [Builtin.List.listSameRef, nSe]
  have h2 : (Value.type "enumerate" == Value.type "list") = false := by decide
  have h3 : (Value.type "enumerate" == Value.type "tuple") = false := by decide
  simp only [h1, h2, h3, Bool.or_false, Bool.false_eq_true, if_false]
  refine wpAny_bind (wpAny_pyIter_enum hst ?_)
  refine wpAny_bind (wpAny_holding (en_hint hT ?_))
  refine wpAny_ite_split (fun _ => ?_) (fun _ => wpAny_pure ⟨plainId_quiet PySem.F.plain_extend_loop _, key _ c0 _ (fun b o _ z => z) hS⟩)
  refine wpAny_bind (wpAny_rule ?_)
  refine wpAny_bind ?_
  show wpAny _ _ (updateSeq S (·.push .none) >>= fun _ => updateSeq S (·.pop)) _ _ _
  refine wpAny_bind (wpAny_updateSeq hS rfl ?_)
  have hS2 := Heap.get?_update_self (Obj.mapSeq (·.push Value.none)) hS rfl
  refine wpAny_updateSeq (hz := by seq_fits) hS2 rfl ?_
  have hS3 := Heap.get?_update_self (Obj.mapSeq (·.pop)) hS2 rfl
  refine wpAny_pure ⟨plainId_quiet PySem.F.plain_extend_loop _, key _ _ _ (fun b o hb z => ?_) hS3⟩
  exact (Heap.get?_update_other _ _ (Ne.symm hb)).trans ((Heap.get?_update_other _ _ (Ne.symm hb)).trans z)
theorem en_call {Q : Value → Shared → Prop} {e it l : Addr} (hh : A.handled = none) (hle : l ≠ e) (hli : l ≠ it) (hne : e ≠ it) (hst : IsEnum s.heap e it 0 .none) (hit : s.heap.IsListIter it l 0) (hl : s.heap.IsList l items) (hn : items.size ≤ sizeLine)
    (hQ : ∀ h' tk acc c as, (∀ b o, b ≠ e → b ≠ it → s.heap.get? b = some o → h'.get? b = some o) → h'.get? s.heap.objs.size = some { cls := .type "list", dict := none, data := .seq acc c, slots := #[] } → as.length = items.size → EnG items s.heap.objs.size h' as →
      acc.toList = as.map Value.ref → Q (.ref s.heap.objs.size) { s with heap := h', toks := tk }) :
    wpAny (model prog w) A (call (.type "list") [.ref e]) Q E s := by
  refine callType_codes (Q₁ := fun obj s₁ => obj = .ref s.heap.objs.size ∧ s₁ = { s with heap := s.heap.push { cls := .type "list", data := .seq #[] } }) PySem.F.called_list (PySem.F.typeCall_list_1 _) PySem.F.entry_list_init
    (code_list_new _ ⟨rfl, rfl⟩) fun obj s₁ h₁ => ?_
  obtain ⟨rfl, rfl⟩ := h₁
  have up : ∀ b o, s.heap.get? b = some o → (s.heap.push { cls := .type "list", data := .seq #[] }).get? b = some o := fun b o z => Heap.get?_push_of_some _ z
  have hS : (s.heap.push { cls := .type "list", data := .seq #[] }).get? s.heap.objs.size = some { cls := .type "list", data := .seq #[] } := Heap.get?_push_size _ rfl
  have le : e < s.heap.objs.size := Heap.lt_size hst
  have li : it < s.heap.objs.size := by obtain ⟨_, q, _⟩ := hit; exact Heap.lt_size q
  have ll : l ≠ s.heap.objs.size := by obtain ⟨_, q, _⟩ := hl; exact Nat.ne_of_lt (Heap.lt_size q)
  refine ⟨⟨_, hS, rfl⟩, PySem.F.args_list_init_2 _ _, ?_⟩
  show wpAny _ _ (do let old ← Builtin.List.listItems (.ref s.heap.objs.size); Builtin.List.listUpdate (.ref s.heap.objs.size) (fun _ => #[]); letGo old.toList.reverse; Builtin.List.listExtendWith (.ref s.heap.objs.size) (.ref e) .none) _ _ _
  refine wpAny_bind ?_
  unfold Builtin.List.listItems
  refine wpAny_bind (wpAny_seqItems hS rfl (wpAny_pure ?_))
  show wpAny _ _ (updateSeq s.heap.objs.size (fun _ => #[]) >>= fun _ => letGo (#[] : Array Value).toList.reverse >>= fun _ => Builtin.List.listExtendWith (.ref s.heap.objs.size) (.ref e) .none) _ _ _
  refine wpAny_bind (wpAny_updateSeq hS rfl ?_)
  have hS2 := Heap.get?_update_self (Obj.mapSeq (fun _ => (#[] : Array Value))) hS rfl
  have oth : ∀ b o, b ≠ s.heap.objs.size → s.heap.get? b = some o → ((s.heap.push { cls := .type "list", data := .seq #[] }).update s.heap.objs.size (Obj.mapSeq (fun _ => (#[] : Array Value)))).get? b = some o :=
    fun b o hb z => (Heap.get?_update_other _ _ (Ne.symm hb)).trans (up b o z)
  refine wpAny_bind (wpAny_letGo ?_)
  refine en_extend (A := A.in1) hh le li ll hle hli hne (oth e _ (Nat.ne_of_lt le) hst) (hit.at fun o z => oth it o (Nat.ne_of_lt li) z) (hl.at fun o z => oth l o ll z) .none _ hS2 (fun h' tk acc c as hk h1 h2 h3 h4 => ?_) hn
  exact ⟨rfl, hQ h' tk acc c as (fun b o n1 n2 z => hk b o (Nat.ne_of_lt (Heap.lt_size z)) n1 n2 (oth b o (Nat.ne_of_lt (Heap.lt_size z)) z)) h1 h2 h3 h4⟩
end
end FcE

set_option maxRecDepth 100000
set_option maxHeartbeats 4000000
namespace FcR
open PySem PySem.Spec PyProof.Rows L2
/-! ### nothing that a callee raises is asked for -/
theorem passF {P : Program} {w : World} {X : Cx} : Passes (CX P w) X (fun _ _ _ => False) := fun _ _ _ _ _ _ _ h => by
  obtain ⟨_, _, _, _, _, _, _, _, _, _, _, _, z⟩ := h
  exact z.elim
/-! ### an attribute as a target -/
def gFld (K : PySem.W.Frag) (to : TE) (f : Str) : TG := fun v σ H Q => to σ H fun x H1 => ∃ a C dx fs, x = .ref a ∧ H1 a = some (.ins C dx fs) ∧ Cls K C ∧ NoAttr K C f ∧ fs.length < 1000 ∧ Q σ (upd H1 a (.ins C dx (putF f v fs)))
theorem pg_fld {X : Cx} {o : Expr} {f : Str} {pos : Pos} {to : TE} (ho : PE X o to) : PG X (.Attribute o f pos) (gFld X.K to f) := by
  refine ⟨fun pins s σ H v u Q I r h => ?_⟩
  have ea : assign (.Attribute o f pos) X.env u = (do
      let ov ← holding [u] (eval o X.env)
      standAt pos.atName
      holding [u, ov] (setAttr ov f u)
      release [u, ov] []) := rfl
  rw [ea]
  refine wpAny_bind (wpAny_holding (thn (ho.run pins s σ H _ I h) fun ov s1 ⟨x, H1, I1, r1, a, C, dx, fs, ex, e1, c, n, l, q⟩ => ?_))
  subst ex
  obtain rfl : ov = Value.ref a := r1
  refine wpAny_bind (wpAny_standAt (wpAny_bind (wpAny_holding ?_)))
  exact setattr_ok I1 e1 c n l r fun s3 I3 => wpAny_release ⟨σ, _, I3, q⟩
/-! ### list(enumerate(e)) -/
def putP : Hp → List Addr → Nat → List V → Hp
  | H, a :: as, j, x :: xs => putP (upd H a (.tup [.int (j : Int), x])) as (j + 1) xs
  | H, _, _, _ => H
theorem putP_off {b : Addr} : ∀ (as : List Addr) (xs : List V) (j : Nat) (H : Hp), b ∉ as → putP H as j xs b = H b
  | [], _, _, _, _ => rfl
  | _ :: _, [], _, _, _ => rfl
  | a :: as, x :: xs, j, H, h => by
    show putP (upd H a (.tup [.int (j : Int), x])) as (j + 1) xs b = H b
    rw [putP_off as xs _ _ (fun z => h (List.mem_cons_of_mem _ z)), upd_ne (fun z => h (by rw [z]; exact List.mem_cons_self))]
theorem putP_at : ∀ (as : List Addr) (xs : List V) (j : Nat) (H : Hp), as.length = xs.length → as.Nodup → ∀ (i : Nat) (a : Addr) (x : V), as[i]? = some a → xs[i]? = some x → putP H as j xs a = some (.tup [.int ((j + i : Nat) : Int), x])
  | [], _, _, _, _, _, i, a, x, h, _ => by simp at h
  | _ :: _, [], _, _, h, _, _, _, _, _, _ => by cases h
  | a0 :: as, x0 :: xs, j, H, h, hn, 0, a, x, h1, h2 => by
    have hn' := List.nodup_cons.mp hn
    simp at h1 h2
    subst h1 h2
    show putP (upd H a0 (.tup [.int (j : Int), x0])) as (j + 1) xs a0 = _
    rw [putP_off as xs _ _ hn'.1, upd_same] <;> rfl
  | a0 :: as, x0 :: xs, j, H, h, hn, i + 1, a, x, h1, h2 => by
    have ih := putP_at as xs (j + 1) (upd H a0 (.tup [.int (j : Int), x0])) (Nat.succ.inj h) (List.nodup_cons.mp hn).2 i a x (by simpa using h1) (by simpa using h2)
    have e : j + 1 + i = j + (i + 1) := by omega
    rw [e] at ih
    exact ih
def rEnumL (K : PySem.W.Frag) : V → Hp → VK → Prop := fun x H Q => ∃ (a : Addr) (xs : List V), x = .ref a ∧ SqL K H a xs ∧
  ∀ (H' : Hp) (p : Addr) (ts : List Addr), (∀ b o, H b = some o → H' b = some o) → H p = none → (∀ t ∈ ts, H t = none) → p ∉ ts → ts.Nodup → ts.length = xs.length → H' p = some (.lst (ts.map V.ref)) →
    (∀ (i : Nat) (t : Addr) (x : V), ts[i]? = some t → xs[i]? = some x → H' t = some (.tup [.int (i : Int), x])) → Q (.ref p) H'
def tListEnum (K : PySem.W.Frag) (te : TE) : TE := fun σ H Q => te σ H fun x H1 => rEnumL K x H1 Q
theorem vals_refs : ∀ as : List Addr, Vals (as.map V.ref) (as.map Value.ref)
  | [] => .nil
  | _ :: as => .cons rfl (vals_refs as)
section
variable {X : Cx} {e : Expr} {te : TE} {p p2 pos2 pos : Pos}
theorem enum_laid {pins : List (Addr × Obj)} {σ : L2.St} {H : Hp} {s : Shared} {h' : Heap} {tk : Nat} {xs : List V} {its : List Value} {acc : Array Value} {c : Nat} {as : List Addr} {S : Addr} (hge : s.heap.objs.size ≤ S) (I : Inv X pins σ H s) (hz : xs.length ≤ sizeLine) (rv : Vals xs its)
    (hk : ∀ b o, s.heap.get? b = some o → h'.get? b = some o) (hS : h'.get? S = some { cls := .type "list", dict := none, data := .seq acc c, slots := #[] }) (hl : as.length = xs.length) (hG : FcE.EnG its.toArray S h' as) (hacc : acc.toList = as.map Value.ref) :
    ∃ H' : Hp, (∀ b o, H b = some o → H' b = some o) ∧ H S = none ∧ (∀ t ∈ as, H t = none) ∧ S ∉ as ∧ H' S = some (.lst (as.map V.ref)) ∧
      (∀ (i : Nat) (t : Addr) (x : V), as[i]? = some t → xs[i]? = some x → H' t = some (.tup [.int (i : Int), x])) ∧ Inv X pins σ H' { s with heap := h', toks := tk } := by
  have hSn : S ∉ as := fun z => Nat.lt_irrefl _ (hG.above _ z)
  have new : ∀ t ∈ as, H t = none := fun t ht => I.hok.fresh (Nat.le_trans hge (Nat.le_of_lt (hG.above t ht)))
  have newS : H S = none := I.hok.fresh hge
  have atP : ∀ (i : Nat) (t : Addr) (x : V), as[i]? = some t → xs[i]? = some x → putP (upd H S (.lst (as.map V.ref))) as 0 xs t = some (.tup [.int (i : Int), x]) := fun i t x h1 h2 => by
    have z := putP_at as xs 0 (upd H S (.lst (as.map V.ref))) hl hG.nodup i t x h1 h2
    rw [Nat.zero_add] at z
    exact z
  have off : ∀ b, b ∉ as → b ≠ S → putP (upd H S (.lst (as.map V.ref))) as 0 xs b = H b := fun b h1 h2 => by rw [putP_off as xs _ _ h1, upd_ne h2]
  have low : ∀ b o, s.heap.get? b = some o → b ∉ as ∧ b ≠ S := fun b o z => ⟨fun y => absurd (Heap.lt_size z) (Nat.not_lt.mpr (Nat.le_trans hge (Nat.le_of_lt (hG.above b y)))), Nat.ne_of_lt (Nat.lt_of_lt_of_le (Heap.lt_size z) hge)⟩
  have kp : ∀ b u, H b = some u → (putP (upd H S (.lst (as.map V.ref))) as 0 xs) b = some u := fun b u z => by
    rw [off b (fun y => by rw [new b y] at z; cases z) (fun y => by rw [y, newS] at z; cases z)]
    exact z
  have eS : putP (upd H S (.lst (as.map V.ref))) as 0 xs S = some (.lst (as.map V.ref)) := by rw [putP_off as xs _ _ hSn, upd_same]
  refine ⟨putP (upd H S (.lst (as.map V.ref))) as 0 xs, kp, newS, new, hSn, eS, atP, ?_⟩
  refine I.call' (ch := []) rfl ⟨fun b o q _ _ _ => hk b o q, fun b o q _ _ _ => ⟨o.slots, hk b o q⟩, fun b o q n _ => ?_, fun b o q _ => ⟨o, hk b o q⟩, fun b ys q => kp b _ q, fun b o u q => kp b _ q, fun b ps q => ⟨#[], by rw [kp b _ q]; simp⟩⟩ (fun b u q => ?_) I.bare fun b z => by simp at z
  · obtain ⟨z1, z2⟩ := low b o q
    rw [off b z1 z2]
    exact n
  · by_cases hb : b ∈ as
    · obtain ⟨j, hj⟩ := List.mem_iff_getElem?.mp hb
      have jl : j < xs.length := by rw [← hl]; exact (List.getElem?_eq_some_iff.mp hj).1
      have hx : xs[j]? = some xs[j] := List.getElem?_eq_getElem jl
      rw [atP j b _ hj hx] at q
      cases q
      obtain ⟨t, x, f1, f2⟩ := hG.pairs j b hj
      obtain ⟨u, g1, g2⟩ := rv.get hx
      have ex : x = u := by
        have f1' : its[j]? = some x := by simpa using f1
        rw [g1] at f1'
        exact (Option.some.inj f1').symm
      exact ⟨by show 2 ≤ sizeLine; decide, [.int (j : Int) t, x], .cons ⟨t, rfl⟩ (.cons (by rw [ex]; exact g2) .nil), ⟨_, f2, rfl, _, rfl⟩⟩
    · by_cases hb2 : b = S
      · rw [hb2] at q ⊢
        rw [eS] at q
        cases q
        refine ⟨by rw [List.length_map]; omega, acc.toList, c, by rw [hacc]; exact vals_refs as, ?_⟩
        rw [Array.toArray_toList]
        exact hS
      · rw [off b hb hb2] at q
        exact (I.hok b u q).stay (fun d v _ y => hk d v y) (fun d y => kp d _ y) fun d ys y => kp d _ y
theorem pe_listEnum (hc : X.calm = true) (he : PE X e te) (hg : Gl X "list") (hm : X.mg "list" = none) (hv : bootBuiltins "list" = some (.type "list")) (hg2 : Gl X "enumerate") (hm2 : X.mg "enumerate" = none) (hv2 : bootBuiltins "enumerate" = some (.type "enumerate"))
    (hs : starEach [.Call (.Name "enumerate" p2) [e] [] pos2] X.env = (false, eval (.Call (.Name "enumerate" p2) [e] [] pos2) X.env) :: starEach [] X.env := by rfl) (hs2 : starEach [e] X.env = (false, eval e X.env) :: starEach [] X.env := by rfl) :
    PE X (.Call (.Name "list" p) [.Call (.Name "enumerate" p2) [e] [] pos2] [] pos) (tListEnum X.K te) := by
  refine ⟨fun pins s σ H Q I hq => ?_⟩
  refine wpAny_Call_Name_kw (ld_blt I hg hm hv ?_)
  refine PyProof.Rows.callWith_type1 ?_ hs rfl
  rw [hs]
  show wpAny _ _ (spliced ((false, eval (.Call (.Name "enumerate" p2) [e] [] pos2) X.env) :: backTo pos (starEach [] X.env))) _ _ s
  refine Calls.spliced_cons ?_
  refine wpAny_Call_Name_kw (ld_blt I hg2 hm2 hv2 ?_)
  refine PyProof.Rows.callWith_type1 ?_ hs2 rfl
  rw [hs2]
  show wpAny _ _ (spliced ((false, eval e X.env) :: backTo pos2 (starEach [] X.env))) _ _ s
  refine Calls.spliced_cons (thn (he.run pins s σ H _ I hq) fun u s1 ⟨x, H1, I1, rx, a, xs, ex, hL, q⟩ => ?_)
  subst ex
  obtain rfl : u = Value.ref a := rx
  refine Calls.spliced_nil ?_
  obtain ⟨its, rv, hl0, hz⟩ := I1.list hL
  have hl : s1.heap.IsList a its.toArray := hl0.isList
  have al : a < s1.heap.objs.size := by obtain ⟨_, y, _⟩ := hl; exact Heap.lt_size y
  refine call_enumerate_list hl fun h1 hE hI hsz hk => ?_
  refine Calls.spliced_nil ?_
  have hl1 : h1.IsList a its.toArray := hl.at fun o y => hk a o y
  have lx : xs.length = its.length := rv.length
  have hlen : its.toArray.size = xs.length := by simp [lx]
  refine FcE.en_call (items := its.toArray) (I1.ok.hd hc) (Nat.ne_of_lt (Nat.lt_succ_of_lt al)) (Nat.ne_of_lt al) (Nat.succ_ne_self _) hE hI hl1 (by rw [hlen]; exact hz) fun h' tk acc c as hkk hS hla hG hacc => ?_
  obtain ⟨H', k1, k2, k3, k4, k5, k6, J⟩ := enum_laid (tk := tk) (S := h1.objs.size) (by rw [hsz]; exact Nat.le_add_right _ _) I1 hz rv
    (fun b o y => hkk b o (Nat.ne_of_lt (Nat.lt_succ_of_lt (Heap.lt_size y))) (Nat.ne_of_lt (Heap.lt_size y)) (hk b o y)) hS (by rw [hla, hlen]) hG hacc
  exact ⟨.ref _, H', J, rfl, q H' _ as k1 k2 k3 k4 hG.nodup (by rw [hla, hlen]) k5 k6⟩
/-! ### == and != of data, up to 150 deep -/
def rEqM (K : PySem.W.Frag) : R2 := fun x y H Q => ∃ d e, Dp K H x d ∧ Dp K H y e ∧ PyData.canLay0 d = true ∧ PyData.canLay0 e = true ∧ min d.depth e.depth ≤ 150 ∧ Q (.bl (PyData.eqv d e)) H
def rNeM (K : PySem.W.Frag) : R2 := fun x y H Q => ∃ d e, Dp K H x d ∧ Dp K H y e ∧ PyData.canLay0 d = true ∧ PyData.canLay0 e = true ∧ min d.depth e.depth ≤ 150 ∧ Q (.bl (!PyData.eqv d e)) H
theorem op_eqM {k : Nat} (hr : Room k X.A) : OpR X (compareOp .Eq) (rEqM X.K) := by
  intro pins s σ H x y v u Q I rx ry h
  obtain ⟨d, e, hd, he, sd, se, hm, q⟩ := h
  obtain ⟨as, r1⟩ := Dp.reads I d x v hd rx
  obtain ⟨bs, r2⟩ := Dp.reads I e y u he ry
  exact SeqAt.compareEq_reads r1 r2 sd se (by have := hr.un; omega) ⟨.bl _, H, I, rfl, q⟩
theorem op_neM {k : Nat} (hr : Room k X.A) : OpR X (compareOp .NotEq) (rNeM X.K) := by
  intro pins s σ H x y v u Q I rx ry h
  obtain ⟨d, e, hd, he, sd, se, hm, q⟩ := h
  obtain ⟨as, r1⟩ := Dp.reads I d x v hd rx
  obtain ⟨bs, r2⟩ := Dp.reads I e y u he ry
  exact SeqAt.compareNe_reads r1 r2 sd se (by have := hr.un; omega) ⟨.bl _, H, I, rfl, q⟩
/-- x in a tuple of data -/
def rInT (K : PySem.W.Frag) : R2 := fun x y H Q => ∃ d ds, Dp K H x d ∧ Dp K H y (.tuple ds) ∧ PyData.canLay0 d = true ∧ PyData.canLayAll0 ds = true ∧ min (PyData.depthAll ds) d.depth ≤ 150 ∧ Q (.bl (ds.any fun z => PyData.eqv z d)) H
theorem op_inT {k : Nat} (hr : Room k X.A) : OpR X (compareOp .In) (rInT X.K) := by
  intro pins s σ H x y v u Q I rx ry h
  obtain ⟨d, ds, hd, he, sd, se, hm, q⟩ := h
  obtain ⟨as, r1⟩ := Dp.reads I d x v hd rx
  obtain ⟨bs, r2⟩ := Dp.reads I (.tuple ds) y u he ry
  exact SeqAt.in_tuple_reads r2 r1 se sd (by have := hr.un; omega) ⟨.bl _, H, I, rfl, q⟩
end
end FcR

set_option maxRecDepth 100000
set_option maxHeartbeats 4000000
namespace Fc
open PySem PySem.Spec PyProof.Rows L2 FcR
open Evl (Ex)
/-! ### built-in names -/
theorem b_len : bootBuiltins "len" = some (.builtin "len") := by decide +kernel
theorem b_isinstance : bootBuiltins "isinstance" = some (.builtin "isinstance") := by decide +kernel
theorem b_all : bootBuiltins "all" = some (.builtin "all") := by decide +kernel
theorem b_any : bootBuiltins "any" = some (.builtin "any") := by decide +kernel
theorem b_sum : bootBuiltins "sum" = some (.builtin "sum") := by decide +kernel
theorem b_list : bootBuiltins "list" = some (.type "list") := by decide +kernel
theorem b_tuple : bootBuiltins "tuple" = some (.type "tuple") := by decide +kernel
theorem b_int : bootBuiltins "int" = some (.type "int") := by decide +kernel
theorem b_bool : bootBuiltins "bool" = some (.type "bool") := by decide +kernel
theorem b_str : bootBuiltins "str" = some (.type "str") := by decide +kernel
theorem b_enumerate : bootBuiltins "enumerate" = some (.type "enumerate") := by decide +kernel
/-! ### a def that keeps its promise, by the place where it stands -/
def Ok (P : Program) (w : World) (K : PySem.W.Frag) (mg : Str → Option Value) (base : Heap) (k : Nat) (at_ : Str × Option Str) (ps : List Str) (sp : Sp) : Prop :=
  ∃ fd, FnOk P w K mg base (CX P w) k (He.fAd K at_) fd ps sp ∧ Binds K fd ps [] ∧ PySem.W.keepIn K (.ref (He.fAd K at_)) = true
theorem Ok.mono {P : Program} {w : World} {K : PySem.W.Frag} {mg : Str → Option Value} {base : Heap} {j k : Nat} {at_ : Str × Option Str} {ps : List Str} {sp : Sp} (h : Ok P w K mg base j at_ ps sp) (e : j ≤ k) : Ok P w K mg base k at_ ps sp := by
  obtain ⟨fd, G, b, kp⟩ := h
  exact ⟨fd, G.mono e, b, kp⟩
/-! ### tests -/
theorem ite_of {c : Bool} {A B : Prop} (h1 : c = true → A) (h2 : c = false → B) : if c = true then A else B := by
  cases c with
  | true => rw [if_pos rfl]; exact h1 rfl
  | false => rw [if_neg Bool.false_ne_true]; exact h2 rfl
theorem itT {c : Bool} {A B : Prop} (hc : c = true) (h : A) : if c = true then A else B := by
  rw [if_pos hc]
  exact h
theorem itF {c : Bool} {A B : Prop} (hc : c = false) (h : B) : if c = true then A else B := by
  rw [hc, if_neg Bool.false_ne_true]
  exact h
theorem sz {n : Nat} (h : n ≤ 100000) : n ≤ sizeLine := Evl.sz_of h
theorem szl {n : Nat} (h : n < 100000) : n < sizeLine := Evl.sz_lt h
/-! ### data stays where what was tracked stays -/
mutual
theorem dp_ex {K : PySem.W.Frag} {H H' : Hp} (e : Ex H H') : ∀ {d : PyData} {v : V}, Dp K H v d → Dp K H' v d
  | _, _, .non => .non
  | _, _, .bl b => .bl b
  | _, _, .int i => .int i
  | _, _, .str x => .str x
  | _, _, .lst h a => .lst (Evl.ex_l e h) (dpA_ex e a)
  | _, _, .tup h a => .tup (Evl.ex_t e h) (dpA_ex e a)
theorem dpA_ex {K : PySem.W.Frag} {H H' : Hp} (e : Ex H H') : ∀ {ds : List PyData} {vs : List V}, DpAll K H vs ds → DpAll K H' vs ds
  | _, _, .nil => .nil
  | _, _, .cons h a => .cons (dp_ex e h) (dpA_ex e a)
end
theorem dpA_len {K : PySem.W.Frag} {H : Hp} : ∀ {ds : List PyData} {vs : List V}, DpAll K H vs ds → vs.length = ds.length
  | _, _, .nil => rfl
  | _, _, .cons _ a => congrArg Nat.succ (dpA_len a)
theorem dpA_get {K : PySem.W.Frag} {H : Hp} : ∀ {ds : List PyData} {vs : List V}, DpAll K H vs ds → ∀ {i : Nat} {d : PyData}, ds[i]? = some d → ∃ v, vs[i]? = some v ∧ Dp K H v d
  | _, _, .nil, i, d, h => by simp at h
  | _, _, .cons h a, 0, d, e => by simp at e; subst e; exact ⟨_, rfl, h⟩
  | _, _, .cons h a, i + 1, d, e => by
    obtain ⟨v, e1, e2⟩ := dpA_get a (i := i) (d := d) (by simpa using e)
    exact ⟨v, by simpa using e1, e2⟩
theorem dpA_app {K : PySem.W.Frag} {H : Hp} : ∀ {ds es : List PyData} {vs ws : List V}, DpAll K H vs ds → DpAll K H ws es → DpAll K H (vs ++ ws) (ds ++ es)
  | _, _, _, _, .nil, b => b
  | _, _, _, _, .cons h a, b => .cons h (dpA_app a b)
theorem dpA_drop {K : PySem.W.Frag} {H : Hp} : ∀ {ds : List PyData} {vs : List V} (n : Nat), DpAll K H vs ds → DpAll K H (vs.drop n) (ds.drop n)
  | _, _, 0, a => a
  | _, _, _ + 1, .nil => .nil
  | _, _, n + 1, .cons _ a => dpA_drop n a
theorem dpA_take {K : PySem.W.Frag} {H : Hp} : ∀ {ds : List PyData} {vs : List V} (n : Nat), DpAll K H vs ds → DpAll K H (vs.take n) (ds.take n)
  | _, _, 0, _ => .nil
  | _, _, _ + 1, .nil => .nil
  | _, _, n + 1, .cons h a => .cons h (dpA_take n a)
theorem dp_tup {K : PySem.W.Frag} {H : Hp} {v : V} {ds : List PyData} (h : Dp K H v (.tuple ds)) : ∃ a xs, v = .ref a ∧ SqT K H a xs ∧ DpAll K H xs ds := by
  cases h with
  | tup h a => exact ⟨_, _, rfl, h, a⟩
theorem dp_lst {K : PySem.W.Frag} {H : Hp} {v : V} {ds : List PyData} (h : Dp K H v (.list ds)) : ∃ a xs, v = .ref a ∧ SqL K H a xs ∧ DpAll K H xs ds := by
  cases h with
  | lst h a => exact ⟨_, _, rfl, h, a⟩
theorem dp_str {K : PySem.W.Frag} {H : Hp} {v : V} {x : Str} (h : Dp K H v (.str x)) : v = .str x := by cases h; rfl
theorem dp_int {K : PySem.W.Frag} {H : Hp} {v : V} {x : Int} (h : Dp K H v (.int x)) : v = .int x := by cases h; rfl
theorem dp_non {K : PySem.W.Frag} {H : Hp} {v : V} (h : Dp K H v .none) : v = .non := by cases h; rfl
theorem exu {F H : Hp} {p : Addr} {o : HO} (e : Ex F H) (hp : H p = none) : Ex F (upd H p o) := fun a u h => by
  rw [upd_ne (ne_of_none (e a u h) hp)]
  exact e a u h
/-- what F holds stays where something that F does not hold changes -/
theorem exm {F H : Hp} {p : Addr} {o : HO} (e : Ex F H) (hp : F p = none) : Ex F (upd H p o) := Evl.Ex.mut e hp
/-- a new object, told of a heap with a name of its own -/
theorem new_of {H H1 : Hp} {p : Addr} {o : HO} (e : upd H p o = H1) (n : H p = none) : Ex H H1 ∧ H1 p = some o ∧ ∀ b, b ≠ p → H1 b = H b := by
  subst e
  exact ⟨exu (Evl.Ex.refl _) n, upd_same, fun b hb => upd_ne hb⟩
theorem set_of {H H1 : Hp} {p : Addr} {o : HO} (e : upd H p o = H1) : H1 p = some o ∧ ∀ b, b ≠ p → H1 b = H b := by
  subst e
  exact ⟨upd_same, fun b hb => upd_ne hb⟩
theorem set_ex {F H H1 : Hp} {p : Addr} (x : Ex F H) (n : F p = none) (o : ∀ b, b ≠ p → H1 b = H b) : Ex F H1 := fun b u e => by
  rw [o b (ne_of_none e n)]
  exact x b u e
theorem ex_none {F H : Hp} {p : Addr} (x : Ex F H) (n : H p = none) : F p = none := by
  cases e : F p with
  | none => rfl
  | some u => rw [x _ _ e] at n; cases n
end Fc

set_option maxRecDepth 100000
set_option maxHeartbeats 4000000
namespace FcX
open PySem PySem.Spec PyProof.Rows PySem.HandSPX
/-! ### an own exception class called with keywords -/
section
variable {M : Model} {A : Around} {E : Value → Shared → Prop} {h : Heap} {g : Array GenState} {d : Drawn} {t : Nat} {os : OsState}
variable {nm q : Str} {C N : Addr} {bs bm bmB : List Value} {hdct : Bool} {sn : List Str} {sub : List Value} {ab : Bool} {col : Option Bool} {dd : Option Addr} {k0 k1 k2 k3 k5 : Option Value} {B newId initId : String}
theorem newcheck (F : ExcBaseFacts B newId initId bmB) (hT : ∀ X : String, bm.contains (.type X) = bmB.contains (.type X)) {us : List Value} {kw : List (Str × Value)} {Q : Unit → Shared → Prop}
    (hC : h.get? C = some (excClassObj nm q C N bs bm hdct sn sub ab col dd k0 k1 k2 k3 k5 newId)) (hq : Q () ⟨h, g, d, t, os⟩) : wpAny M A (checkBuiltinCall newId ⟨.ref C :: us, kw⟩) Q E ⟨h, g, d, t, os⟩ := by
  have hb : (Value.ref C :: bm).contains (.type B) = true := by rw [List.contains_cons, hT, F.hasB, Bool.or_true]
  have ns := F.noStar
  simp only [checkBuiltinCall, F.newKind, F.newSplit, F.newRow]
  repeat (first | refine wpAny_loadPart_at hC ?_ | (refine wpAny_isSubtype_exc hC ?_; rw [hb]) | refine wpAny_staticBase_exc hC ?_ | refine wpAny_madeBy_exc hC ?_ | simp only [bne_self_eq_false, Bool.false_eq_true, if_false] | wp_step)
  exact hq
end
section
variable {prog : Program} {w : World} {A : Around} {E : Value → Shared → Prop} {R : Result → Shared → Prop} {h : Heap} {g : Array GenState} {d : Drawn} {t : Nat} {os : OsState}
variable {nm q : Str} {C N : Addr} {bs bm bmB : List Value} {hdct : Bool} {sn : List Str} {sub : List Value} {ab : Bool} {col : Option Bool} {dd : Option Addr} {k0 k1 k2 k3 k5 : Option Value} {B newId initId : String}
theorem newK (F : ExcBaseFacts B newId initId bmB) (hT : ∀ X : String, bm.contains (.type X) = bmB.contains (.type X)) {us : List Value} {kw : List (Str × Value)}
    (hC : h.get? C = some (excClassObj nm q C N bs bm hdct sn sub ab col dd k0 k1 k2 k3 k5 newId))
    (hq : R (.ok (.ret (.ref (h.objs.size + 1)))) ⟨(h.push (W.kdv_tup us)).push (excO C h.objs.size), g, d, t, os⟩) (hz : us.length ≤ sizeLine) :
    codeAny (model prog w) A (.builtin newId ⟨.ref C :: us, kw⟩) R ⟨h, g, d, t, os⟩ := by
  have hends := F.ends
  have hcB : (Value.ref C :: bm).contains (.type B) = true := by rw [List.contains_cons, hT, F.hasB, Bool.or_true]
  have a1 : (Value.ref C :: bm).contains (.type "AttributeError") = false := by rw [List.contains_cons, hT, F.noAttr]; rfl
  have a2 : (Value.ref C :: bm).contains (.type "NameError") = false := by rw [List.contains_cons, hT, F.noName]; rfl
  refine codeAny_builtinAt F.entry ?_
  unfold Builtin.«BaseException.__new__»
  refine PySem.wpAt_bind ?_
  show PySem.wpAt _ _ _ (stack >>= _) _ _ _
  refine PySem.wpAt_bind (PySem.wpAt_stack fun p below => PySem.wpAt_of_wpAny ?_)
  wp_walk
  refine PySem.wpAt_of_wpAny ?_
  rw [F.owner]
  repeat (first | with_reducible refine wpAny_madeHere_exc F.canon hC ?_ | with_reducible refine wpAny_loadPart_at hC ?_ | (with_reducible refine wpAny_isSubtype_exc hC ?_; first | rw [hcB] | rw [a1] | rw [a2]) | wp_step)
  show R _ _
  rw [Heap.size_push]
  exact hq
theorem typeK (F : ExcBaseFacts B newId initId bmB) (hT : ∀ X : String, bm.contains (.type X) = bmB.contains (.type X)) {us : List Value} {kw : List (Str × Value)} {fI : Addr} {Q : Fin → Shared → Prop}
    (hC : h.get? C = some (excClassObj nm q C N bs bm hdct sn sub ab col dd k0 k1 k2 k3 k5 newId))
    (hi : W.Looks (model prog w) h (typeLookup (.ref C) "__init__") (some (.ref fI))) (hb : ∀ self, W.Looks (model prog w) h (bindSpecial (.ref fI) self) (.ref fI, [self])) (hz : us.length ≤ sizeLine)
    (hq : codeAny (model prog w) A (.call (.ref fI) ⟨.ref (h.objs.size + 1) :: us, kw⟩)
      (fun r s' => match r with | .ok (.ret v) => v = .none ∧ Q (.done (.ret (.ref (h.objs.size + 1)))) s' | .ok _ => False | .error e => E e s')
      ⟨(h.push (W.kdv_tup us)).push (excO C h.objs.size), g, d, t, os⟩) :
    wpAny (model prog w) A (Builtin.«type.__call__» ⟨.ref C :: us, kw⟩) Q E ⟨h, g, d, t, os⟩ := by
  repeat (first | with_reducible refine wpAny_loadPart_at hC ?_ | with_reducible refine wpAny_madeBy_exc hC ?_ | wp_step)
  refine codeAny_call_builtin_code (Code.quiet_builtin _ F.quiet) (newcheck F hT hC ?_)
  refine newK F hT hC ?_ hz
  show wpAny _ _ _ _ _ _
  have kp : ∀ b o, h.get? b = some o → ((h.push (W.kdv_tup us)).push (excO C h.objs.size)).get? b = some o := fun b o e => Heap.get?_push_of_some _ (Heap.get?_push_of_some _ e)
  have hC' := kp _ _ hC
  have he : ((h.push (W.kdv_tup us)).push (excO C h.objs.size)).get? (h.objs.size + 1) = some (excO C h.objs.size) := by heap_get
  have cc : (Value.ref C :: bm).contains (.ref C) = true := by simp
  have i1 := hi.keeps kp
  have b1 := (hb (.ref (h.objs.size + 1))).keeps kp
  unfold isInstance
  repeat (first | with_reducible refine wpAny_loadPart_at he ?_ | (with_reducible refine wpAny_isSubtype_exc hC' ?_; rw [cc]) | wp_step)
  show wpAny _ _ (typeLookup (.ref C) _) _ _ _
  refine i1.at ?_
  refine wpAny_holding (wpAny_bind (b1.at ?_))
  refine wpAny_bind (wpAny_call (codeAny_mono hq fun r s' z => ?_))
  rcases r with e | (v | _ | _ | _) <;> first | exact z | exact z.elim | skip
  obtain ⟨rfl, z⟩ := z
  first
    | exact wpAny_pure (wpAny_pure z)
    | (wp_walk; exact z)
theorem callK (F : ExcBaseFacts B newId initId bmB) (hT : ∀ X : String, bm.contains (.type X) = bmB.contains (.type X)) {us : List Value} {kw : List (Str × Value)} {fI : Addr}
    (hC : h.get? C = some (excClassObj nm q C N bs bm hdct sn sub ab col dd k0 k1 k2 k3 k5 newId))
    (hi : W.Looks (model prog w) h (typeLookup (.ref C) "__init__") (some (.ref fI))) (hb : ∀ self, W.Looks (model prog w) h (bindSpecial (.ref fI) self) (.ref fI, [self])) (hz : us.length ≤ sizeLine)
    (hq : codeAny (model prog w) (A.under (.builtin "type.__call__" ⟨.ref C :: us, kw⟩)) (.call (.ref fI) ⟨.ref (h.objs.size + 1) :: us, kw⟩) (W.InitBack (h.objs.size + 1) R)
      ⟨(h.push (W.kdv_tup us)).push (excO C h.objs.size), g, d, t, os⟩) :
    codeAny (model prog w) A (.call (.ref C) ⟨us, kw⟩) R ⟨h, g, d, t, os⟩ := by
  have f1 := tc_lookup
  have f2 := tc_bind (.ref C)
  have hy : (⟨h, g, d, t, os⟩ : Shared).TypeIs (.ref C) "type" := ⟨_, hC, rfl⟩
  refine codeAny_of_tree ?_
  show wpAny _ _ (callAny (.ref C) _) _ _ _
  repeat (any_goals (first | assumption | with_reducible refine wpAny_loadPart_at hC ?_ | wp_step))
  refine ⟨rfl, ?_⟩
  refine codeAny_call_builtin_at (Code.quiet_builtin _ (by decide +kernel)) entry_typeCall (wpAny_check_type_call_sub hC (typeK F hT hC hi hb hz ?_))
  refine codeAny_mono hq fun r s' z => ?_
  rcases r with e | (v | _ | _ | _) <;> exact z
end
end FcX

set_option maxRecDepth 100000
set_option maxHeartbeats 4000000
namespace FcX
open PySem PySem.Spec PyProof.Rows L2 FcR
/-! ### own exception classes over ArithmeticError -/
abbrev aeT : List Value := [.type "ArithmeticError", .type "Exception", .type "BaseException", .type "object"]
structure XC (K : PySem.W.Frag) (C : Addr) : Prop where
  ini : PySem.W.excInitIn K C aeT "ArithmeticError.__new__" = true
  over : PySem.W.excOver K C aeT = true
  sa : PySem.W.findIn K (.ref C) "__setattr__" = some (some (.builtin "object.__setattr__"))
  ga : PySem.W.findIn K (.ref C) "__getattribute__" = some (some (.builtin "BaseException.__getattribute__"))
  gt : PySem.W.findIn K (.ref C) "__getattr__" = some none
  ex : PySem.W.subIn K (.ref C) (.type "BaseException") = some true
  ty : PySem.W.typeIn K (.ref C) = some (.type "type")
  kp : PySem.W.keepIn K (.ref C) = true
  hd : PySem.W.hasDictIn K C = true
  cl : PySem.W.findIn K (.ref C) "__class__" = some (some (.builtin "object.__class__"))
  cg : PySem.W.specialIn K (.builtin "object.__class__") "__get__" = some (some (.builtin "getset_descriptor.__get__"))
  ct : PySem.W.takesIn K (.builtin "object.__class__") = some true
  mo : PySem.W.mroIn K C (.type "object") = some true
def xcB (K : PySem.W.Frag) (C : Addr) : Bool := PySem.W.excInitIn K C aeT "ArithmeticError.__new__" && (PySem.W.excOver K C aeT && (
  decide (PySem.W.findIn K (.ref C) "__setattr__" = some (some (.builtin "object.__setattr__"))) && (decide (PySem.W.findIn K (.ref C) "__getattribute__" = some (some (.builtin "BaseException.__getattribute__"))) && (
  decide (PySem.W.findIn K (.ref C) "__getattr__" = some none) && (decide (PySem.W.subIn K (.ref C) (.type "BaseException") = some true) && (decide (PySem.W.typeIn K (.ref C) = some (.type "type")) && (PySem.W.keepIn K (.ref C) && (PySem.W.hasDictIn K C && (
  decide (PySem.W.findIn K (.ref C) "__class__" = some (some (.builtin "object.__class__"))) && (decide (PySem.W.specialIn K (.builtin "object.__class__") "__get__" = some (some (.builtin "getset_descriptor.__get__"))) && (
  decide (PySem.W.takesIn K (.builtin "object.__class__") = some true) && decide (PySem.W.mroIn K C (.type "object") = some true))))))))))))
theorem xcB_ok {K : PySem.W.Frag} {C : Addr} (h : xcB K C = true) : XC K C := by
  unfold xcB at h
  simp only [Bool.and_eq_true, decide_eq_true_eq] at h
  obtain ⟨h1, h2, h3, h4, h5, h6, h7, h8, h9, h10, h11, h12, h13⟩ := h
  exact ⟨h1, h2, h3, h4, h5, h6, h7, h8, h9, h10, h11, h12, h13⟩
/-- its __init__, and the field f that it stores -/
structure XI (K : PySem.W.Frag) (C fI : Addr) (f : Str) : Prop where
  ini : PySem.W.findIn K (.ref C) "__init__" = some (some (.ref fI))
  fn : PySem.W.typeIn K (.ref fI) = some (.type "function")
  tk : PySem.W.takerIn K C f = some none
  no : PySem.W.findIn K (.ref C) f = some none
def xiB (K : PySem.W.Frag) (C fI : Addr) (f : Str) : Bool := decide (PySem.W.findIn K (.ref C) "__init__" = some (some (.ref fI))) && (decide (PySem.W.typeIn K (.ref fI) = some (.type "function")) && (decide (PySem.W.takerIn K C f = some none) && decide (PySem.W.findIn K (.ref C) f = some none)))
theorem xiB_ok {K : PySem.W.Frag} {C fI : Addr} {f : Str} (h : xiB K C fI f = true) : XI K C fI f := by
  unfold xiB at h
  simp only [Bool.and_eq_true, decide_eq_true_eq] at h
  obtain ⟨h1, h2, h3, h4⟩ := h
  exact ⟨h1, h2, h3, h4⟩
section
variable {X : Cx} {pins : List (Addr × Obj)} {σ : L2.St} {H : Hp} {s : Shared} {a C fI : Addr} {f : Str} {y : V} {u : Value} {A : Around} {E : Value → Shared → Prop}
/-- the first field of an exception that is being made -/
theorem xst {Q : Unit → Shared → Prop} (T : XC X.K C) (ht : PySem.W.takerIn X.K C f = some none) (I : Inv X pins σ H s) (e : H a = some (exo a C none)) (ry : RelV y u)
    (h : ∀ dx s', H dx = none → dx ≠ a → Inv X pins σ (upd (upd H dx (exd dx [(f, y)])) a (exo a C (some dx))) s' → Q () s') : wpAny (model X.prog X.w) A (setAttr (.ref a) f u) Q E s := by
  obtain ⟨t1, ho⟩ := exo_at I.hok e
  obtain ⟨hp, g, d, t, os⟩ := s
  obtain ⟨cd, hc, hcd⟩ := PySem.W.any_some T.hd
  have hlt := Heap.lt_size ho
  have hne : hp.objs.size ≠ a := Nat.ne_of_gt hlt
  refine PySem.W.set_plain I.kIn (ox := PySem.W.excObj C t1 none .none) (od := none) ⟨ho, rfl, rfl, trivial⟩ T.sa ?_
  refine PySem.W.osa_openX (od := none) (ox := PySem.W.excObj C t1 none .none) F.store_ArithmeticError I.kIn ⟨ho, rfl, rfl, trivial⟩ T.over ht fun b => ?_
  refine wpAny_bind (wpAny_pure (wpAny_bind (PySem.W.instanceDict_exc (c2 := .none) ho (PySem.W.looks_clsIn I.kIn hc) hcd ?_)))
  show wpAny _ _ (Builtin.ObjectAttr.storeInDict hp.objs.size _ f u) _ _ _
  refine PySem.HandSPX.store_in_new ?_ fun h' tk' hn' sb => ?_
  · exact ⟨_, #[], _, (Heap.get?_update_ne _ _ _ _ hne).trans (Heap.get?_push_at rfl rfl), rfl, fun e he => absurd he (by simp), fun _ => rfl⟩
  · have ho1 : (hp.push (PySem.W.dictOf [] 0)).get? a = some (PySem.W.excObj C t1 none .none) := Heap.get?_push_of_some _ ho
    have hx : h'.get? a = some (PySem.W.excObj C t1 (some hp.objs.size) .none) := (sb.2 a hne.symm).trans (Heap.get?_update_self _ ho1 rfl)
    have k : ∀ b o, b ≠ a → hp.get? b = some o → h'.get? b = some o := fun b o hb q =>
      (sb.2 b (Nat.ne_of_lt (Heap.lt_size q))).trans ((Heap.get?_update_ne _ _ _ _ hb).trans (Heap.get?_push_of_some _ q))
    have hnd : H hp.objs.size = none := I.hok.fresh (Nat.le_refl _)
    have nd : ∀ {b : Addr} {o : Obj}, hp.get? b = some o → b ≠ hp.objs.size := fun q => Nat.ne_of_lt (Heap.lt_size q)
    have na : ∀ {b : Addr}, H b = none → b ≠ a := fun n z => by rw [z, e] at n; cases n
    have U : Un X.fs [] H (upd (upd H hp.objs.size (exd hp.objs.size [(f, y)])) a (exo a C (some hp.objs.size))) hp h' := {
      keep := fun b o q n _ _ => k b o (na n) q
      slot := fun b o q n _ _ => ⟨o.slots, k b o (na n) q⟩
      free := fun b o q n _ => by rw [upd_ne (na n), upd_ne (nd q)]; exact n
      there := fun b o q _ => by
        by_cases hb : b = a
        · exact ⟨_, by rw [hb]; exact hx⟩
        · exact ⟨o, k b o hb q⟩
      tups := fun b xs q => by rw [upd_ne (at_ne e q exo_tup), upd_ne (ne_of_none q hnd)]; exact q
      frzs := fun b o v q => by rw [upd_ne (at_ne e q exo_frz), upd_ne (ne_of_none q hnd)]; exact q
      tbls := fun b ps q => ⟨#[], by rw [upd_ne (at_ne e q exo_tbl), upd_ne (ne_of_none q hnd), q]; simp⟩ }
    refine h hp.objs.size _ hnd hne (I.un (t' := tk') U fun b o q => ?_)
    by_cases hb : b = a
    · subst hb
      rw [upd_same] at q
      cases q
      exact exo_ok hx
    · rw [upd_ne hb] at q
      by_cases hd : b = hp.objs.size
      · subst hd
        rw [upd_same] at q
        cases q
        exact exd_ok hn' (relO_put (fs := []) ry fun g => True.intro)
      · rw [upd_ne hd] at q
        refine (I.hok b o q).stay (fun c v hc z => k c v ?_ z) (fun c hc => ?_) (fun c xs hc => ?_)
        · rcases hc with hc | hc
          · rw [hc]
            exact hb
          · exact at_ne e hc exo_own
        · rw [upd_ne (at_ne e hc exo_own), upd_ne (ne_of_none hc hnd)]
          exact hc
        · rw [upd_ne (at_ne e hc exo_tup), upd_ne (ne_of_none hc hnd)]
          exact hc
end
/-- self.f = e, in the __init__ of such a class -/
def tXst (K : PySem.W.Frag) (f : Str) (to te : TE) : TS := fun D σ H => te σ H fun y H1 => to σ H1 fun x H2 => ∃ a C : Addr, x = .ref a ∧ XC K C ∧ PySem.W.takerIn K C f = some none ∧ H2 a = some (exo a C none) ∧
  ∀ dx, H2 dx = none → dx ≠ a → D.nx σ (upd (upd H2 dx (exd dx [(f, y)])) a (exo a C (some dx)))
theorem ps_xst {X : Cx} {o e : Expr} {to te : TE} {f : Str} {p pos : Pos} (ho : PE X o to) (he : PE X e te) (hs : swapsWith e (some (.Attribute o f p)) pos.line X.env = pure false := by rfl) : PS X (.Assign [.Attribute o f p] e pos) (tXst X.K f to te) := by
  refine ⟨fun pins s σ H D I h => ?_⟩
  refine plainObj_wpAny_Assign_Attribute (thn (he.run pins s σ H _ I h) fun v s1 ⟨y, H1, I1, r1, q1⟩ => thn (ho.run pins s1 σ H1 _ I1 q1) fun u s2 ⟨x, H2, I2, r2, a, C, ex, T, ht, ea, q⟩ => ?_) hs
  subst ex
  obtain rfl : u = Value.ref a := r2
  exact xst T ht I2 ea r1 fun dx s' n ne J => ⟨σ, _, J, q dx n ne⟩
/-- what such an __init__ promises -/
def spX (K : PySem.W.Frag) (C : Addr) (f : Str) : Sp := fun vs H Q _ => ∃ (a : Addr) (y : V), vs = [.ref a, y] ∧ H a = some (exo a C none) ∧ ∀ dx, H dx = none → dx ≠ a → Q .non (upd (upd H dx (exd dx [(f, y)])) a (exo a C (some dx)))
/-- a made exception as a value -/
def XV (H : Hp) (C : Addr) (f : Str) (y : V) (a : Addr) : Prop := ∃ d, H a = some (exo a C (some d)) ∧ H d = some (exd d [(f, y)])
def tMkX (C : Addr) (f : Str) (ta : TA) : TE := fun σ H Q => ta σ H fun vs H1 => ∃ y, vs = [y] ∧ ∀ (a : Addr) (H2 : Hp), Evl.Ex H1 H2 → H1 a = none → XV H2 C f y a → Q (.ref a) H2
theorem XV.ex {H H' : Hp} {C : Addr} {f : Str} {y : V} {a : Addr} (h : XV H C f y a) (e : Evl.Ex H H') : XV H' C f y a := by
  obtain ⟨d, h1, h2⟩ := h
  exact ⟨d, e _ _ h1, e _ _ h2⟩
theorem mk_ex {H : Hp} {C a dx : Addr} {f : Str} {y : V} (h1 : H a = none) (h2 : H dx = none) (h3 : dx ≠ a) : Evl.Ex H (upd (upd (upd H a (exo a C none)) dx (exd dx [(f, y)])) a (exo a C (some dx))) ∧ XV (upd (upd (upd H a (exo a C none)) dx (exd dx [(f, y)])) a (exo a C (some dx))) C f y a := by
  refine ⟨fun b o e => ?_, dx, upd_same, by rw [upd_ne h3, upd_same]⟩
  rw [upd_ne (ne_of_none e h1), upd_ne (ne_of_none e h2), upd_ne (ne_of_none e h1)]
  exact e
section
variable {X : Cx} {CX : CXT} {k : Nat} {C fI : Addr} {fd : FuncData} {f n x : Str} {p pos kpos : Pos} {e : Expr} {es : List Expr} {ta : TA} {te : TE}
theorem run_mkX {pins : List (Addr × Obj)} {σ : L2.St} {H : Hp} {s : Shared} {Q : VK} {us : List Value} {kw : List (Str × Value)} {v : Value} {y : V} (T : XC X.K C) (N : XI X.K C fI f) (G : FnOk X.prog X.w X.K X.mg X.base CX k fI fd ["self", n] (spX X.K C f)) (hr : Room (k + 1) X.A)
    (hb : ∀ (s : Shared) (o : Value), X.K.In s.heap → BindsTo s fd ⟨o :: us, kw⟩ [("self", o), (n, v)]) (hz : us.length ≤ 1000) (hx : Passes CX X (fun _ _ _ => False)) (I : Inv X pins σ H s) (r : RelV y v)
    (q : ∀ (a : Addr) (H2 : Hp), Evl.Ex H H2 → H a = none → XV H2 C f y a → Q (.ref a) H2) :
    wpAny (model X.prog X.w) X.A (call (.ref C) us kw) (EP X pins σ Q) X.xe s := by
  obtain ⟨hp, g, dr, tk, os⟩ := s
  obtain ⟨nm, N', qn, bs, bm, hdct, sn, sub, ab, col, dd, k0, k1, k2, k3, k5, hC, hT⟩ := PySem.W.excInit_of I.kIn T.ini
  have hsz : hp.objs.size ≤ hp.objs.size + 1 := Nat.le_succ _
  have hn : H (hp.objs.size + 1) = none := I.hok.fresh hsz
  have kk : ∀ b o, hp.get? b = some o → ((hp.push (PySem.W.kdv_tup us)).push (PySem.HandSPX.excO C hp.objs.size)).get? b = some o := fun b o e => Heap.get?_push_of_some _ (Heap.get?_push_of_some _ e)
  have hget : ((hp.push (PySem.W.kdv_tup us)).push (PySem.HandSPX.excO C hp.objs.size)).get? (hp.objs.size + 1) = some (PySem.HandSPX.excO C hp.objs.size) := by heap_get
  have I2 : Inv X pins σ (upd H (hp.objs.size + 1) (exo (hp.objs.size + 1) C none)) ⟨(hp.push (PySem.W.kdv_tup us)).push (PySem.HandSPX.excO C hp.objs.size), g, dr, tk, os⟩ :=
    I.laid (t' := tk) (a := hp.objs.size + 1) (o := exo (hp.objs.size + 1) C none) (h' := (hp.push (PySem.W.kdv_tup us)).push (PySem.HandSPX.excO C hp.objs.size)) kk hsz (exo_ok hget)
  have hq : spX X.K C f [.ref (hp.objs.size + 1), y] (upd H (hp.objs.size + 1) (exo (hp.objs.size + 1) C none)) (fun z H2 => z = .non ∧ Q (.ref (hp.objs.size + 1)) H2) (fun _ _ _ => False) :=
    ⟨hp.objs.size + 1, y, rfl, upd_same, fun dx h1 h2 => ⟨rfl, by
      obtain ⟨z1, z2⟩ := mk_ex (C := C) (f := f) (y := y) hn (by rw [upd_ne h2] at h1; exact h1) h2
      exact q (hp.objs.size + 1) _ z1 hn z2⟩⟩
  have hus : us.length ≤ sizeLine := by
    rw [sizeLine_eq]
    omega
  refine wpAny_call (callK F.excBase_ArithmeticError hT hC (PySem.W.looks_findIn I.kIn N.ini) (fun self => PySem.W.bind_fn I.kIn self N.fn) hus
    (codeAny_mono (G.run _ X.stack _ _ ⟨Value.ref (hp.objs.size + 1) :: us, kw⟩ [Value.ref (hp.objs.size + 1), v] [V.ref (hp.objs.size + 1), y] _ (fun _ _ _ => False) (hr.make C us kw) (I2.env0.make C us kw) (hb _ _ I2.kIn) (.cons (show RelV (V.ref (hp.objs.size + 1)) (Value.ref (hp.objs.size + 1)) from rfl) (.cons r .nil)) hq) fun r s' hq' => ?_))
  cases r with
  | error er => exact hx pins σ _ _ er s' I2 hq'
  | ok fl =>
    cases fl with
    | ret z =>
      obtain ⟨v3, H3, I3, rv, ev, q3⟩ := I2.after hq'
      subst ev
      exact ⟨rv, ⟨V.ref (hp.objs.size + 1), H3, I3, rfl, q3⟩⟩
    | next => exact False.elim hq'
    | brk => exact False.elim hq'
    | cont => exact False.elim hq'
/-- C(e) -/
theorem pe_mkX (T : XC X.K C) (N : XI X.K C fI f) (G : FnOk X.prog X.w X.K X.mg X.base CX k fI fd ["self", n] (spX X.K C f)) (hr : Room (k + 1) X.A) (hb : Binds X.K fd ["self", n] []) (hx : Passes CX X (fun _ _ _ => False)) (hg : Gl X x) (hm : X.mg x = some (.ref C)) (ha : PE X e te)
    (hdb : (x == ("__debug__" : Str)) = false := by decide) (he : starEach [e] X.env = (false, eval e X.env) :: starEach [] X.env := by rfl) : PE X (.Call (.Name x p) [e] [] pos) (tMkX C f (tCons te tNil)) := by
  refine ⟨fun pins s σ H Q I h => ?_⟩
  refine wpAny_Call_Name_kw (ld_glob I hg hm ?_ hdb)
  refine PySem.W.callWith_K (h₀ := X.base) I.ok.mod.kin T.kp (thn ((pa_cons (hs := he) ha pa_nil).run pos pins s σ H _ I h) fun us s1 ⟨vs, H1, I1, r1, y, ev, q⟩ => ⟨I1.kIn, ?_⟩) he (by rfl)
  subst ev
  cases r1 with
  | @cons _ v _ _ r1 r2 =>
    cases r2
    exact run_mkX (kw := []) T N G hr (fun s o hk => hb s [o, v] hk rfl) (show 1 ≤ 1000 by decide) hx I1 r1 q
/-- C(n = e) -/
theorem pe_mkXK (T : XC X.K C) (N : XI X.K C fI f) (G : FnOk X.prog X.w X.K X.mg X.base CX k fI fd ["self", n] (spX X.K C f)) (hr : Room (k + 1) X.A) (hb : ∀ (s : Shared) (o v : Value), X.K.In s.heap → BindsTo s fd ⟨[o], [(n, v)]⟩ [("self", o), (n, v)]) (hx : Passes CX X (fun _ _ _ => False)) (hg : Gl X x) (hm : X.mg x = some (.ref C)) (ha : PE X e te)
    (hdb : (x == ("__debug__" : Str)) = false := by decide) : PE X (.Call (.Name x p) [] [⟨some n, e, kpos⟩] pos) (tMkX C f (tCons te tNil)) := by
  refine ⟨fun pins s σ H Q I h => ?_⟩
  refine wpAny_Call_Name_kw (ld_glob I hg hm ?_ hdb)
  refine PySem.W.callWith_KW0 (h₀ := X.base) I.ok.mod.kin T.kp rfl (thn ((pk_cons ha pk_nil).run pos pins s σ H _ I h) fun us s1 ⟨vs, H1, I1, r1, y, ev, q⟩ => ⟨I1.kIn, ?_⟩)
  subst ev
  cases r1 with
  | @cons _ v _ _ r1 r2 =>
    cases r2
    exact run_mkX (us := []) (kw := [(n, v)]) T N G hr (fun s o hk => hb s o v hk) (by decide) hx I1 r1 q
/-- e.f -/
def tXfv (K : PySem.W.Frag) (f : Str) (te : TE) : TE := fun σ H Q => te σ H fun x H1 => ∃ (a C : Addr) (y : V), x = .ref a ∧ XC K C ∧ PySem.W.findIn K (.ref C) f = some none ∧ XV H1 C f y a ∧ Q y H1
theorem pe_xfv (ha : PE X e te) (hb : attributeBase e f X.env (eval e X.env) = eval e X.env := by rfl) : PE X (.Attribute e f pos) (tXfv X.K f te) := by
  refine ⟨fun pins s σ H Q I h => ?_⟩
  refine attr_of hb (thn (ha.run pins s σ H _ I h) fun u s1 ⟨x, H1, I1, rx, a, C, y, ex, T, hno, ⟨d, ea, ed⟩, q⟩ => ?_)
  subst ex
  obtain rfl : u = Value.ref a := rx
  obtain ⟨t1, ho⟩ := exo_at I1.hok ea
  obtain ⟨mA, hns, hr⟩ := exd_at I1.hok ed
  obtain ⟨od, hod, hl⟩ := lookIn_ns hns
  obtain ⟨z, hz, rz⟩ := RelO.some_of (v := y) (o := mA f) (by
    have w := hr f
    rw [lookup_put, if_pos rfl] at w
    exact w)
  have J : PySem.W.InstAt s1.heap a (PySem.W.excObj C t1 (some d) .none) C (some od) := ⟨ho, rfl, rfl, hod⟩
  exact HandSPX.exc_get I1.kIn J T.ga T.gt T.ex (PySem.W.findObj_own T.hd hno rfl (by rw [hl, hz])) (handed_of rz) ⟨y, H1, I1.tok _, rz, q⟩
/-- an exception object: its class is told -/
def XO (H : Hp) (C a : Addr) : Prop := (∃ d fs, H a = some (exo a C (some d)) ∧ H d = some (exd d fs)) ∨ H a = some (exo a C none)
theorem xo_kit {pins : List (Addr × Obj)} {σ : L2.St} {H : Hp} {s : Shared} {a : Addr} (T : XC X.K C) (I : Inv X pins σ H s) (h : XO H C a) : ∃ P : Heap → Prop, PySem.W.KitX X.K (.ref a) (.ref C) P ∧ P s.heap := by
  have hc : (PySem.W.clsIn X.K C).isSome = true := by
    obtain ⟨cd, hc, _⟩ := PySem.W.any_some T.hd
    rw [hc]
    rfl
  rcases h with ⟨d, fs, ea, ed⟩ | ea
  · obtain ⟨t1, ho⟩ := exo_at I.hok ea
    obtain ⟨mA, hns, _⟩ := exd_at I.hok ed
    obtain ⟨od, hod, _⟩ := lookIn_ns hns
    exact ⟨_, PySem.W.kitx_exc (ox := PySem.W.excObj C t1 (some d) .none) (od := some od) hc T.ga T.gt T.ex T.cl T.cg T.ct T.mo, ⟨ho, rfl, rfl, hod⟩⟩
  · obtain ⟨t1, ho⟩ := exo_at I.hok ea
    exact ⟨_, PySem.W.kitx_exc (ox := PySem.W.excObj C t1 none .none) (od := none) hc T.ga T.gt T.ex T.cl T.cg T.ct T.mo, ⟨ho, rfl, rfl, trivial⟩⟩
/-- isinstance(e, c) -/
def rIsX (K : PySem.W.Frag) : List V → Hp → VK → Prop := fun xs H Q => ∃ (a C : Addr) (c : V) (u : Value) (b : Bool), xs = [.ref a, c] ∧ ClsV c u ∧ XC K C ∧ XO H C a ∧ PySem.W.kitOne K (.ref C) u = some b ∧ Q (.bl b) H
theorem call_isX : CallR X (.builtin "isinstance") (rIsX X.K) := by
  intro pins s σ H xs us Q I r h
  obtain ⟨a, C, c, u, b, rfl, k, T, xo, e, q⟩ := h
  obtain ⟨u1, u2, rfl, r1, r2⟩ := vals2 r
  have e2 := k.eq r2
  subst e2
  obtain rfl : u1 = Value.ref a := r1
  obtain ⟨P, Z, p⟩ := xo_kit T I xo
  exact PySem.W.kia_one Z I.kIn p e (fun z => nomatch z) fun tk => ⟨.bl b, H, I.tok tk, rfl, q⟩
/-- isinstance(e, (c, ..)) -/
def rIsXT (K : PySem.W.Frag) : List V → Hp → VK → Prop := fun xs H Q => ∃ (a C tp : Addr) (cs : List V) (us : List Value) (b : Bool), xs = [.ref a, .ref tp] ∧ H tp = some (.tup cs) ∧ Paired ClsV cs us ∧ XC K C ∧ XO H C a ∧ PySem.W.kitAny K (.ref C) us = some b ∧ Q (.bl b) H
theorem call_isXT : CallR X (.builtin "isinstance") (rIsXT X.K) := by
  intro pins s σ H xs us Q I r h
  obtain ⟨a, C, tp, cs, vs, b, rfl, htp, k, T, xo, e, q⟩ := h
  obtain ⟨u1, u2, rfl, r1, r2⟩ := vals2 r
  obtain rfl : u1 = Value.ref a := r1
  obtain rfl : u2 = Value.ref tp := r2
  obtain ⟨P, Z, p⟩ := xo_kit T I xo
  obtain ⟨hz, ws, rw', o, ho, hc, n, hd⟩ := (show ObjOk X.prog X.w H s.heap tp (.tup cs) from I.hok tp _ htp)
  have e3 := ClsV.all k rw'
  subst e3
  obtain ⟨oc, od, oda, osl⟩ := o
  dsimp only at hc hd
  subst hc hd
  exact PySem.W.kia_tup Z I.kIn p ho e (fun z => nomatch z) fun tk => ⟨.bl b, H, I.tok tk, rfl, q⟩
/-- C(), no __init__ of its own -/
theorem pe_exc0 (hC : PySem.W.excIn X.K C aeT "ArithmeticError.__new__" = true) (kC : PySem.W.keepIn X.K (.ref C) = true) (hg : Gl X x) (hm : X.mg x = some (.ref C)) (hdb : (x == ("__debug__" : Str)) = false := by decide) :
    PE X (.Call (.Name x p) [] [] pos) (fun σ H Q => ∀ a, H a = none → Q (.ref a) (upd H a (exo a C none))) := by
  refine ⟨fun pins s σ H Q I h => ?_⟩
  refine wpAny_Call_Name_kw (ld_glob I hg hm ?_ hdb)
  refine PySem.W.callWith_K0 I.kIn kC ?_
  obtain ⟨bm, N, nm, qn, bs, hdct, sn, sub, ab, col, dd, k0, k1, k2, k3, k5, mN, h1, h2, h3, h4⟩ := exc_obj I.kIn hC
  refine wpAny_call_exc_subT F.excBase_ArithmeticError h4 h1 h2 h3 (fun h' a hm => ?_) (Nat.zero_le _)
  have hn : H a = none := I.hok.gone hm.new
  obtain ⟨t, ht, _, _⟩ := hm.there
  exact ⟨.ref a, upd H a (exo a C none), I.laidN hm.keeps hm.new hn (exo_ok ht), rfl, h a hn⟩
/-- f(k = v, ..), keywords alone: g puts them in the parameters' order -/
def tCallW (sp : Sp) (g : List V → List V) (n : Nat) (E : XK) (tk : TA) : TE := fun σ H Q => tk σ H fun zs H1 => zs.length = n ∧ sp (g zs) H1 Q E
theorem pe_callW {ps ks : List Str} {sp : Sp} {E : XK} {g : List Value → List Value} {gV : List V → List V} {kws : List Keyword} {tk : TA} {fI : Addr} (G : FnOk X.prog X.w X.K X.mg X.base CX k fI fd ps sp) (hr : Room k X.A) (hg : Gl X x) (hm : X.mg x = some (.ref fI)) (hk : PySem.W.keepIn X.K (.ref fI) = true)
    (hb : ∀ (s : Shared) (ws : List Value), ws.length = ks.length → BindsTo s fd ⟨[], ks.zip ws⟩ (ps.zip (g ws))) (hrel : ∀ {zs : List V} {ws : List Value}, Vals zs ws → zs.length = ks.length → Vals (gV zs) (g ws)) (hx : Passes CX X E) (hkw : PK X kws tk)
    (hall : (backToKw pos (keywordEach kws X.env)).all (·.1.isSome) = true := by rfl) (hks : (backToKw pos (keywordEach kws X.env)).filterMap (·.1) = ks := by rfl) (hdb : (x == ("__debug__" : Str)) = false := by decide)
    (hpl : ((backTo pos (starEach [] X.env)).any (·.1) || (backToKw pos (keywordEach kws X.env)).any (·.1.isNone)) = false := by rfl) :
    PE X (.Call (.Name x p) [] kws pos) (tCallW sp gV ks.length E tk) := by
  refine ⟨fun pins s σ H Q I h => ?_⟩
  refine wpAny_Call_Name_kw (ld_glob I hg hm ?_ hdb)
  refine PySem.W.callWith_KW0 (h₀ := X.base) I.ok.mod.kin hk hall (thn (hkw.run pos pins s σ H _ I h) fun ws s1 ⟨zs, H1, I1, r, l, q⟩ => ⟨I1.kIn, ?_⟩) hpl
  rw [hks]
  refine wpAny_call (codeAny_mono (G.run X.A X.stack s1 H1 ⟨[], ks.zip ws⟩ (g ws) (gV zs) Q E hr I1.env0 (hb s1 ws (r.length.symm.trans l)) (hrel r l) q) fun r s' hq => ?_)
  cases r with
  | error e => exact hx pins σ H1 s1 e s' I1 hq
  | ok fl =>
    cases fl with
    | ret u => exact I1.after hq
    | next => exact False.elim hq
    | brk => exact False.elim hq
    | cont => exact False.elim hq
end
/-- a binding of a def without defaults -/
theorem bindsX {K : PySem.W.Frag} {x qual : Str} {params : Arguments} {body : List Stmt} {scope : Scope} {kws : List (Str × V)} {f : Addr} {fd : FuncData} {args : Args} {binds : List (Str × Value)} (F : FunD K x qual params body scope [] kws f fd)
    (h : ∀ (kV doc pm : Value) (an : Option Addr) (cdv ct : Value), bindArgs (PySem.W.fnOf x qual params body scope .none kV doc pm an cdv ct) args = pure binds) (s : Shared) : BindsTo s fd args binds := by
  obtain ⟨oc, od, dV, kV, doc, pm, an, cdv, ct, osl, rfl, lk, hcd, hD, hK⟩ := F.ex
  rcases hD with ⟨_, rfl⟩ | ⟨e, _⟩
  · exact .of_eq (h kV doc pm an cdv ct)
  · exact absurd rfl e
/-- isinstance between the classes of the package, and against built-in ones -/
def xkB (K : PySem.W.Frag) (ns : List Str) : Bool := ns.all fun c => ns.all (fun d => decide (PySem.W.kitOne K (.ref (He.ga K c)) (.ref (He.ga K d)) = some (c == d || d == "CopyError"))) &&
  (decide (PySem.W.kitOne K (.ref (He.ga K c)) (.type "ArithmeticError") = some true) && decide (PySem.W.kitAny K (.ref (He.ga K c)) [.type "ValueError", .type "TypeError", .type "LookupError"] = some false))
theorem xk_own {K : PySem.W.Frag} {ns : List Str} (h : xkB K ns = true) {c d : Str} (hc : c ∈ ns) (hd : d ∈ ns) : PySem.W.kitOne K (.ref (He.ga K c)) (.ref (He.ga K d)) = some (c == d || d == "CopyError") := by
  have z := List.all_eq_true.mp h c hc
  simp only [Bool.and_eq_true, List.all_eq_true, decide_eq_true_eq] at z
  exact z.1 d hd
theorem xk_ae {K : PySem.W.Frag} {ns : List Str} (h : xkB K ns = true) {c : Str} (hc : c ∈ ns) : PySem.W.kitOne K (.ref (He.ga K c)) (.type "ArithmeticError") = some true := by
  have z := List.all_eq_true.mp h c hc
  simp only [Bool.and_eq_true, List.all_eq_true, decide_eq_true_eq] at z
  exact z.2.1
theorem xk_no {K : PySem.W.Frag} {ns : List Str} (h : xkB K ns = true) {c : Str} (hc : c ∈ ns) : PySem.W.kitAny K (.ref (He.ga K c)) [.type "ValueError", .type "TypeError", .type "LookupError"] = some false := by
  have z := List.all_eq_true.mp h c hc
  simp only [Bool.and_eq_true, List.all_eq_true, decide_eq_true_eq] at z
  exact z.2.2
end FcX

set_option maxRecDepth 100000
set_option maxHeartbeats 4000000
namespace Fc
open PySem PySem.Spec PyProof.Rows L2 FcR
open Evl (Ex)
/-- len of a list or tuple, within a comprehension -/
abbrev rLenK (K : PySem.W.Frag) : List V → Hp → VK → Prop := fun xs H Q => ∃ p ys, xs = [V.ref p] ∧ (SqL K H p ys ∨ SqT K H p ys) ∧ Q (V.int (ys.length : Int)) H
/-! ### a part of H as F -/
def frz (F H : Hp) (L : List Addr) : Hp := fun b => if b ∈ L then H b else F b
theorem frz_in {F H : Hp} {L : List Addr} {b : Addr} (h : b ∈ L) : frz F H L b = H b := if_pos h
theorem frz_out {F H : Hp} {L : List Addr} {b : Addr} (h : b ∉ L) : frz F H L b = F b := if_neg h
theorem frz_ex {F H : Hp} {L : List Addr} (h : ∀ b ∈ L, F b = none) : Ex F (frz F H L) := fun b o e => by
  rw [frz_out (fun z => by rw [h b z] at e; cases e)]
  exact e
theorem frz_le {F H : Hp} {L : List Addr} (e : Ex F H) : Ex (frz F H L) H := fun b o h => by
  by_cases z : b ∈ L
  · rw [frz_in z] at h; exact h
  · rw [frz_out z] at h; exact e b o h
/-- what grows: F to F', H to H', where M alone of what H tracked may change -/
structure Gr (M : Addr → Prop) (F H F' H' : Hp) : Prop where
  ff : Ex F F'
  fh : Ex F' H'
  nw : ∀ b, H b ≠ none → F b = none → ¬ M b → F' b = none
  kp : ∀ b o, H b = some o → ¬ M b → H' b = some o
theorem Gr.refl {M : Addr → Prop} {F H : Hp} (x : Ex F H) : Gr M F H F H := ⟨Evl.Ex.refl _, x, fun _ _ e _ => e, fun _ _ e _ => e⟩
theorem Gr.trans {M : Addr → Prop} {F H F1 H1 F2 H2 : Hp} (a : Gr M F H F1 H1) (b : Gr M F1 H1 F2 H2) : Gr M F H F2 H2 :=
  ⟨a.ff.trans b.ff, b.fh, fun c h1 h2 h3 => b.nw c (fun z => by
    cases e : H c with
    | none => exact h1 e
    | some o => rw [a.kp c o e h3] at z; cases z) (a.nw c h1 h2 h3) h3, fun c o e h => b.kp c o (a.kp c o e h) h⟩
theorem Gr.new {M : Addr → Prop} {F H H1 : Hp} (x : Ex F H) (e : Ex H H1) : Gr M F H F H1 := ⟨Evl.Ex.refl _, x.trans e, fun _ _ h _ => h, fun b o h _ => e b o h⟩
theorem Gr.set {M : Addr → Prop} {F H H1 : Hp} {p : Addr} (x : Ex F H) (hp : M p) (hf : F p = none) (o : ∀ b, b ≠ p → H1 b = H b) : Gr M F H F H1 :=
  ⟨Evl.Ex.refl _, set_ex x hf o, fun _ _ h _ => h, fun b u e hb => by rw [o b (fun z => hb (z ▸ hp))]; exact e⟩
theorem Gr.frz {M : Addr → Prop} {F H H1 : Hp} {p : Addr} {u : HO} (x : Ex F H) (n : H p = none) (s : H1 p = some u) (o : ∀ b, b ≠ p → H1 b = H b) : Gr M F H (upd F p u) H1 := by
  refine ⟨exu (Evl.Ex.refl _) (ex_none x n), fun b w e => ?_, fun b h1 h2 _ => ?_, fun b w e _ => ?_⟩
  · by_cases z : b = p
    · rw [z, upd_same] at e
      cases e
      rw [z]
      exact s
    · rw [upd_ne z] at e
      rw [o b z]
      exact x b w e
  · rw [upd_ne (fun z => h1 (by rw [z]; exact n))]
    exact h2
  · rw [o b (ne_of_none e n)]
    exact e
theorem Gr.mono {M M' : Addr → Prop} {F H F' H' : Hp} (g : Gr M F H F' H') (h : ∀ b, M b → M' b) : Gr M' F H F' H' :=
  ⟨g.ff, g.fh, fun b h1 h2 h3 => g.nw b h1 h2 fun z => h3 (h b z), fun b o e hb => g.kp b o e fun z => hb (h b z)⟩
/-- what is not M keeps what H held -/
theorem Gr.ex {F H F' H' : Hp} (g : Gr (fun _ => False) F H F' H') : Ex H H' := fun b o e => g.kp b o e id
/-- what a call changes of what is new does not count -/
theorem Gr.hide {M M' : Addr → Prop} {F H F1 H1 F2 H2 : Hp} (a : Gr M F H F1 H1) (b : Gr M' F1 H1 F2 H2) (h : ∀ x, M' x → H x = none ∨ M x) : Gr M F H F2 H2 := by
  have hn : ∀ x, H x ≠ none → ¬ M x → ¬ M' x := fun x h1 h2 h3 => (h x h3).elim h1 h2
  refine ⟨a.ff.trans b.ff, b.fh, fun x h1 h2 h3 => b.nw x (fun z => ?_) (a.nw x h1 h2 h3) (hn x h1 h3), fun x o e h1 => b.kp x o (a.kp x o e h1) (hn x (by rw [e]; exact fun z => nomatch z) h1)⟩
  cases e : H x with
  | none => exact h1 e
  | some o => rw [a.kp x o e h3] at z; cases z
theorem Gr.frzAt {M : Addr → Prop} {F H F1 H1 : Hp} {p : Addr} {o : HO} (g : Gr M F H F1 H1) (hp : H p = none) (h1 : H1 p = some o) (hf : F1 p = none) : Gr M F H (upd F1 p o) H1 := by
  refine ⟨exu g.ff hf, fun b u e => ?_, fun b a1 a2 a3 => ?_, g.kp⟩
  · by_cases z : b = p
    · rw [z, upd_same] at e; cases e; rw [z]; exact h1
    · rw [upd_ne z] at e; exact g.fh b u e
  · rw [upd_ne (fun z => a1 (by rw [z]; exact hp))]
    exact g.nw b a1 a2 a3
/-! ### a region R of new objects that still change, beside F, within H' -/
structure Rg (M : Addr → Prop) (F0 H F R H' : Hp) : Prop where
  g : Gr M F0 H F H'
  rh : Ex R H'
  dj : ∀ b o, R b = some o → F b = none
  rn : ∀ b o, R b = some o → H b = none ∧ ¬ M b
def hp0 : Hp := fun _ => none
theorem hp0_at (b : Addr) : hp0 b = none := rfl
section
variable {M : Addr → Prop} {F0 H F R H' : Hp}
theorem Rg.start (g : Gr M F0 H F H') : Rg M F0 H F hp0 H' := ⟨g, fun b o e => (by cases e), fun b o e => (by cases e), fun b o e => (by cases e)⟩
/-- a new address is new to all -/
theorem Rg.fresh (x : Rg M F0 H F R H') {p : Addr} (n : H' p = none) : F p = none ∧ R p = none ∧ (¬ M p → H p = none) := by
  refine ⟨ex_none x.g.fh n, ex_none x.rh n, fun hm => ?_⟩
  cases e : H p with
  | none => rfl
  | some o => rw [x.g.kp p o e hm] at n; cases n
/-- new, neither frozen nor in the region (rubbish) -/
theorem Rg.junk (x : Rg M F0 H F R H') {H1 : Hp} (e : Ex H' H1) : Rg M F0 H F R H1 := ⟨x.g.trans (Gr.new x.g.fh e), x.rh.trans e, x.dj, x.rn⟩
theorem Rg.newR (x : Rg M F0 H F R H') {H1 : Hp} {p : Addr} {o : HO} (hm : ¬ M p) (n : H' p = none) (s : H1 p = some o) (e : ∀ b, b ≠ p → H1 b = H' b) : Rg M F0 H F (upd R p o) H1 := by
  obtain ⟨f1, f2, f3⟩ := x.fresh n
  have ex : Ex H' H1 := fun b u h => by rw [e b (ne_of_none h n)]; exact h
  refine ⟨x.g.trans (Gr.new x.g.fh ex), fun b u h => ?_, fun b u h => ?_, fun b u h => ?_⟩
  all_goals by_cases z : b = p
  · rw [z, upd_same] at h; cases h; rw [z]; exact s
  · rw [upd_ne z] at h; rw [e b z]; exact x.rh b u h
  · rw [z]; exact f1
  · rw [upd_ne z] at h; exact x.dj b u h
  · rw [z]; exact ⟨f3 hm, hm⟩
  · rw [upd_ne z] at h; exact x.rn b u h
theorem Rg.newF (x : Rg M F0 H F R H') {H1 : Hp} {p : Addr} {o : HO} (n : H' p = none) (s : H1 p = some o) (e : ∀ b, b ≠ p → H1 b = H' b) : Rg M F0 H (upd F p o) R H1 := by
  obtain ⟨f1, f2, f3⟩ := x.fresh n
  have ex : Ex H' H1 := fun b u h => by rw [e b (ne_of_none h n)]; exact h
  refine ⟨x.g.trans (Gr.frz x.g.fh n s e), x.rh.trans ex, fun b u h => ?_, x.rn⟩
  rw [upd_ne (ne_of_none h f2)]
  exact x.dj b u h
theorem Rg.setR (x : Rg M F0 H F R H') {H1 : Hp} {p : Addr} {o u0 : HO} (hp : R p = some u0) (s : H1 p = some o) (e : ∀ b, b ≠ p → H1 b = H' b) : Rg M F0 H F (upd R p o) H1 := by
  obtain ⟨r1, r2⟩ := x.rn p u0 hp
  refine ⟨⟨x.g.ff, fun b u h => ?_, x.g.nw, fun b u h hb => ?_⟩, fun b u h => ?_, fun b u h => ?_, fun b u h => ?_⟩
  · have z : b ≠ p := fun z => by rw [z, x.dj p u0 hp] at h; cases h
    rw [e b z]; exact x.g.fh b u h
  · have z : b ≠ p := fun z => by rw [z, r1] at h; cases h
    rw [e b z]; exact x.g.kp b u h hb
  all_goals by_cases z : b = p
  · rw [z, upd_same] at h; cases h; rw [z]; exact s
  · rw [upd_ne z] at h; rw [e b z]; exact x.rh b u h
  · rw [z]; exact x.dj p u0 hp
  · rw [upd_ne z] at h; exact x.dj b u h
  · rw [z]; exact ⟨r1, r2⟩
  · rw [upd_ne z] at h; exact x.rn b u h
/-- something of M is stored -/
theorem Rg.setM (x : Rg M F0 H F R H') {H1 : Hp} {p : Addr} (hp : M p) (hf : F p = none) (e : ∀ b, b ≠ p → H1 b = H' b) : Rg M F0 H F R H1 := by
  refine ⟨x.g.trans (Gr.set x.g.fh hp hf e), fun b u h => ?_, x.dj, x.rn⟩
  rw [e b (fun z => (x.rn b u h).2 (z ▸ hp))]
  exact x.rh b u h
/-- a call that changes nothing of the region -/
theorem Rg.call {M' : Addr → Prop} {F2 H2 : Hp} (x : Rg M F0 H F R H') (c : Gr M' F H' F2 H2) (hM : ∀ b, M' b → M b) : Rg M F0 H F2 R H2 := by
  refine ⟨x.g.trans (c.mono hM), fun b o h => c.kp b o (x.rh b o h) fun z => (x.rn b o h).2 (hM b z), fun b o h => ?_, x.rn⟩
  exact c.nw b (by rw [x.rh b o h]; exact fun z => nomatch z) (x.dj b o h) fun z => (x.rn b o h).2 (hM b z)
/-- a call that may change M' of the region R1, the rest R staying -/
theorem Rg.only (x : Rg M F0 H F R H') {R' : Hp} (e : Ex R' R) : Rg M F0 H F R' H' := ⟨x.g, e.trans x.rh, fun b o h => x.dj b o (e b o h), fun b o h => x.rn b o (e b o h)⟩
/-- F with R -/
def joinH (F R : Hp) : Hp := fun b => match R b with
  | some o => some o
  | none => F b
theorem joinH_r {b : Addr} {o : HO} (h : R b = some o) : joinH F R b = some o := by unfold joinH; rw [h]
theorem joinH_f (dj : ∀ b o, R b = some o → F b = none) : Ex F (joinH F R) := fun b o h => by
  unfold joinH
  cases e : R b with
  | none => exact h
  | some u => rw [dj b u e] at h; cases h
theorem joinH_ex : Ex R (joinH F R) := fun b o h => joinH_r h
/-- the region is done: it is frozen -/
theorem Rg.done (x : Rg M F0 H F R H') : Gr M F0 H (joinH F R) H' := by
  refine ⟨x.g.ff.trans (joinH_f x.dj), fun b o h => ?_, fun b h1 h2 h3 => ?_, x.g.kp⟩
  · unfold joinH at h
    cases e : R b with
    | none => rw [e] at h; exact x.g.fh b o h
    | some u => rw [e] at h; cases h; exact x.rh b _ e
  · unfold joinH
    cases e : R b with
    | none => exact x.g.nw b h1 h2 h3
    | some u => exact absurd (x.rn b u e).1 h1
/-- a part of the region is frozen -/
theorem Rg.part (x : Rg M F0 H F R H') {R1 R2 : Hp} (e1 : Ex R1 R) (e2 : Ex R2 R) (d : ∀ b o, R1 b = some o → R2 b = none) : Rg M F0 H (joinH F R2) R1 H' := by
  refine ⟨(x.only e2).done, e1.trans x.rh, fun b o h => ?_, fun b o h => x.rn b o (e1 b o h)⟩
  unfold joinH
  rw [d b o h]
  exact x.dj b o (e1 b o h)
end
end Fc

set_option maxRecDepth 100000
set_option maxHeartbeats 4000000
namespace FcO
open PySem PySem.Spec PyProof.Rows L2
/-! ### own special methods: len(o) by an own __len__ -/
section
variable {X : Cx} {CX : CXT} {C f : Addr} {fd : FuncData} {ps : List Str} {sp : Sp} {E : XK} {k : Nat}
/-- a def called somewhere below the running body -/
theorem run_sub {A : Around} (F : FnOk X.prog X.w X.K X.mg X.base CX k f fd ps sp) (sb : Sub X k A) (hb : Binds X.K fd ps []) (hx : Passes CX X E) {pins : List (Addr × Obj)} {σ : L2.St} {H : Hp} {s : Shared} {us : List Value} {vs : List V} {Q : VK} (I : Inv X pins σ H s) (r : Vals vs us) (h : sp vs H Q E) :
    wpAny (model X.prog X.w) A (call (.ref f) us) (EP X pins σ Q) X.xe s := by
  have e0 : Env0 X.prog X.w X.K X.mg X.base A X.stack s H := by
    have e := I.env0
    exact ⟨by rw [sb.fr]; exact e.frames, e.mod, e.bs, e.bsz, e.funs, e.frf, e.hok, e.bare⟩
  have hl := F.len _ _ _ _ h
  refine wpAny_call (codeAny_mono (F.run A X.stack s H ⟨us, []⟩ us vs _ E sb.room e0 (by
    have := hb s us I.kIn (by rw [List.append_nil, ← r.length]; exact hl)
    rw [List.append_nil] at this
    exact this) r h) fun r s' hq => ?_)
  cases r with
  | error e => exact hx pins σ H s e s' I hq
  | ok fl =>
    cases fl with
    | ret w => exact I.after hq
    | next => exact False.elim hq
    | brk => exact False.elim hq
    | cont => exact False.elim hq
/-- callSpecial? of an instance whose class has its own method -/
theorem special_own {M : Model} {A : Around} {E : Value → Shared → Prop} {s : Shared} {K : PySem.W.Frag} {x C f : Addr} {ox : Obj} {od : Option Obj} {name : Str} {args : List Value} {Q : Option Value → Shared → Prop} (X : K.In s.heap) (I : PySem.W.InstAt s.heap x ox C od) (hs : PySem.W.findIn K (.ref C) name = some (some (.ref f))) (hf : PySem.W.isFn K (.ref f) = true)
    (h : wpAny M A (call (.ref f) (.ref x :: args)) (fun v => Q (some v)) E s) : wpAny M A (callSpecial? (.ref x) name args) Q E s := by
  simp only [callSpecial?]
  refine wpAny_bind (wpAny_bind (I.type.here ((PySem.W.looks_findIn X hs).here ?_)))
  refine wpAny_holding (wpAny_bind ((PySem.W.bind_fn X _ (beq_iff_eq.mp hf)).here ?_))
  exact wpAny_bind (wpAny_mono h (fun v s' h' => wpAny_pure h') fun _ _ h' => h')
abbrev rLenO (C : Addr) (sp : Sp) (E : XK) : List V → Hp → VK → Prop := fun xs H Q => ∃ (a dx : Addr) (fs : List (Str × V)), xs = [.ref a] ∧ H a = some (.ins C dx fs) ∧ sp [.ref a] H (fun v H' => ∃ n : Nat, v = .int (n : Int) ∧ (n : Int) < 2 ^ 63 ∧ Q (.int (n : Int)) H') E
theorem call_lenO (F : FnOk X.prog X.w X.K X.mg X.base CX k f fd ps sp) (hr : Room (k + 1) X.A) (hm : Meth X.K C "__len__" f) (hb : Binds X.K fd ps []) (hx : Passes CX X E) : CallR X (.builtin "len") (rLenO C sp E) := by
  intro pins s σ H xs us Q I r h
  obtain ⟨a, dx, fs, rfl, ha, q⟩ := h
  obtain ⟨u, rfl, ru⟩ := vals1 r
  obtain rfl : u = Value.ref a := ru
  obtain ⟨mA, J, _⟩ := ins_get I.hok ha
  obtain ⟨od, J, _⟩ := J.look
  refine Calls.call_function_entry kind_len plain_len entry_len (args_len1 _) ?_
  unfold Builtin.«len»
  refine wpAny_bind (m := oneArg "len" _) (wpAny_pure ?_)
  refine wpAny_bind (m := callSpecial? (.ref a) (PySem.Str.ofString "__len__")) (special_own I.kIn J hm.at_ hm.fn (wpAny_mono (run_sub F ⟨hr.in1, rfl⟩ hb hx I r q) (fun v s1 hv => ?_) fun _ _ e => e))
  obtain ⟨z, H1, I1, rz, n, rfl, hn, q1⟩ := hv
  obtain ⟨t, rfl⟩ : ∃ t, v = Value.int (n : Int) t := rz
  refine wpAny_bind (wpAny_holding (wpAny_pure ?_))
  refine wpAny_bind (wpAny_letGo ?_)
  show wpAny _ _ (if ((n : Nat) : Int) < 0 then _ else _) _ _ _
  rw [if_neg (by omega)]
  show wpAny _ _ (if ((n : Nat) : Int) ≥ 2 ^ 63 then _ else _) _ _ _
  rw [if_neg (by omega)]
  exact wpAny_bind (wpAny_mkInt (wpAny_pure ⟨_, rfl, ⟨.int (n : Int), H1, I1.tok _, ⟨_, rfl⟩, q1⟩⟩))
end
end FcO
namespace FcO
open PySem PySem.Spec PyProof.Rows L2
/-! ### == and != by an own __eq__, both answers -/
structure EqC (K : PySem.W.Frag) (C : Addr) : Prop where
  ne : PySem.W.findIn K (.ref C) "__ne__" = some (some (.builtin "object.__ne__"))
  ha : PySem.W.findIn K (.ref C) "__class__" = some (some (.builtin "object.__class__"))
  hn : PySem.W.specialIn K (.builtin "object.__class__") "__get__" = some (some (.builtin "getset_descriptor.__get__"))
  htk : PySem.W.takesIn K (.builtin "object.__class__") = some true
  hm : PySem.W.mroIn K C (.type "object") = some true
  same : PySem.W.kitOne K (.ref C) (.ref C) = some true
  no : ∀ T ∈ (["NoneType", "bool", "int", "str", "list", "tuple", "dict"] : List String), PySem.W.kitOne K (.type T) (.ref C) = some false
def eqB (K : PySem.W.Frag) (C : Addr) : Bool :=
  (decide (PySem.W.findIn K (.ref C) "__ne__" = some (some (.builtin "object.__ne__"))) && decide (PySem.W.findIn K (.ref C) "__class__" = some (some (.builtin "object.__class__")))) &&
  ((decide (PySem.W.specialIn K (.builtin "object.__class__") "__get__" = some (some (.builtin "getset_descriptor.__get__"))) && decide (PySem.W.takesIn K (.builtin "object.__class__") = some true)) &&
  ((decide (PySem.W.mroIn K C (.type "object") = some true) && decide (PySem.W.kitOne K (.ref C) (.ref C) = some true)) &&
   ((["NoneType", "bool", "int", "str", "list", "tuple", "dict"] : List String).all fun T => decide (PySem.W.kitOne K (.type T) (.ref C) = some false))))
theorem eqB_ok {K : PySem.W.Frag} {C : Addr} (h : eqB K C = true) : EqC K C := by
  unfold eqB at h
  obtain ⟨h1, h2⟩ := Bool.and_eq_true_iff.mp h
  obtain ⟨a1, a2⟩ := Bool.and_eq_true_iff.mp h1
  obtain ⟨h3, h4⟩ := Bool.and_eq_true_iff.mp h2
  obtain ⟨a3, a4⟩ := Bool.and_eq_true_iff.mp h3
  obtain ⟨h5, h6⟩ := Bool.and_eq_true_iff.mp h4
  obtain ⟨a5, a6⟩ := Bool.and_eq_true_iff.mp h5
  exact ⟨of_decide_eq_true a1, of_decide_eq_true a2, of_decide_eq_true a3, of_decide_eq_true a4, of_decide_eq_true a5, of_decide_eq_true a6, fun T hT => of_decide_eq_true (List.all_eq_true.mp h6 T hT)⟩
section
variable {X : Cx} {CX : CXT} {C f : Addr} {fd : FuncData} {ps : List Str} {sp : Sp} {E : XK} {k : Nat}
theorem ty_ins {K : PySem.W.Frag} {H : Hp} {a C dx : Addr} {fs : List (Str × V)} (c : Cls K C) (z : EqC K C) (h : H a = some (.ins C dx fs)) : TyX K H (.ref a) (.ref C) := .base (.ins h c z.ha z.hn z.htk z.hm)
def rEqO (K : PySem.W.Frag) (C : Addr) (sp : Sp) (E : XK) : R2 := fun x y H Q => ∃ (a dx : Addr) (fs : List (Str × V)) (tb : Value), x = .ref a ∧ H a = some (.ins C dx fs) ∧ TyX K H y tb ∧ PySem.W.notFirst K C tb = true ∧ sp [x, y] H (fun v H' => ∃ b, v = .bl b ∧ Q (.bl b) H') E
def rNeO (K : PySem.W.Frag) (C : Addr) (sp : Sp) (E : XK) : R2 := fun x y H Q => ∃ (a dx : Addr) (fs : List (Str × V)) (tb : Value), x = .ref a ∧ H a = some (.ins C dx fs) ∧ TyX K H y tb ∧ PySem.W.notFirst K C tb = true ∧ sp [x, y] H (fun v H' => ∃ b, v = .bl b ∧ Q (.bl (!b)) H') E
theorem op_eqO (F : FnOk X.prog X.w X.K X.mg X.base CX k f fd ps sp) (hr : Room k X.A) (hm : Meth X.K C "__eq__" f) (hb : Binds X.K fd ps []) (hx : Passes CX X E) : OpR X (compareOp .Eq) (rEqO X.K C sp E) := by
  intro pins s σ H x y v u Q I rx ry h
  obtain ⟨a, dx, fs, tb, rfl, ha, ty, nf, q⟩ := h
  obtain rfl : v = Value.ref a := rx
  obtain ⟨mA, J, _⟩ := ins_get I.hok ha
  obtain ⟨od, J, _⟩ := J.look
  obtain ⟨Pk, kx, pk, _⟩ := kit_of I ry ty
  obtain ⟨m, hF⟩ := I.fr
  show wpAny (model X.prog X.w) X.A (richCompare .Eq (.ref a) u) (EP X pins σ Q) X.xe s
  refine PySem.W.cmp_K (op := .Eq) (tb := tb) hr.units0 hF I.ok.mod.kin J (kx.ty _ _ I.kIn pk) nf hm.at_ hm.fn ?_
  refine wpAny_mono (run_sub F ⟨hr, rfl⟩ hb hx I (.cons (show L2.RelV (.ref a) (Value.ref a) from rfl) (.cons ry .nil)) q) (fun r s1 hv => ?_) fun _ _ e => e
  obtain ⟨z, H1, I1, rz, b, rfl, q1⟩ := hv
  cases rz
  exact ⟨.bl b, H1, I1, rfl, q1⟩
theorem op_neO (F : FnOk X.prog X.w X.K X.mg X.base CX k f fd ps sp) (hr : Room (k + 1) X.A) (hm : Meth X.K C "__eq__" f) (zc : EqC X.K C) (hb : Binds X.K fd ps []) (hx : Passes CX X E) : OpR X (compareOp .NotEq) (rNeO X.K C sp E) := by
  intro pins s σ H x y v u Q I rx ry h
  obtain ⟨a, dx, fs, tb, rfl, ha, ty, nf, q⟩ := h
  obtain rfl : v = Value.ref a := rx
  obtain ⟨mA, J, _⟩ := ins_get I.hok ha
  obtain ⟨od, J, _⟩ := J.look
  obtain ⟨Pk, kx, pk, _⟩ := kit_of I ry ty
  have hbT := kx.ty (model X.prog X.w) s.heap I.kIn pk
  have Xk := I.kIn
  have callE : wpAny (model X.prog X.w) X.A.in1 (call (.ref f) [.ref a, u]) (fun v s' => ∃ b, v = .bool b ∧ EP X pins σ Q (.bool (!b)) s') X.xe s := by
    refine wpAny_mono (run_sub F ⟨hr.in1, rfl⟩ hb hx I (.cons (show L2.RelV (.ref a) (Value.ref a) from rfl) (.cons ry .nil)) q) (fun r s1 hv => ?_) fun _ _ e => e
    obtain ⟨z, H1, I1, rz, b, rfl, q1⟩ := hv
    cases rz
    exact ⟨b, rfl, .bl (!b), H1, I1, rfl, q1⟩
  have inst : PySem.W.Looks (model X.prog X.w) s.heap (isInstance (.ref a) (.type "object")) true := J.type.andThen (PySem.W.looks_mroIn Xk zc.hm)
  have hbs : bindSpecial (.builtin "object.__ne__") (.ref a) = pure (.builtin "object.__ne__", [.ref a]) := PySem.F.cmp_object.ne.bind _
  have hu1 : X.A.in1.units < cLine := hr.in1.units0
  have callN : wpAny (model X.prog X.w) X.A (call (.builtin "object.__ne__") [.ref a, u]) (fun v s' => ∃ b, v = .bool b ∧ EP X pins σ Q (.bool b) s') X.xe s := by
    refine wpAny_call (codeAny_call_builtin PySem.F.cmp_object.ne.plain PySem.F.cmpEntry_ne (@PySem.W.check_slot (model X.prog X.w) _ _ _ "object.__ne__" "object" "__ne__" (.ref a) [u] [] _ PySem.F.cmpKind_ne PySem.F.cmpSplit_ne inst (PySem.F.cmpArgs_ne _ _) ?_))
    unfold Builtin.«object.__ne__»
    repeat (first
      | with_reducible refine wpAny_cRoomFor hu1 ?_
      | (refine wpAny_bind (m := callSpecialIfBound? (.ref a) (Str.ofString "__eq__") [u])
          (PySem.W.ifBound_K Xk J hm.at_ hm.fn (wpAny_mono callE (fun r s' hr => by
            obtain ⟨b, rfl, hq⟩ := hr
            repeat (first | exact ⟨_, rfl, hq⟩ | exact wpAny_pure ⟨_, rfl, hq⟩ | exact wpAny_truthy_bool ⟨_, rfl, hq⟩ | (refine wpAny_bind (m := truthy (.bool _)) (wpAny_truthy_bool ?_)) | wp_step)) fun _ _ e => e)))
      | wp_step)
  have one : wpAny (model X.prog X.w) X.A (tryCompare (.ref a) (cmpInfo .NotEq).2.1 u) (fun r s' => ∃ v, r = some v ∧ EP X pins σ Q v s') X.xe s := by
    unfold tryCompare
    refine wpAny_bind (m := callSpecialIfBound? (.ref a) (Str.ofString "__ne__") [u]) ?_
    simp only [callSpecialIfBound?, bindSpecialIfBound?]
    refine wpAny_holding (wpAny_bind (wpAny_bind (wpAny_bind (J.type.here ((PySem.W.looks_findIn Xk zc.ne).here ?_)))))
    simp only [hbs]
    refine wpAny_bind (wpAny_askSetting (wpAny_ite ?_))
    split
    · exact wpAny_bind (wpAny_pure (wpAny_pure (wpAny_bind (wpAny_mono callN (fun v s' h' => by
        obtain ⟨b, rfl, hq⟩ := h'
        exact wpAny_pure (wpAny_pure ⟨_, rfl, hq⟩)) fun _ _ h' => h'))))
    · exact wpAny_tryCatch (wpAny_bind (wpAny_pure (wpAny_pure (wpAny_bind (wpAny_mono callN (fun v s' h' => by
        obtain ⟨b, rfl, hq⟩ := h'
        exact wpAny_pure (wpAny_pure ⟨_, rfl, hq⟩)) fun _ _ h' => h')))))
  show wpAny (model X.prog X.w) X.A (richCompare .NotEq (.ref a) u) (EP X pins σ Q) X.xe s
  unfold richCompare
  simp only [oneThing_ref]
  refine wpAny_holding (wpAny_bind (wpAny_cRoomFor hr.units0 ?_))
  refine wpAny_bind (J.type.here (wpAny_bind (hbT.here ?_)))
  split
  · rename_i qq
    have e : PySem.W.subIn X.K tb (.ref C) = some false := by
      rcases Bool.or_eq_true_iff.mp nf with e | e
      · rw [beq_iff_eq.mp e] at qq; simp at qq
      · exact beq_iff_eq.mp e
    refine wpAny_bind ((PySem.W.looks_subIn Xk e).here ?_)
    simp only [Bool.false_eq_true, if_false]
    refine wpAny_bind (wpAny_mono one (fun r s' z => ?_) fun _ _ e => e)
    obtain ⟨v, rfl, hq⟩ := z
    exact wpAny_pure hq
  · refine wpAny_bind (wpAny_pure ?_)
    simp only [Bool.false_eq_true, if_false]
    refine wpAny_bind (wpAny_mono one (fun r s' z => ?_) fun _ _ e => e)
    obtain ⟨v, rfl, hq⟩ := z
    exact wpAny_pure hq
end
end FcO
namespace FcO
open PySem PySem.Spec PyProof.Rows L2
/-! ### C(k = v, ..): a new instance by keywords alone -/
def tMakeW (C : Addr) (sp : Sp) (g : List V → List V) (n : Nat) (E : XK) (tk : TA) : TE := fun σ H Q => tk σ H fun zs H1 => zs.length = n ∧ ∀ x dx, H1 x = none → H1 dx = none → dx ≠ x → sp (.ref x :: g zs) (upd (upd H1 dx (.own x)) x (.ins C dx [])) (fun v H3 => v = .non ∧ Q (.ref x) H3) E
section
variable {X : Cx} {CX : CXT} {C f : Addr} {fd : FuncData} {ps ks : List Str} {sp : Sp} {E : XK} {k : Nat} {x : Str} {p pos : Pos} {kws : List Keyword} {tk : TA} {g : List Value → List Value} {gV : List V → List V}
theorem pe_makeW (M : Mk X.K C f) (F : FnOk X.prog X.w X.K X.mg X.base CX k f fd ps sp) (hr : Room (k + 1) X.A) (hg : Gl X x) (hm : X.mg x = some (.ref C))
    (hb : ∀ (s : Shared) (y : Value) (ws : List Value), ws.length = ks.length → BindsTo s fd ⟨[y], ks.zip ws⟩ (ps.zip (y :: g ws))) (hrel : ∀ {zs : List V} {ws : List Value}, Vals zs ws → zs.length = ks.length → Vals (gV zs) (g ws)) (hx : Passes CX X E) (hkw : PK X kws tk)
    (hall : (backToKw pos (keywordEach kws X.env)).all (·.1.isSome) = true := by rfl) (hks : (backToKw pos (keywordEach kws X.env)).filterMap (·.1) = ks := by rfl) (hdb : (x == ("__debug__" : Str)) = false := by decide)
    (hpl : ((backTo pos (starEach [] X.env)).any (·.1) || (backToKw pos (keywordEach kws X.env)).any (·.1.isNone)) = false := by rfl) :
    PE X (.Call (.Name x p) [] kws pos) (tMakeW C sp gV ks.length E tk) := by
  refine ⟨fun pins s0 σ H0 Q I0 h0 => ?_⟩
  refine wpAny_Call_Name_kw (ld_glob I0 hg hm ?_ hdb)
  refine PySem.W.callWith_KW0 (h₀ := X.base) I0.ok.mod.kin M.kp hall (thn (hkw.run pos pins s0 σ H0 _ I0 h0) fun ws s ⟨zs, H, I, rz, l, h⟩ => ⟨I.kIn, ?_⟩) hpl
  rw [hks]
  have hq := h (s.heap.objs.size + 1) s.heap.objs.size (I.hok.fresh (Nat.le_succ _)) (I.hok.fresh (Nat.le_refl _)) (Nat.ne_of_lt (Nat.lt_succ_self _))
  have I2 := Inv.made (C := C) I
  have r2 : Vals (V.ref (s.heap.objs.size + 1) :: gV zs) (Value.ref (s.heap.objs.size + 1) :: g ws) := .cons (show L2.RelV (.ref _) (Value.ref _) from rfl) (hrel rz l)
  refine wpAny_call (make_map (f := f) I.kIn M.makes M.init (beq_iff_eq.mp M.fn) (codeAny_mono (F.run _ X.stack _ _ ⟨Value.ref (s.heap.objs.size + 1) :: [], ks.zip ws⟩ (Value.ref (s.heap.objs.size + 1) :: g ws) _ _ E (hr.make C [] (ks.zip ws))
    (I2.env0.make C [] (ks.zip ws)) (hb _ _ ws (rz.length.symm.trans l)) r2 hq) fun r s' hq' => ?_))
  cases r with
  | error e => exact hx pins σ _ _ e s' I2 hq'
  | ok fl =>
    cases fl with
    | ret u =>
      obtain ⟨v, H', I3, rv, ev, q3⟩ := I2.after hq'
      subst ev
      exact ⟨rv, ⟨V.ref (s.heap.objs.size + 1), H', I3, rfl, q3⟩⟩
    | next => exact False.elim hq'
    | brk => exact False.elim hq'
    | cont => exact False.elim hq'
end
end FcO

set_option maxRecDepth 100000
set_option maxHeartbeats 4000000
namespace FcX
open PySem PySem.Spec PyProof.Rows L2 FcR
/-! ### raise C(e), C an own class over ArithmeticError whose __init__ stores one field -/
def tMkR (C : Addr) (f : Str) (ta : TA) : L2.St → Hp → XK → Prop := fun σ H Q => ta σ H fun vs H1 => ∃ y, vs = [y] ∧ ∀ d, H1 d = none → Q (.ref C) (some d) (upd H1 d (.xd [(f, y)]))
theorem del_made {H : Hp} {a dx : Addr} {u1 u2 u3 o : HO} (h1 : H a = none) (h3 : dx ≠ a) : upd (del (upd (upd (upd H a u1) dx u2) a u3) a) dx o = upd H dx o := by
  funext b
  by_cases hb : b = dx
  · rw [hb, upd_same, upd_same]
  · rw [upd_ne hb, upd_ne hb]
    by_cases ha : b = a
    · rw [ha, del_same, h1]
    · rw [del_ne ha, upd_ne ha, upd_ne hb, upd_ne ha]
section
variable {X : Cx} {CX : CXT} {k : Nat} {C fI : Addr} {fd : FuncData} {f n x : Str} {p pos : Pos} {e : Expr} {te : TE}
theorem pmk_X (T : XC X.K C) (N : XI X.K C fI f) (G : FnOk X.prog X.w X.K X.mg X.base CX k fI fd ["self", n] (spX X.K C f)) (hr : Room (k + 1) X.A) (hb : Binds X.K fd ["self", n] []) (hx : Passes CX X (fun _ _ _ => False)) (hg : Gl X x) (hm : X.mg x = some (.ref C)) (ha : PE X e te)
    (hdb : (x == ("__debug__" : Str)) = false := by decide) (he : starEach [e] X.env = (false, eval e X.env) :: starEach [] X.env := by rfl) : PMk X (.Call (.Name x p) [e] [] pos) (tMkR C f (tCons te tNil)) := by
  intro pins s0 σ H0 Q I0 h
  refine wpAny_Call_Name_kw (ld_glob I0 hg hm ?_ hdb)
  refine PySem.W.callWith_K (h₀ := X.base) I0.ok.mod.kin T.kp (thn ((pa_cons (hs := he) ha pa_nil).run pos pins s0 σ H0 _ I0 h) fun us s1 ⟨vs, H, I, r1, y, ev, q⟩ => ⟨I.kIn, ?_⟩) he (by rfl)
  subst ev
  cases r1 with
  | @cons _ v _ _ r r2 =>
  cases r2
  show wpAny _ _ (call (.ref C) [v]) _ _ _
  obtain ⟨hp, g, dr, tk, os⟩ := s1
  obtain ⟨nm, N', qn, bs, bm, hdct, sn, sub, ab, col, dd, k0, k1, k2, k3, k5, hC, hT⟩ := PySem.W.excInit_of I.kIn T.ini
  have hsz : hp.objs.size ≤ hp.objs.size + 1 := Nat.le_succ _
  have hn : H (hp.objs.size + 1) = none := I.hok.fresh hsz
  have kk : ∀ b o, hp.get? b = some o → ((hp.push (PySem.W.kdv_tup [v])).push (PySem.HandSPX.excO C hp.objs.size)).get? b = some o := fun b o e => Heap.get?_push_of_some _ (Heap.get?_push_of_some _ e)
  have hget : ((hp.push (PySem.W.kdv_tup [v])).push (PySem.HandSPX.excO C hp.objs.size)).get? (hp.objs.size + 1) = some (PySem.HandSPX.excO C hp.objs.size) := by heap_get
  have I2 : Inv X pins σ (upd H (hp.objs.size + 1) (exo (hp.objs.size + 1) C none)) ⟨(hp.push (PySem.W.kdv_tup [v])).push (PySem.HandSPX.excO C hp.objs.size), g, dr, tk, os⟩ :=
    I.laid (t' := tk) (a := hp.objs.size + 1) (o := exo (hp.objs.size + 1) C none) (h' := (hp.push (PySem.W.kdv_tup [v])).push (PySem.HandSPX.excO C hp.objs.size)) kk hsz (exo_ok hget)
  have hq : spX X.K C f [.ref (hp.objs.size + 1), y] (upd H (hp.objs.size + 1) (exo (hp.objs.size + 1) C none)) (fun z H2 => z = .non ∧ ∃ (d : Addr) (fs : List (Str × V)), H2 (hp.objs.size + 1) = some (exo (hp.objs.size + 1) C (some d)) ∧ H2 d = some (exd d fs) ∧ H d = none ∧ Q (.ref C) (some d) (upd (del H2 (hp.objs.size + 1)) d (.xd fs))) (fun _ _ _ => False) :=
    ⟨hp.objs.size + 1, y, rfl, upd_same, fun dx h1 h2 => ⟨rfl, dx, [(f, y)], upd_same, by rw [upd_ne h2, upd_same], by rw [upd_ne h2] at h1; exact h1, by
      rw [del_made hn h2]
      exact q dx (by rw [upd_ne h2] at h1; exact h1)⟩⟩
  refine wpAny_call (callK F.excBase_ArithmeticError hT hC (PySem.W.looks_findIn I.kIn N.ini) (fun self => PySem.W.bind_fn I.kIn self N.fn) (by rw [sizeLine_eq]; show 1 ≤ _; decide)
    (codeAny_mono (G.run _ X.stack _ _ ⟨Value.ref (hp.objs.size + 1) :: [v], []⟩ [Value.ref (hp.objs.size + 1), v] [V.ref (hp.objs.size + 1), y] _ (fun _ _ _ => False) (hr.make C [v] []) (I2.env0.make C [v] []) (hb _ [Value.ref (hp.objs.size + 1), v] I2.kIn rfl) (.cons (show RelV (V.ref (hp.objs.size + 1)) (Value.ref (hp.objs.size + 1)) from rfl) (.cons r .nil)) hq) fun r s' hq' => ?_))
  cases r with
  | error er => exact hx pins σ _ _ er s' I2 hq'
  | ok fl =>
    cases fl with
    | ret u =>
      obtain ⟨v3, H2, os2, bare2, un2, hok2, rv, ev, d, fs, ea, ed, hd1, q2⟩ := hq'
      subst ev
      obtain ⟨h2, g2, d2, t2, os'⟩ := s'
      exact ⟨rv, mk_end (raises_own T.ex T.ty) I hsz kk un2 hok2 os2 bare2 ea ed hd1 q2⟩
    | next => exact False.elim hq'
    | brk => exact False.elim hq'
    | cont => exact False.elim hq'
end
end FcX

set_option maxRecDepth 100000
set_option maxHeartbeats 4000000
namespace FcX
open PySem PySem.Spec PyProof.Rows L2 FcR
/-! ### which clause takes which class -/
def xhB (K : PySem.W.Frag) (ns : List Str) : Bool := ns.all fun c => ns.all fun d => decide (PySem.W.exmOne K (.ref (He.ga K c)) (.ref (He.ga K d)) = some (c == d || d == "CopyError"))
theorem xh_own {K : PySem.W.Frag} {ns : List Str} (h : xhB K ns = true) {c d : Str} (hc : c ∈ ns) (hd : d ∈ ns) : PySem.W.exmOne K (.ref (He.ga K c)) (.ref (He.ga K d)) = some (c == d || d == "CopyError") := by
  have z := List.all_eq_true.mp h c hc
  simp only [List.all_eq_true, decide_eq_true_eq] at z
  exact z d hd
theorem XC.xf {K : PySem.W.Frag} {C : Addr} (T : XC K C) : XfC K C := ⟨T.ga, T.gt, T.ex, T.hd⟩
/-! ### several clauses, with or without a name -/
abbrev Cl := Value × Option Nat × (Addr → Value → Option Addr → TS)
def wMix (K : PySem.W.Frag) (Wout : WX) (D : Ends) : List Cl → WX
  | [] => Wout
  | (c, none, ts) :: r => fun cls d σ H => ∃ b, PySem.W.exmOne K cls c = some b ∧ (b = true → ∀ a, H a = none → ts a cls d D σ H) ∧ (b = false → wMix K Wout D r cls d σ H)
  | (c, some i, ts) :: r => fun cls d σ H => ∃ b, PySem.W.exmOne K cls c = some b ∧ (b = true → ∀ a, H a = none → ts a cls d { nx := fun σ' H' => D.nx (σ'.set i none) H', rt := D.rt, bk := fun σ' H' => D.bk (σ'.set i none) H', ct := fun σ' H' => D.ct (σ'.set i none) H' } (σ.set i (some (.ref a))) H) ∧ (b = false → wMix K Wout D r cls d σ H)
inductive HdsM (X : Cx) : List ExceptHandler → List Cl → Prop
  | nil : HdsM X [] []
  | cons {x : Str} {c : Value} {ts : Addr → Value → Option Addr → TS} {b₀ : Stmt} {suite : List Stmt} {np pos' : Pos} {hds : List ExceptHandler} {l : List Cl} (hc : Names X x c)
      (hsu : ∀ (a : Addr) (oe : Obj) (cls : Value) (d : Option Addr) (pn : List (Addr × Obj)), Zc cls d oe → (∃ vs, oe.data = .fields vs) → PSs (X.suite a ((a, oe) :: pn)) (b₀ :: suite) (ts a cls d)) (r : HdsM X hds l) :
      HdsM X (.ExceptHandler (some (.Name x np)) none (b₀ :: suite) pos' :: hds) ((c, none, ts) :: l)
  | as {x n : Str} {i : Nat} {c : Value} {ts : Addr → Value → Option Addr → TS} {b₀ : Stmt} {suite : List Stmt} {np pos' : Pos} {hds : List ExceptHandler} {l : List Cl} (hi : X.N[i]? = some n) (hln : X.env.kindOf n = some .local) (hc : Names X x c)
      (hsu : ∀ (a : Addr) (oe : Obj) (cls : Value) (d : Option Addr) (pn : List (Addr × Obj)), Zc cls d oe → (∃ vs, oe.data = .fields vs) → PSs (X.suite a ((a, oe) :: pn)) (b₀ :: suite) (ts a cls d)) (r : HdsM X hds l) :
      HdsM X (.ExceptHandler (some (.Name x np)) (some n) (b₀ :: suite) pos' :: hds) ((c, some i, ts) :: l)
section
variable {X : Cx} {body : List Stmt} {h₀ : ExceptHandler} {hds : List ExceptHandler} {l : List Cl} {pos : Pos} {tb : WX → TS} {Wout : WX}
theorem ps_try_mix (hs : X.stack = X.env :: X.outer) (hf : X.env.frame = some X.env.locals) (hN : X.N.Nodup) (tk : Takes X Wout)
    (hb : ∀ (W : WX) (pn : List (Addr × Obj)) (xe : Value → Shared → Prop), Takes (X.tr pn xe) W → PassesOwn (model X.prog X.w) X.A X.env xe → PSs (X.tr pn xe) body (tb W))
    (hh : HdsM X (h₀ :: hds) l) : PS X (.Try body (h₀ :: hds) [] [] pos) (fun D σ H => tb (wMix X.K Wout D l) D σ H) := by
  refine ⟨fun pins s σ H D I h => ?_⟩
  have ok := I.ok
  have hfr : X.A.frames = some (X.env :: X.outer) := by rw [ok.frames, hs]
  refine wpAny_Try_except ?_
  refine wpAny_mono ((hb (wMix X.K Wout D l) (X.pn ++ pins) (fun e s₁ => wpAny (model X.prog X.w) X.A (noteFrame e X.env) (fun _ s₂ => wpAny (model X.prog X.w) X.A (setFlight e none) (fun _ s₃ =>
    wpAny (model X.prog X.w) X.A (handleBy e X.env (h₀ :: hds)) (SP X pins D) X.xe s₃) X.xe s₂) X.xe s₁) (fun u s' xx => ?_) PassesOwn.looking).run [] s σ H D (I.toTry _) h) (fun f s1 hsp => ?_) (fun e s1 he => he)
  · obtain ⟨a, B, sI, pins', σ', H', cls, d, rfl, J', nb, up, sky, na, os, ag, w⟩ := xx
    have J : Inv X pins σ' H' sI := J'.ofTry ok
    have sky' : Sky B (X.env :: X.outer) a (Zc cls d) X.env.locals s'.heap := by rw [← hs]; exact sky
    show wpAny (model X.prog X.w) X.A (noteFrame (.ref a) X.env) _ _ _
    refine Sky.land Zc.steady hfr hf sky' fun h3 fl3 up3 => ?_
    have J3 : Inv X pins σ' H' { s' with heap := h3 } := J.landed nb fl3.1 (up.trans up3) os ag
    obtain ⟨oe3, vs3, he3, hz3, hd3⟩ := fl3.there
    have notFr : ∀ {h : Heap} {o : Obj} {vs : Array Value}, h.FunFrames B (X.env :: X.outer) → h.get? a = some o → o.data = .fields vs → a ∉ frs (X.env :: X.outer) := fun {h o vs} ff e dd hm => by
      obtain ⟨_, o', e', hnf⟩ := ff.mem hm
      rw [e] at e'; cases e'
      exact hnf _ dd
    have nfr := notFr fl3.2.2.1 he3 hd3
    have nL : a ≠ X.env.locals := fun z => nfr (List.mem_filterMap.mpr ⟨X.env, List.mem_cons_self, by rw [hf, z]⟩)
    have nF : a ∉ X.fs := fun hm => by
      obtain ⟨e, he, q⟩ := List.mem_filterMap.mp hm
      exact nfr (List.mem_filterMap.mpr ⟨e, List.mem_cons_of_mem _ he, q⟩)
    have S3 := J3.suite he3 hd3 na nL nF
    have LT : PySem.W.Looks (model X.prog X.w) h3 (typeOf (.ref a)) cls := fun A Q E s k q => wpAny_typeOf_ref (k _ _ he3) (by rw [hz3.1]; exact q)
    have test : ∀ {x : Str} {c : Value} {np : Pos} {Q : Value → Shared → Prop} {E : Value → Shared → Prop}, Names X x c → Q c { s' with heap := h3 } → wpAny (model X.prog X.w) (X.A.mark (some (.ref a))) (eval (.Name x np) X.env) Q E { s' with heap := h3 } := fun {x c np Q E} hc q => by
      obtain ⟨hg, hdbg, hm | ⟨hm, hv, hnn⟩⟩ := hc
      · exact ld_glob (X := X.suite a ((a, oe3) :: (X.pn ++ pins))) S3 hg hm q hdbg
      · exact ld_blt (X := X.suite a ((a, oe3) :: (X.pn ++ pins))) S3 hg hm hv q hnn hdbg
    have go : ∀ {hds' : List ExceptHandler} {l' : List Cl}, HdsM X hds' l' → wMix X.K Wout D l' cls d σ' H' →
        wpAny (model X.prog X.w) X.A (handleBy (.ref a) X.env hds') (SP X pins D) X.xe { s' with heap := h3 } := by
      intro hds' l' hk
      induction hk with
      | nil =>
        intro w
        refine wpAny_handleBy_nil ?_
        obtain ⟨k1, k2, k3, oe, vs, T, oT, ts', he, hz, hd, h1, hr⟩ := id fl3
        unfold PySem.passOn
        refine wpAny_bind (wpAny_field he hd h1 ?_)
        rw [if_neg (show ¬ ((Value.ref T == Value.none) = true) from by simp)]
        have fin : wpAny (model X.prog X.w) X.A (setFlight (.ref a) X.env.frame) (fun _ s4 => wpAny (model X.prog X.w) X.A (throw (.ref a) : Sem Flow) (SP X pins D) X.xe s4) X.xe { s' with heap := h3 } := by
          rw [hf]
          refine HandSPX.setFlight_upZ fl3 fun h4 hh4 up4 => wpAny_throw (tk _ _ ?_)
          exact ⟨a, B, sI, pins, σ', H', cls, d, rfl, J, nb, (up.trans up3).trans up4, .inr (.inr (by rw [hs]; exact hh4)), na, os, ag, w⟩
        first
          | exact wpAny_bind (wpAny_pure (wpAny_bind fin))
          | exact wpAny_bind fin
      | @cons x c ts b₀ suite np pos' hds2 l2 hc hsu r ih =>
        intro w
        obtain ⟨b, hb1, hyes, hno⟩ := w
        refine wpAny_handleBy_cons (codeAny_handlers_test ?_) (by intro q; cases q)
        have LM := PySem.W.exm_one (M := model X.prog X.w) (J3.kIn) LT hb1
        refine test hc (LM.here ?_)
        cases b with
        | true =>
          refine codeAny_handlers_suite ?_
          refine HandSPX.lands_againZ fl3 fun h4 fl4 up4 => ?_
          have J4 : Inv X pins σ' H' { s' with heap := h4 } := J.landed nb fl4.1 ((up.trans up3).trans up4) os ag
          obtain ⟨oe4, vs4, he4, hz4, hd4⟩ := fl4.there
          have S4 := J4.suite he4 hd4 na nL nF
          refine wpAny_mono ((hsu a oe4 cls d (X.pn ++ pins) hz4 ⟨_, hd4⟩).run [] _ _ H' _ S4 (hyes rfl a na)) (fun f s6 hsp => ?_) (fun _ _ z => False.elim z)
          cases f with
          | next =>
            obtain ⟨σ6, H6, S6, q6⟩ := hsp
            exact ⟨_, _, S6.unsuite ok, q6⟩
          | brk =>
            obtain ⟨σ6, H6, S6, q6⟩ := hsp
            exact ⟨_, _, S6.unsuite ok, q6⟩
          | cont =>
            obtain ⟨σ6, H6, S6, q6⟩ := hsp
            exact ⟨_, _, S6.unsuite ok, q6⟩
          | ret u =>
            obtain ⟨v6, σ6, H6, S6, r6, q6⟩ := hsp
            exact ⟨_, _, _, S6.unsuite ok, r6, q6⟩
        | false =>
          show wpAny _ X.A (handleBy (.ref a) X.env hds2) _ _ _
          exact ih (hno rfl)
      | @as x n i c ts b₀ suite np pos' hds2 l2 hi hln hc hsu r ih =>
        intro w
        obtain ⟨b, hb1, hyes, hno⟩ := w
        have hloc : Loc X.env.scope n := .inl hln
        refine wpAny_handleBy_cons (codeAny_handlers_test ?_) (by intro q; cases q)
        have LM := PySem.W.exm_one (M := model X.prog X.w) (J3.kIn) LT hb1
        refine test hc (LM.here ?_)
        cases b with
        | true =>
          refine codeAny_handlers_suite_as ?_
          refine HandSPX.lands_againZ fl3 fun h4 fl4 up4 => ?_
          have J4 : Inv X pins σ' H' { s' with heap := h4 } := J.landed nb fl4.1 ((up.trans up3).trans up4) os ag
          obtain ⟨oe4, vs4, he4, hz4, hd4⟩ := fl4.there
          have S4 := J4.suite he4 hd4 na nL nF
          refine store_ok (X := X.suite a ((a, oe4) :: (X.pn ++ pins))) (v := .ref a) S4 hN hi hloc rfl (fun s5 S5 => ?_) (.inr hln)
          refine wpAny_mono ((hsu a oe4 cls d (X.pn ++ pins) hz4 ⟨_, hd4⟩).run [] s5 _ H' _ S5 (hyes rfl a na)) (fun f s6 hsp => ?_) (fun _ _ z => False.elim z)
          have end_ : ∀ {σ6 : L2.St} {H6 : Hp} {Q : Shared → Prop}, Inv (X.suite a ((a, oe4) :: (X.pn ++ pins))) [] σ6 H6 s6 → (∀ s7, Inv X pins (σ6.set i none) H6 s7 → Q s7) →
              wpAny (model X.prog X.w) X.A (do bindName X.env n .none; unbindBehindTheSuite X.env n pos') (fun _ s7 => Q s7) X.xe s6 := fun {σ6 H6 Q} S6 hq => gone_ok (S6.unsuite ok) hN hi hln hq
          cases f with
          | next =>
            obtain ⟨σ6, H6, S6, q6⟩ := hsp
            exact end_ S6 fun s7 J7 => ⟨_, _, J7, q6⟩
          | brk =>
            obtain ⟨σ6, H6, S6, q6⟩ := hsp
            exact end_ S6 fun s7 J7 => ⟨_, _, J7, q6⟩
          | cont =>
            obtain ⟨σ6, H6, S6, q6⟩ := hsp
            exact end_ S6 fun s7 J7 => ⟨_, _, J7, q6⟩
          | ret u =>
            obtain ⟨v6, σ6, H6, S6, r6, q6⟩ := hsp
            exact end_ S6 fun s7 J7 => ⟨_, _, _, J7, r6, q6⟩
        | false =>
          show wpAny _ X.A (handleBy (.ref a) X.env hds2) _ _ _
          exact ih (hno rfl)
    exact go hh w
  · cases f with
    | next =>
      obtain ⟨σ', H', J', q⟩ := hsp
      exact wpAny_execs_nil ⟨σ', H', J'.ofTry ok, q⟩
    | brk =>
      obtain ⟨σ', H', J', q⟩ := hsp
      exact ⟨σ', H', J'.ofTry ok, q⟩
    | cont =>
      obtain ⟨σ', H', J', q⟩ := hsp
      exact ⟨σ', H', J'.ofTry ok, q⟩
    | ret u =>
      obtain ⟨v, σ', H', J', r, q⟩ := hsp
      exact ⟨v, σ', H', J'.ofTry ok, r, q⟩
end
/-! ### calls that may raise, in a try -/
/-- of several defs that the slot may hold -/
structure HeldX (P : Program) (w : World) (K : PySem.W.Frag) (mg : Str → Option Value) (base : Heap) (k : Nat) (f : Addr) (sp : Sp) : Prop where
  ex : ∃ (fd : FuncData) (ps : List Str), FnOk P w K mg base (L2.CX P w) k f fd ps sp ∧ PySem.W.keepIn K (.ref f) = true ∧ Binds K fd ps []
def tCallAX (i : Nat) (S : Addr → Sp → Prop) (W : WX) (t : TA) : TE := fun σ H Q => ∃ f sp, σ[i]? = some (some (.ref f)) ∧ S f sp ∧ t σ H fun vs H1 => sp vs H1 Q (WE W σ)
section
variable {X : Cx} {k i : Nat} {x : Str} {p pos : Pos} {e : Expr} {es : List Expr} {t : TA} {W : WX}
theorem pe_callAX {S : Addr → Sp → Prop} (A : ∀ f sp, S f sp → HeldX X.prog X.w X.K X.mg X.base k f sp) (hr : Room k X.A) (hN : X.N[i]? = some x) (hv : Vis X.env.scope x) (tk : Takes X W) (ha : PA X (e :: es) t)
    (hdb : (x == ("__debug__" : Str)) = false := by decide) (hcd : (x == ("__classdict__" : Str)) = false := by decide)
    (he : starEach (e :: es) X.env = (false, eval e X.env) :: starEach es X.env := by rfl) (hpl : (backTo pos (starEach es X.env)).any (·.1) = false := by rfl) : PE X (.Call (.Name x p) (e :: es) [] pos) (tCallAX i S W t) := by
  refine ⟨fun pins s σ H Q I h => ?_⟩
  obtain ⟨f, sp, hs, hS, ht⟩ := h
  obtain ⟨fd, ps, F, hk, hb⟩ := (A f sp hS).ex
  refine wpAny_Call_Name_kw (thn ((pe_var (pos := p) hN hv hdb hcd).run pins s σ H (fun v H1 => v = .ref f ∧ H1 = H) I ⟨.ref f, hs, rfl, rfl⟩) fun u s1 ⟨v, H1, I1, r1, q1⟩ => ?_)
  obtain ⟨rfl, rfl⟩ := q1
  cases r1
  refine PySem.W.callWith_K (h₀ := X.base) I.ok.mod.kin hk (thn (ha.run pos pins s1 σ _ _ I1 ht) fun us s2 ⟨vs, H2, I2, r, q⟩ => ⟨I2.kIn, ?_⟩) he hpl
  exact run_fnS F hr hb (passAt tk σ) I2 r q
end
end FcX

set_option maxRecDepth 100000
set_option maxHeartbeats 0

namespace Fc
open PySem PySem.Spec PyProof.Rows L2
def topS (i : Nat) : Stmt := PySem.Challenge.pw_finallycopies_k04_limits_of_code.main.body.getD i (.Pass ⟨0, 0, 0, 0⟩)
abbrev sd_wall : Stmt := topS 0
def d_wall : He.DefD := ⟨("_wall", none), "_wall", "_wall", defArgs sd_wall, defBody sd_wall, defScope sd_wall, [], []⟩
abbrev sd_InvalidCode___init__ : Stmt := inClass (topS 3) 0
def d_InvalidCode___init__ : He.DefD := ⟨("InvalidCode", some "__init__"), "__init__", "InvalidCode.__init__", defArgs sd_InvalidCode___init__, defBody sd_InvalidCode___init__, defScope sd_InvalidCode___init__, [], []⟩
abbrev sd_InvalidNumber___init__ : Stmt := inClass (topS 4) 0
def d_InvalidNumber___init__ : He.DefD := ⟨("InvalidNumber", some "__init__"), "__init__", "InvalidNumber.__init__", defArgs sd_InvalidNumber___init__, defBody sd_InvalidNumber___init__, defScope sd_InvalidNumber___init__, [], []⟩
abbrev sd_LimitExceeded___init__ : Stmt := inClass (topS 5) 0
def d_LimitExceeded___init__ : He.DefD := ⟨("LimitExceeded", some "__init__"), "__init__", "LimitExceeded.__init__", defArgs sd_LimitExceeded___init__, defBody sd_LimitExceeded___init__, defScope sd_LimitExceeded___init__, [], []⟩
abbrev sd_is_integer : Stmt := topS 7
def d_is_integer : He.DefD := ⟨("is_integer", none), "is_integer", "is_integer", defArgs sd_is_integer, defBody sd_is_integer, defScope sd_is_integer, [], []⟩
abbrev sd_is_between : Stmt := topS 8
def d_is_between : He.DefD := ⟨("is_between", none), "is_between", "is_between", defArgs sd_is_between, defBody sd_is_between, defScope sd_is_between, [], []⟩
abbrev sd_is_name : Stmt := topS 18
def d_is_name : He.DefD := ⟨("is_name", none), "is_name", "is_name", defArgs sd_is_name, defBody sd_is_name, defScope sd_is_name, [], []⟩
abbrev sd_is_statement : Stmt := topS 19
def d_is_statement : He.DefD := ⟨("is_statement", none), "is_statement", "is_statement", defArgs sd_is_statement, defBody sd_is_statement, defScope sd_is_statement, [], []⟩
abbrev sd_parts_in : Stmt := topS 20
def d_parts_in : He.DefD := ⟨("parts_in", none), "parts_in", "parts_in", defArgs sd_parts_in, defBody sd_parts_in, defScope sd_parts_in, [], []⟩
abbrev sd_Code___init__ : Stmt := inClass (topS 21) 0
def d_Code___init__ : He.DefD := ⟨("Code", some "__init__"), "__init__", "Code.__init__", defArgs sd_Code___init__, defBody sd_Code___init__, defScope sd_Code___init__, [], []⟩
abbrev sd_Code_check : Stmt := inClass (topS 21) 1
def d_Code_check : He.DefD := ⟨("Code", some "check"), "check", "Code.check", defArgs sd_Code_check, defBody sd_Code_check, defScope sd_Code_check, [], []⟩
abbrev sd_Code_keep : Stmt := inClass (topS 21) 2
def d_Code_keep : He.DefD := ⟨("Code", some "keep"), "keep", "Code.keep", defArgs sd_Code_keep, defBody sd_Code_keep, defScope sd_Code_keep, [], []⟩
abbrev sd_Code___eq__ : Stmt := inClass (topS 21) 3
def d_Code___eq__ : He.DefD := ⟨("Code", some "__eq__"), "__eq__", "Code.__eq__", defArgs sd_Code___eq__, defBody sd_Code___eq__, defScope sd_Code___eq__, [], []⟩
abbrev sd_Code___len__ : Stmt := inClass (topS 21) 4
def d_Code___len__ : He.DefD := ⟨("Code", some "__len__"), "__len__", "Code.__len__", defArgs sd_Code___len__, defBody sd_Code___len__, defScope sd_Code___len__, [], []⟩
abbrev sd_Code___getitem__ : Stmt := inClass (topS 21) 5
def d_Code___getitem__ : He.DefD := ⟨("Code", some "__getitem__"), "__getitem__", "Code.__getitem__", defArgs sd_Code___getitem__, defBody sd_Code___getitem__, defScope sd_Code___getitem__, [], []⟩
abbrev sd_Code___iter__ : Stmt := inClass (topS 21) 6
def d_Code___iter__ : He.DefD := ⟨("Code", some "__iter__"), "__iter__", "Code.__iter__", defArgs sd_Code___iter__, defBody sd_Code___iter__, defScope sd_Code___iter__, [], []⟩
abbrev sd_Code_check_number : Stmt := inClass (topS 21) 7
def d_Code_check_number : He.DefD := ⟨("Code", some "check_number"), "check_number", "Code.check_number", defArgs sd_Code_check_number, defBody sd_Code_check_number, defScope sd_Code_check_number, [], []⟩
abbrev sd_Code_is_place : Stmt := inClass (topS 21) 8
def d_Code_is_place : He.DefD := ⟨("Code", some "is_place"), "is_place", "Code.is_place", defArgs sd_Code_is_place, defBody sd_Code_is_place, defScope sd_Code_is_place, [], []⟩
abbrev sd_Code_check_place : Stmt := inClass (topS 21) 9
def d_Code_check_place : He.DefD := ⟨("Code", some "check_place"), "check_place", "Code.check_place", defArgs sd_Code_check_place, defBody sd_Code_check_place, defScope sd_Code_check_place, [], []⟩
abbrev sd_Code_kind : Stmt := inClass (topS 21) 10
def d_Code_kind : He.DefD := ⟨("Code", some "kind"), "kind", "Code.kind", defArgs sd_Code_kind, defBody sd_Code_kind, defScope sd_Code_kind, [], []⟩
abbrev sd_Code_parent : Stmt := inClass (topS 21) 11
def d_Code_parent : He.DefD := ⟨("Code", some "parent"), "parent", "Code.parent", defArgs sd_Code_parent, defBody sd_Code_parent, defScope sd_Code_parent, [], []⟩
abbrev sd_Code_parts : Stmt := inClass (topS 21) 12
def d_Code_parts : He.DefD := ⟨("Code", some "parts"), "parts", "Code.parts", defArgs sd_Code_parts, defBody sd_Code_parts, defScope sd_Code_parts, [], []⟩
abbrev sd_Code_places : Stmt := inClass (topS 21) 13
def d_Code_places : He.DefD := ⟨("Code", some "places"), "places", "Code.places", defArgs sd_Code_places, defBody sd_Code_places, defScope sd_Code_places, [], []⟩
abbrev sd_Code_entry : Stmt := inClass (topS 21) 14
def d_Code_entry : He.DefD := ⟨("Code", some "entry"), "entry", "Code.entry", defArgs sd_Code_entry, defBody sd_Code_entry, defScope sd_Code_entry, [], []⟩
abbrev sd_Code_entry_of : Stmt := inClass (topS 21) 15
def d_Code_entry_of : He.DefD := ⟨("Code", some "entry_of"), "entry_of", "Code.entry_of", defArgs sd_Code_entry_of, defBody sd_Code_entry_of, defScope sd_Code_entry_of, [], []⟩
abbrev sd_Code_layers : Stmt := inClass (topS 21) 16
def d_Code_layers : He.DefD := ⟨("Code", some "layers"), "layers", "Code.layers", defArgs sd_Code_layers, defBody sd_Code_layers, defScope sd_Code_layers, [], []⟩
abbrev sd_Code_layers_of : Stmt := inClass (topS 21) 17
def d_Code_layers_of : He.DefD := ⟨("Code", some "layers_of"), "layers_of", "Code.layers_of", defArgs sd_Code_layers_of, defBody sd_Code_layers_of, defScope sd_Code_layers_of, [], []⟩
abbrev sd_law_cell_at : Stmt := topS 23
def d_law_cell_at : He.DefD := ⟨("_law_cell_at", none), "_law_cell_at", "_law_cell_at", defArgs sd_law_cell_at, defBody sd_law_cell_at, defScope sd_law_cell_at, [], []⟩
abbrev sd_law_source_of : Stmt := topS 24
def d_law_source_of : He.DefD := ⟨("_law_source_of", none), "_law_source_of", "_law_source_of", defArgs sd_law_source_of, defBody sd_law_source_of, defScope sd_law_source_of, [], []⟩
abbrev sd_law_draw : Stmt := topS 25
def d_law_draw : He.DefD := ⟨("_law_draw", none), "_law_draw", "_law_draw", defArgs sd_law_draw, defBody sd_law_draw, defScope sd_law_draw, [], []⟩
abbrev sd_law_one : Stmt := topS 26
def d_law_one : He.DefD := ⟨("_law_one", none), "_law_one", "_law_one", defArgs sd_law_one, defBody sd_law_one, defScope sd_law_one, [], []⟩
abbrev sd_law_said : Stmt := topS 27
def d_law_said : He.DefD := ⟨("_law_said", none), "_law_said", "_law_said", defArgs sd_law_said, defBody sd_law_said, defScope sd_law_said, [], []⟩
abbrev sd_law_wrapped : Stmt := topS 28
def d_law_wrapped : He.DefD := ⟨("_law_wrapped", none), "_law_wrapped", "_law_wrapped", defArgs sd_law_wrapped, defBody sd_law_wrapped, defScope sd_law_wrapped, [], []⟩
abbrev sd_law_blocks : Stmt := topS 29
def d_law_blocks : He.DefD := ⟨("_law_blocks", none), "_law_blocks", "_law_blocks", defArgs sd_law_blocks, defBody sd_law_blocks, defScope sd_law_blocks, [], []⟩
abbrev sd_law_many_right : Stmt := topS 30
def d_law_many_right : He.DefD := ⟨("_law_many_right", none), "_law_many_right", "_law_many_right", defArgs sd_law_many_right, defBody sd_law_many_right, defScope sd_law_many_right, [], []⟩
abbrev sd_law_deep_right : Stmt := topS 31
def d_law_deep_right : He.DefD := ⟨("_law_deep_right", none), "_law_deep_right", "_law_deep_right", defArgs sd_law_deep_right, defBody sd_law_deep_right, defScope sd_law_deep_right, [], []⟩
abbrev sd_law_blocks_right : Stmt := topS 32
def d_law_blocks_right : He.DefD := ⟨("_law_blocks_right", none), "_law_blocks_right", "_law_blocks_right", defArgs sd_law_blocks_right, defBody sd_law_blocks_right, defScope sd_law_blocks_right, [], []⟩
abbrev sd_law : Stmt := topS 33
def d_law : He.DefD := ⟨("law", none), "law", "law", defArgs sd_law, defBody sd_law, defScope sd_law, [], []⟩
def fnL0 : List He.DefD := [d_wall, d_InvalidCode___init__, d_InvalidNumber___init__, d_LimitExceeded___init__, d_is_integer, d_is_between, d_is_name, d_is_statement, d_parts_in, d_Code___init__, d_Code_check, d_Code_keep, d_Code___eq__, d_Code___len__, d_Code___getitem__, d_Code___iter__, d_Code_check_number, d_Code_is_place, d_Code_check_place, d_Code_kind, d_Code_parent, d_Code_parts, d_Code_places, d_Code_entry, d_Code_entry_of, d_Code_layers, d_Code_layers_of, d_law_cell_at, d_law_source_of, d_law_draw]
def fnL1 : List He.DefD := [d_law_one, d_law_said, d_law_wrapped, d_law_blocks, d_law_many_right, d_law_deep_right, d_law_blocks_right, d_law]
def fnL : List He.DefD := fnL0 ++ fnL1
def faL0 : List He.Fa := [.glo "_wall", .glo "CopyError", .glo "InvalidCode", .glo "InvalidNumber", .glo "LimitExceeded", .glo "is_integer", .glo "is_between", .glo "SIZES", .glo "NAMED", .glo "JUMPS", .glo "is_name", .glo "is_statement", .glo "parts_in", .glo "Code", .glo "_law_cell_at", .glo "_law_source_of", .glo "_law_draw", .glo "_law_one", .glo "_law_said", .glo "_law_wrapped", .glo "_law_blocks", .glo "_law_many_right", .glo "_law_deep_right", .glo "_law_blocks_right", .glo "law", .free "ArithmeticError", .free "TypeError", .free "all", .free "bool", .free "enumerate"]
def faL1 : List He.Fa := [.free "int", .free "isinstance", .free "len", .free "list", .free "range", .free "reversed", .free "str", .free "tuple", .int "MOST_STATEMENTS" 400, .int "MOST_DEEP" 100, .int "MOST_BLOCKS" 25, .int "MOST_LETTERS" 8, .str "LETTERS" "abcdefghijklmnopqrstuvwxyz", .cls "Code", .mkr "Code", .noat "Code" "children", .noat "Code" "kinds", .noat "Code" "labels", .noat "Code" "parents", .noat "Code" "statements", .meth "Code" "check", .meth "Code" "keep", .meth "Code" "__eq__", .meth "Code" "__len__", .meth "Code" "__getitem__", .meth "Code" "__iter__", .meth "Code" "check_number", .meth "Code" "is_place", .meth "Code" "check_place", .meth "Code" "kind"]
def faL2 : List He.Fa := [.meth "Code" "parent", .meth "Code" "parts", .meth "Code" "places", .meth "Code" "entry", .meth "Code" "entry_of", .meth "Code" "layers", .meth "Code" "layers_of"]
def faL : List He.Fa := faL0 ++ faL1 ++ faL2
def tabL : List He.Tab := [(fun K => He.ga K "SIZES", ["do", "call", "if", "while", "seq", "break", "continue", "return", "raise", "try", "final"])]
def xN : List PySem.Str := ["CopyError", "InvalidCode", "InvalidNumber", "LimitExceeded"]
def exB (K : PySem.W.Frag) : Bool := (He.tupB K "NAMED" [.str "do", .str "call", .str "if", .str "while"]) && (He.tupB K "JUMPS" [.str "break", .str "continue"]) && (He.valsB K (He.ga K "SIZES") [("do", .int 2), ("call", .int 2), ("if", .int 4), ("while", .int 3), ("seq", .int 2), ("break", .int 2), ("continue", .int 2), ("return", .int 1), ("raise", .int 1), ("try", .int 3), ("final", .int 3)]) && (FcX.xcB K (He.ga K "CopyError") && PySem.W.excIn K (He.ga K "CopyError") FcX.aeT "ArithmeticError.__new__") && (FcX.xcB K (He.ga K "InvalidCode") && FcX.xiB K (He.ga K "InvalidCode") (He.fAd K ("InvalidCode", some "__init__")) "number") && (FcX.xcB K (He.ga K "InvalidNumber") && FcX.xiB K (He.ga K "InvalidNumber") (He.fAd K ("InvalidNumber", some "__init__")) "number") && (FcX.xcB K (He.ga K "LimitExceeded") && FcX.xiB K (He.ga K "LimitExceeded") (He.fAd K ("LimitExceeded", some "__init__")) "limit") && (FcX.xkB K xN) && (FcO.eqB K (He.ga K "Code")) && (FcX.xhB K xN)
def looseL0 : List PySem.Str := ["_wall", "CopyError", "InvalidCode", "InvalidNumber", "LimitExceeded", "is_integer", "is_between", "SIZES", "NAMED", "JUMPS", "is_name", "is_statement", "parts_in", "Code", "_law_cell_at", "_law_source_of", "_law_draw", "_law_one", "_law_said", "_law_wrapped", "_law_blocks", "_law_many_right", "_law_deep_right", "_law_blocks_right", "MOST_STATEMENTS", "MOST_DEEP", "MOST_BLOCKS", "MOST_LETTERS", "LETTERS"]
def looseL : List PySem.Str := looseL0
abbrev R : PySem.W.OpenRow := PySem.W.OpenLaw.row PySem.Challenge.rw_finallycopies_k04_limits_of_code
abbrev hk : PySem.W.Hook := He.hookX 6 faL fnL tabL [] exB
def ob (s : PySem.W.SharedT) : He.AlX := He.obsX 6 faL fnL tabL [] exB (HandSHeadRun.getT s)
theorem ob_eq (s : PySem.W.SharedT) : ob s = hk.obs s.abs := He.obsX_eq (HandSHeadRun.getT_eq s)
theorem runF (w : World) : HandSHeadRun.RunEq R (PySem.W.view R.prog [33]) hk ob 6000 looseL (w.withFollow "special-get-raises" false) := by
  intro os
  kernel_rfl
theorem runT (w : World) : HandSHeadRun.RunEq R (PySem.W.view R.prog [33]) hk ob 6000 looseL (w.withFollow "special-get-raises" true) := by
  intro os
  kernel_rfl
theorem run (w : World) : HandSHeadRun.RunEq R (PySem.W.view R.prog [33]) hk ob 6000 looseL w := PySem.W.byRow2 "special-get-raises" (P := fun w => HandSHeadRun.RunEq R (PySem.W.view R.prog [33]) hk ob 6000 looseL w) runF runT w
structure Tx (w : World) (h : Heap) (K : PySem.W.Frag) (mg : Str → Option Value) : Prop where
  X : K.In h
  G : h.Ns mainGlobals mg
  c : He.SaysX faL fnL tabL [] exB w h K
section
variable {w : World} {h : Heap} {K : PySem.W.Frag} {mg : Str → Option Value}
theorem g_wall (T : Tx w h K mg) : mg "_wall" = some (.ref (He.ga K "_wall")) := He.glo_ok T.X T.G (T.c.t.d.fact 0 rfl)
theorem g_CopyError (T : Tx w h K mg) : mg "CopyError" = some (.ref (He.ga K "CopyError")) := He.glo_ok T.X T.G (T.c.t.d.fact 1 rfl)
theorem g_InvalidCode (T : Tx w h K mg) : mg "InvalidCode" = some (.ref (He.ga K "InvalidCode")) := He.glo_ok T.X T.G (T.c.t.d.fact 2 rfl)
theorem g_InvalidNumber (T : Tx w h K mg) : mg "InvalidNumber" = some (.ref (He.ga K "InvalidNumber")) := He.glo_ok T.X T.G (T.c.t.d.fact 3 rfl)
theorem g_LimitExceeded (T : Tx w h K mg) : mg "LimitExceeded" = some (.ref (He.ga K "LimitExceeded")) := He.glo_ok T.X T.G (T.c.t.d.fact 4 rfl)
theorem g_is_integer (T : Tx w h K mg) : mg "is_integer" = some (.ref (He.ga K "is_integer")) := He.glo_ok T.X T.G (T.c.t.d.fact 5 rfl)
theorem g_is_between (T : Tx w h K mg) : mg "is_between" = some (.ref (He.ga K "is_between")) := He.glo_ok T.X T.G (T.c.t.d.fact 6 rfl)
theorem g_SIZES (T : Tx w h K mg) : mg "SIZES" = some (.ref (He.ga K "SIZES")) := He.glo_ok T.X T.G (T.c.t.d.fact 7 rfl)
theorem g_NAMED (T : Tx w h K mg) : mg "NAMED" = some (.ref (He.ga K "NAMED")) := He.glo_ok T.X T.G (T.c.t.d.fact 8 rfl)
theorem g_JUMPS (T : Tx w h K mg) : mg "JUMPS" = some (.ref (He.ga K "JUMPS")) := He.glo_ok T.X T.G (T.c.t.d.fact 9 rfl)
theorem g_is_name (T : Tx w h K mg) : mg "is_name" = some (.ref (He.ga K "is_name")) := He.glo_ok T.X T.G (T.c.t.d.fact 10 rfl)
theorem g_is_statement (T : Tx w h K mg) : mg "is_statement" = some (.ref (He.ga K "is_statement")) := He.glo_ok T.X T.G (T.c.t.d.fact 11 rfl)
theorem g_parts_in (T : Tx w h K mg) : mg "parts_in" = some (.ref (He.ga K "parts_in")) := He.glo_ok T.X T.G (T.c.t.d.fact 12 rfl)
theorem g_Code (T : Tx w h K mg) : mg "Code" = some (.ref (He.ga K "Code")) := He.glo_ok T.X T.G (T.c.t.d.fact 13 rfl)
theorem g_law_cell_at (T : Tx w h K mg) : mg "_law_cell_at" = some (.ref (He.ga K "_law_cell_at")) := He.glo_ok T.X T.G (T.c.t.d.fact 14 rfl)
theorem g_law_source_of (T : Tx w h K mg) : mg "_law_source_of" = some (.ref (He.ga K "_law_source_of")) := He.glo_ok T.X T.G (T.c.t.d.fact 15 rfl)
theorem g_law_draw (T : Tx w h K mg) : mg "_law_draw" = some (.ref (He.ga K "_law_draw")) := He.glo_ok T.X T.G (T.c.t.d.fact 16 rfl)
theorem g_law_one (T : Tx w h K mg) : mg "_law_one" = some (.ref (He.ga K "_law_one")) := He.glo_ok T.X T.G (T.c.t.d.fact 17 rfl)
theorem g_law_said (T : Tx w h K mg) : mg "_law_said" = some (.ref (He.ga K "_law_said")) := He.glo_ok T.X T.G (T.c.t.d.fact 18 rfl)
theorem g_law_wrapped (T : Tx w h K mg) : mg "_law_wrapped" = some (.ref (He.ga K "_law_wrapped")) := He.glo_ok T.X T.G (T.c.t.d.fact 19 rfl)
theorem g_law_blocks (T : Tx w h K mg) : mg "_law_blocks" = some (.ref (He.ga K "_law_blocks")) := He.glo_ok T.X T.G (T.c.t.d.fact 20 rfl)
theorem g_law_many_right (T : Tx w h K mg) : mg "_law_many_right" = some (.ref (He.ga K "_law_many_right")) := He.glo_ok T.X T.G (T.c.t.d.fact 21 rfl)
theorem g_law_deep_right (T : Tx w h K mg) : mg "_law_deep_right" = some (.ref (He.ga K "_law_deep_right")) := He.glo_ok T.X T.G (T.c.t.d.fact 22 rfl)
theorem g_law_blocks_right (T : Tx w h K mg) : mg "_law_blocks_right" = some (.ref (He.ga K "_law_blocks_right")) := He.glo_ok T.X T.G (T.c.t.d.fact 23 rfl)
theorem g_law (T : Tx w h K mg) : mg "law" = some (.ref (He.ga K "law")) := He.glo_ok T.X T.G (T.c.t.d.fact 24 rfl)
theorem fr_ArithmeticError (T : Tx w h K mg) : mg "ArithmeticError" = none := He.free_ok T.X T.G (T.c.t.d.fact 25 rfl)
theorem fr_TypeError (T : Tx w h K mg) : mg "TypeError" = none := He.free_ok T.X T.G (T.c.t.d.fact 26 rfl)
theorem fr_all (T : Tx w h K mg) : mg "all" = none := He.free_ok T.X T.G (T.c.t.d.fact 27 rfl)
theorem fr_bool (T : Tx w h K mg) : mg "bool" = none := He.free_ok T.X T.G (T.c.t.d.fact 28 rfl)
theorem fr_enumerate (T : Tx w h K mg) : mg "enumerate" = none := He.free_ok T.X T.G (T.c.t.d.fact 29 rfl)
theorem fr_int (T : Tx w h K mg) : mg "int" = none := He.free_ok T.X T.G (T.c.t.d.fact 30 rfl)
theorem fr_isinstance (T : Tx w h K mg) : mg "isinstance" = none := He.free_ok T.X T.G (T.c.t.d.fact 31 rfl)
theorem fr_len (T : Tx w h K mg) : mg "len" = none := He.free_ok T.X T.G (T.c.t.d.fact 32 rfl)
theorem fr_list (T : Tx w h K mg) : mg "list" = none := He.free_ok T.X T.G (T.c.t.d.fact 33 rfl)
theorem fr_range (T : Tx w h K mg) : mg "range" = none := He.free_ok T.X T.G (T.c.t.d.fact 34 rfl)
theorem fr_reversed (T : Tx w h K mg) : mg "reversed" = none := He.free_ok T.X T.G (T.c.t.d.fact 35 rfl)
theorem fr_str (T : Tx w h K mg) : mg "str" = none := He.free_ok T.X T.G (T.c.t.d.fact 36 rfl)
theorem fr_tuple (T : Tx w h K mg) : mg "tuple" = none := He.free_ok T.X T.G (T.c.t.d.fact 37 rfl)
theorem i_MOST_STATEMENTS (T : Tx w h K mg) : ∃ t, mg "MOST_STATEMENTS" = some (.int 400 t) := He.int_ok T.X T.G (T.c.t.d.fact 38 rfl)
theorem i_MOST_DEEP (T : Tx w h K mg) : ∃ t, mg "MOST_DEEP" = some (.int 100 t) := He.int_ok T.X T.G (T.c.t.d.fact 39 rfl)
theorem i_MOST_BLOCKS (T : Tx w h K mg) : ∃ t, mg "MOST_BLOCKS" = some (.int 25 t) := He.int_ok T.X T.G (T.c.t.d.fact 40 rfl)
theorem i_MOST_LETTERS (T : Tx w h K mg) : ∃ t, mg "MOST_LETTERS" = some (.int 8 t) := He.int_ok T.X T.G (T.c.t.d.fact 41 rfl)
theorem i_LETTERS (T : Tx w h K mg) : ∃ t, mg "LETTERS" = some (.str "abcdefghijklmnopqrstuvwxyz" t) := He.str_ok T.X T.G (T.c.t.d.fact 42 rfl)
theorem c_Code (T : Tx w h K mg) : Cls K (He.ga K "Code") := He.cls_ok (T.c.t.d.fact 43 rfl)
theorem mk_Code (T : Tx w h K mg) : Mk K (He.ga K "Code") (He.ma K (He.ga K "Code") "__init__") := He.mkr_ok (T.c.t.d.fact 44 rfl)
theorem na_Code_children (T : Tx w h K mg) : NoAttr K (He.ga K "Code") "children" := He.noat_ok (T.c.t.d.fact 45 rfl)
theorem na_Code_kinds (T : Tx w h K mg) : NoAttr K (He.ga K "Code") "kinds" := He.noat_ok (T.c.t.d.fact 46 rfl)
theorem na_Code_labels (T : Tx w h K mg) : NoAttr K (He.ga K "Code") "labels" := He.noat_ok (T.c.t.d.fact 47 rfl)
theorem na_Code_parents (T : Tx w h K mg) : NoAttr K (He.ga K "Code") "parents" := He.noat_ok (T.c.t.d.fact 48 rfl)
theorem na_Code_statements (T : Tx w h K mg) : NoAttr K (He.ga K "Code") "statements" := He.noat_ok (T.c.t.d.fact 49 rfl)
theorem me_Code_check (T : Tx w h K mg) : Meth K (He.ga K "Code") "check" (He.ma K (He.ga K "Code") "check") := He.meth_ok (T.c.t.d.fact 50 rfl)
theorem me_Code_keep (T : Tx w h K mg) : Meth K (He.ga K "Code") "keep" (He.ma K (He.ga K "Code") "keep") := He.meth_ok (T.c.t.d.fact 51 rfl)
theorem me_Code___eq__ (T : Tx w h K mg) : Meth K (He.ga K "Code") "__eq__" (He.ma K (He.ga K "Code") "__eq__") := He.meth_ok (T.c.t.d.fact 52 rfl)
theorem me_Code___len__ (T : Tx w h K mg) : Meth K (He.ga K "Code") "__len__" (He.ma K (He.ga K "Code") "__len__") := He.meth_ok (T.c.t.d.fact 53 rfl)
theorem me_Code___getitem__ (T : Tx w h K mg) : Meth K (He.ga K "Code") "__getitem__" (He.ma K (He.ga K "Code") "__getitem__") := He.meth_ok (T.c.t.d.fact 54 rfl)
theorem me_Code___iter__ (T : Tx w h K mg) : Meth K (He.ga K "Code") "__iter__" (He.ma K (He.ga K "Code") "__iter__") := He.meth_ok (T.c.t.d.fact 55 rfl)
theorem me_Code_check_number (T : Tx w h K mg) : Meth K (He.ga K "Code") "check_number" (He.ma K (He.ga K "Code") "check_number") := He.meth_ok (T.c.t.d.fact 56 rfl)
theorem me_Code_is_place (T : Tx w h K mg) : Meth K (He.ga K "Code") "is_place" (He.ma K (He.ga K "Code") "is_place") := He.meth_ok (T.c.t.d.fact 57 rfl)
theorem me_Code_check_place (T : Tx w h K mg) : Meth K (He.ga K "Code") "check_place" (He.ma K (He.ga K "Code") "check_place") := He.meth_ok (T.c.t.d.fact 58 rfl)
theorem me_Code_kind (T : Tx w h K mg) : Meth K (He.ga K "Code") "kind" (He.ma K (He.ga K "Code") "kind") := He.meth_ok (T.c.t.d.fact 59 rfl)
theorem me_Code_parent (T : Tx w h K mg) : Meth K (He.ga K "Code") "parent" (He.ma K (He.ga K "Code") "parent") := He.meth_ok (T.c.t.d.fact 60 rfl)
theorem me_Code_parts (T : Tx w h K mg) : Meth K (He.ga K "Code") "parts" (He.ma K (He.ga K "Code") "parts") := He.meth_ok (T.c.t.d.fact 61 rfl)
theorem me_Code_places (T : Tx w h K mg) : Meth K (He.ga K "Code") "places" (He.ma K (He.ga K "Code") "places") := He.meth_ok (T.c.t.d.fact 62 rfl)
theorem me_Code_entry (T : Tx w h K mg) : Meth K (He.ga K "Code") "entry" (He.ma K (He.ga K "Code") "entry") := He.meth_ok (T.c.t.d.fact 63 rfl)
theorem me_Code_entry_of (T : Tx w h K mg) : Meth K (He.ga K "Code") "entry_of" (He.ma K (He.ga K "Code") "entry_of") := He.meth_ok (T.c.t.d.fact 64 rfl)
theorem me_Code_layers (T : Tx w h K mg) : Meth K (He.ga K "Code") "layers" (He.ma K (He.ga K "Code") "layers") := He.meth_ok (T.c.t.d.fact 65 rfl)
theorem me_Code_layers_of (T : Tx w h K mg) : Meth K (He.ga K "Code") "layers_of" (He.ma K (He.ga K "Code") "layers_of") := He.meth_ok (T.c.t.d.fact 66 rfl)
theorem F_wall (T : Tx w h K mg) : ∃ fd, FunD K "_wall" "_wall" (defArgs sd_wall) (defBody sd_wall) (defScope sd_wall) [] [] (He.fAd K ("_wall", none)) fd := T.c.t.d.def_ 0 rfl
theorem F_InvalidCode___init__ (T : Tx w h K mg) : ∃ fd, FunD K "__init__" "InvalidCode.__init__" (defArgs sd_InvalidCode___init__) (defBody sd_InvalidCode___init__) (defScope sd_InvalidCode___init__) [] [] (He.fAd K ("InvalidCode", some "__init__")) fd := T.c.t.d.def_ 1 rfl
theorem F_InvalidNumber___init__ (T : Tx w h K mg) : ∃ fd, FunD K "__init__" "InvalidNumber.__init__" (defArgs sd_InvalidNumber___init__) (defBody sd_InvalidNumber___init__) (defScope sd_InvalidNumber___init__) [] [] (He.fAd K ("InvalidNumber", some "__init__")) fd := T.c.t.d.def_ 2 rfl
theorem F_LimitExceeded___init__ (T : Tx w h K mg) : ∃ fd, FunD K "__init__" "LimitExceeded.__init__" (defArgs sd_LimitExceeded___init__) (defBody sd_LimitExceeded___init__) (defScope sd_LimitExceeded___init__) [] [] (He.fAd K ("LimitExceeded", some "__init__")) fd := T.c.t.d.def_ 3 rfl
theorem F_is_integer (T : Tx w h K mg) : ∃ fd, FunD K "is_integer" "is_integer" (defArgs sd_is_integer) (defBody sd_is_integer) (defScope sd_is_integer) [] [] (He.fAd K ("is_integer", none)) fd := T.c.t.d.def_ 4 rfl
theorem F_is_between (T : Tx w h K mg) : ∃ fd, FunD K "is_between" "is_between" (defArgs sd_is_between) (defBody sd_is_between) (defScope sd_is_between) [] [] (He.fAd K ("is_between", none)) fd := T.c.t.d.def_ 5 rfl
theorem F_is_name (T : Tx w h K mg) : ∃ fd, FunD K "is_name" "is_name" (defArgs sd_is_name) (defBody sd_is_name) (defScope sd_is_name) [] [] (He.fAd K ("is_name", none)) fd := T.c.t.d.def_ 6 rfl
theorem F_is_statement (T : Tx w h K mg) : ∃ fd, FunD K "is_statement" "is_statement" (defArgs sd_is_statement) (defBody sd_is_statement) (defScope sd_is_statement) [] [] (He.fAd K ("is_statement", none)) fd := T.c.t.d.def_ 7 rfl
theorem F_parts_in (T : Tx w h K mg) : ∃ fd, FunD K "parts_in" "parts_in" (defArgs sd_parts_in) (defBody sd_parts_in) (defScope sd_parts_in) [] [] (He.fAd K ("parts_in", none)) fd := T.c.t.d.def_ 8 rfl
theorem F_Code___init__ (T : Tx w h K mg) : ∃ fd, FunD K "__init__" "Code.__init__" (defArgs sd_Code___init__) (defBody sd_Code___init__) (defScope sd_Code___init__) [] [] (He.fAd K ("Code", some "__init__")) fd := T.c.t.d.def_ 9 rfl
theorem F_Code_check (T : Tx w h K mg) : ∃ fd, FunD K "check" "Code.check" (defArgs sd_Code_check) (defBody sd_Code_check) (defScope sd_Code_check) [] [] (He.fAd K ("Code", some "check")) fd := T.c.t.d.def_ 10 rfl
theorem F_Code_keep (T : Tx w h K mg) : ∃ fd, FunD K "keep" "Code.keep" (defArgs sd_Code_keep) (defBody sd_Code_keep) (defScope sd_Code_keep) [] [] (He.fAd K ("Code", some "keep")) fd := T.c.t.d.def_ 11 rfl
theorem F_Code___eq__ (T : Tx w h K mg) : ∃ fd, FunD K "__eq__" "Code.__eq__" (defArgs sd_Code___eq__) (defBody sd_Code___eq__) (defScope sd_Code___eq__) [] [] (He.fAd K ("Code", some "__eq__")) fd := T.c.t.d.def_ 12 rfl
theorem F_Code___len__ (T : Tx w h K mg) : ∃ fd, FunD K "__len__" "Code.__len__" (defArgs sd_Code___len__) (defBody sd_Code___len__) (defScope sd_Code___len__) [] [] (He.fAd K ("Code", some "__len__")) fd := T.c.t.d.def_ 13 rfl
theorem F_Code___getitem__ (T : Tx w h K mg) : ∃ fd, FunD K "__getitem__" "Code.__getitem__" (defArgs sd_Code___getitem__) (defBody sd_Code___getitem__) (defScope sd_Code___getitem__) [] [] (He.fAd K ("Code", some "__getitem__")) fd := T.c.t.d.def_ 14 rfl
theorem F_Code___iter__ (T : Tx w h K mg) : ∃ fd, FunD K "__iter__" "Code.__iter__" (defArgs sd_Code___iter__) (defBody sd_Code___iter__) (defScope sd_Code___iter__) [] [] (He.fAd K ("Code", some "__iter__")) fd := T.c.t.d.def_ 15 rfl
theorem F_Code_check_number (T : Tx w h K mg) : ∃ fd, FunD K "check_number" "Code.check_number" (defArgs sd_Code_check_number) (defBody sd_Code_check_number) (defScope sd_Code_check_number) [] [] (He.fAd K ("Code", some "check_number")) fd := T.c.t.d.def_ 16 rfl
theorem F_Code_is_place (T : Tx w h K mg) : ∃ fd, FunD K "is_place" "Code.is_place" (defArgs sd_Code_is_place) (defBody sd_Code_is_place) (defScope sd_Code_is_place) [] [] (He.fAd K ("Code", some "is_place")) fd := T.c.t.d.def_ 17 rfl
theorem F_Code_check_place (T : Tx w h K mg) : ∃ fd, FunD K "check_place" "Code.check_place" (defArgs sd_Code_check_place) (defBody sd_Code_check_place) (defScope sd_Code_check_place) [] [] (He.fAd K ("Code", some "check_place")) fd := T.c.t.d.def_ 18 rfl
theorem F_Code_kind (T : Tx w h K mg) : ∃ fd, FunD K "kind" "Code.kind" (defArgs sd_Code_kind) (defBody sd_Code_kind) (defScope sd_Code_kind) [] [] (He.fAd K ("Code", some "kind")) fd := T.c.t.d.def_ 19 rfl
theorem F_Code_parent (T : Tx w h K mg) : ∃ fd, FunD K "parent" "Code.parent" (defArgs sd_Code_parent) (defBody sd_Code_parent) (defScope sd_Code_parent) [] [] (He.fAd K ("Code", some "parent")) fd := T.c.t.d.def_ 20 rfl
theorem F_Code_parts (T : Tx w h K mg) : ∃ fd, FunD K "parts" "Code.parts" (defArgs sd_Code_parts) (defBody sd_Code_parts) (defScope sd_Code_parts) [] [] (He.fAd K ("Code", some "parts")) fd := T.c.t.d.def_ 21 rfl
theorem F_Code_places (T : Tx w h K mg) : ∃ fd, FunD K "places" "Code.places" (defArgs sd_Code_places) (defBody sd_Code_places) (defScope sd_Code_places) [] [] (He.fAd K ("Code", some "places")) fd := T.c.t.d.def_ 22 rfl
theorem F_Code_entry (T : Tx w h K mg) : ∃ fd, FunD K "entry" "Code.entry" (defArgs sd_Code_entry) (defBody sd_Code_entry) (defScope sd_Code_entry) [] [] (He.fAd K ("Code", some "entry")) fd := T.c.t.d.def_ 23 rfl
theorem F_Code_entry_of (T : Tx w h K mg) : ∃ fd, FunD K "entry_of" "Code.entry_of" (defArgs sd_Code_entry_of) (defBody sd_Code_entry_of) (defScope sd_Code_entry_of) [] [] (He.fAd K ("Code", some "entry_of")) fd := T.c.t.d.def_ 24 rfl
theorem F_Code_layers (T : Tx w h K mg) : ∃ fd, FunD K "layers" "Code.layers" (defArgs sd_Code_layers) (defBody sd_Code_layers) (defScope sd_Code_layers) [] [] (He.fAd K ("Code", some "layers")) fd := T.c.t.d.def_ 25 rfl
theorem F_Code_layers_of (T : Tx w h K mg) : ∃ fd, FunD K "layers_of" "Code.layers_of" (defArgs sd_Code_layers_of) (defBody sd_Code_layers_of) (defScope sd_Code_layers_of) [] [] (He.fAd K ("Code", some "layers_of")) fd := T.c.t.d.def_ 26 rfl
theorem F_law_cell_at (T : Tx w h K mg) : ∃ fd, FunD K "_law_cell_at" "_law_cell_at" (defArgs sd_law_cell_at) (defBody sd_law_cell_at) (defScope sd_law_cell_at) [] [] (He.fAd K ("_law_cell_at", none)) fd := T.c.t.d.def_ 27 rfl
theorem F_law_source_of (T : Tx w h K mg) : ∃ fd, FunD K "_law_source_of" "_law_source_of" (defArgs sd_law_source_of) (defBody sd_law_source_of) (defScope sd_law_source_of) [] [] (He.fAd K ("_law_source_of", none)) fd := T.c.t.d.def_ 28 rfl
theorem F_law_draw (T : Tx w h K mg) : ∃ fd, FunD K "_law_draw" "_law_draw" (defArgs sd_law_draw) (defBody sd_law_draw) (defScope sd_law_draw) [] [] (He.fAd K ("_law_draw", none)) fd := T.c.t.d.def_ 29 rfl
theorem F_law_one (T : Tx w h K mg) : ∃ fd, FunD K "_law_one" "_law_one" (defArgs sd_law_one) (defBody sd_law_one) (defScope sd_law_one) [] [] (He.fAd K ("_law_one", none)) fd := T.c.t.d.def_ 30 rfl
theorem F_law_said (T : Tx w h K mg) : ∃ fd, FunD K "_law_said" "_law_said" (defArgs sd_law_said) (defBody sd_law_said) (defScope sd_law_said) [] [] (He.fAd K ("_law_said", none)) fd := T.c.t.d.def_ 31 rfl
theorem F_law_wrapped (T : Tx w h K mg) : ∃ fd, FunD K "_law_wrapped" "_law_wrapped" (defArgs sd_law_wrapped) (defBody sd_law_wrapped) (defScope sd_law_wrapped) [] [] (He.fAd K ("_law_wrapped", none)) fd := T.c.t.d.def_ 32 rfl
theorem F_law_blocks (T : Tx w h K mg) : ∃ fd, FunD K "_law_blocks" "_law_blocks" (defArgs sd_law_blocks) (defBody sd_law_blocks) (defScope sd_law_blocks) [] [] (He.fAd K ("_law_blocks", none)) fd := T.c.t.d.def_ 33 rfl
theorem F_law_many_right (T : Tx w h K mg) : ∃ fd, FunD K "_law_many_right" "_law_many_right" (defArgs sd_law_many_right) (defBody sd_law_many_right) (defScope sd_law_many_right) [] [] (He.fAd K ("_law_many_right", none)) fd := T.c.t.d.def_ 34 rfl
theorem F_law_deep_right (T : Tx w h K mg) : ∃ fd, FunD K "_law_deep_right" "_law_deep_right" (defArgs sd_law_deep_right) (defBody sd_law_deep_right) (defScope sd_law_deep_right) [] [] (He.fAd K ("_law_deep_right", none)) fd := T.c.t.d.def_ 35 rfl
theorem F_law_blocks_right (T : Tx w h K mg) : ∃ fd, FunD K "_law_blocks_right" "_law_blocks_right" (defArgs sd_law_blocks_right) (defBody sd_law_blocks_right) (defScope sd_law_blocks_right) [] [] (He.fAd K ("_law_blocks_right", none)) fd := T.c.t.d.def_ 36 rfl
theorem F_law (T : Tx w h K mg) : ∃ fd, FunD K "law" "law" (defArgs sd_law) (defBody sd_law) (defScope sd_law) [] [] (He.fAd K ("law", none)) fd := T.c.t.d.def_ 37 rfl
theorem t_NAMED (T : Tx w h K mg) (H : Hp) : SqT K H (He.ga K "NAMED") [.str "do", .str "call", .str "if", .str "while"] := He.tupB_ok (x := "NAMED") (vs := [.str "do", .str "call", .str "if", .str "while"]) (He.ba (He.ba (He.ba (He.ba (He.ba (He.ba (He.ba (He.ba (He.ba T.c.more).1).1).1).1).1).1).1).1).1 H
theorem t_JUMPS (T : Tx w h K mg) (H : Hp) : SqT K H (He.ga K "JUMPS") [.str "break", .str "continue"] := He.tupB_ok (x := "JUMPS") (vs := [.str "break", .str "continue"]) (He.ba (He.ba (He.ba (He.ba (He.ba (He.ba (He.ba (He.ba (He.ba T.c.more).1).1).1).1).1).1).1).1).2 H
theorem d_SIZES (T : Tx w h K mg) : ∃ es n, KDict K w (He.ga K "SIZES") es n := T.c.t.tab 0 rfl
theorem dk_SIZES (T : Tx w h K mg) : He.dicW K (He.ga K "SIZES") = some (He.keysIn w.params ["do", "call", "if", "while", "seq", "break", "continue", "return", "raise", "try", "final"]) := Option.some.inj (show some (He.dicW K (He.ga K "SIZES")) = some (some (He.keysIn w.params ["do", "call", "if", "while", "seq", "break", "continue", "return", "raise", "try", "final"])) from congrArg (fun z : He.AlT => z.2[0]?) T.c.t)
theorem v_SIZES (T : Tx w h K mg) {q : Str × He.Dv} (hq : q ∈ ([("do", .int 2), ("call", .int 2), ("if", .int 4), ("while", .int 3), ("seq", .int 2), ("break", .int 2), ("continue", .int 2), ("return", .int 1), ("raise", .int 1), ("try", .int 3), ("final", .int 3)] : List (Str × He.Dv))) : ∃ u, PySem.W.nsIn K (He.ga K "SIZES") q.1 = some (some u) ∧ RelV (q.2.v K) u := He.valsB_ok (He.ba (He.ba (He.ba (He.ba (He.ba (He.ba (He.ba (He.ba T.c.more).1).1).1).1).1).1).1).2 hq
theorem x_CopyError (T : Tx w h K mg) : FcX.XC K (He.ga K "CopyError") := FcX.xcB_ok (He.ba ((He.ba (He.ba (He.ba (He.ba (He.ba (He.ba (He.ba T.c.more).1).1).1).1).1).1).2)).1
theorem xi_CopyError (T : Tx w h K mg) : PySem.W.excIn K (He.ga K "CopyError") FcX.aeT "ArithmeticError.__new__" = true := (He.ba ((He.ba (He.ba (He.ba (He.ba (He.ba (He.ba (He.ba T.c.more).1).1).1).1).1).1).2)).2
theorem x_InvalidCode (T : Tx w h K mg) : FcX.XC K (He.ga K "InvalidCode") := FcX.xcB_ok (He.ba ((He.ba (He.ba (He.ba (He.ba (He.ba (He.ba T.c.more).1).1).1).1).1).2)).1
theorem xi_InvalidCode (T : Tx w h K mg) : FcX.XI K (He.ga K "InvalidCode") (He.fAd K ("InvalidCode", some "__init__")) "number" := FcX.xiB_ok (He.ba ((He.ba (He.ba (He.ba (He.ba (He.ba (He.ba T.c.more).1).1).1).1).1).2)).2
theorem x_InvalidNumber (T : Tx w h K mg) : FcX.XC K (He.ga K "InvalidNumber") := FcX.xcB_ok (He.ba ((He.ba (He.ba (He.ba (He.ba (He.ba T.c.more).1).1).1).1).2)).1
theorem xi_InvalidNumber (T : Tx w h K mg) : FcX.XI K (He.ga K "InvalidNumber") (He.fAd K ("InvalidNumber", some "__init__")) "number" := FcX.xiB_ok (He.ba ((He.ba (He.ba (He.ba (He.ba (He.ba T.c.more).1).1).1).1).2)).2
theorem x_LimitExceeded (T : Tx w h K mg) : FcX.XC K (He.ga K "LimitExceeded") := FcX.xcB_ok (He.ba ((He.ba (He.ba (He.ba (He.ba T.c.more).1).1).1).2)).1
theorem xi_LimitExceeded (T : Tx w h K mg) : FcX.XI K (He.ga K "LimitExceeded") (He.fAd K ("LimitExceeded", some "__init__")) "limit" := FcX.xiB_ok (He.ba ((He.ba (He.ba (He.ba (He.ba T.c.more).1).1).1).2)).2
theorem xk (T : Tx w h K mg) : FcX.xkB K xN = true := (He.ba (He.ba (He.ba T.c.more).1).1).2
theorem eq_Code (T : Tx w h K mg) : FcO.EqC K (He.ga K "Code") := FcO.eqB_ok (He.ba (He.ba T.c.more).1).2
theorem xh (T : Tx w h K mg) : FcX.xhB K xN = true := (He.ba T.c.more).2
end
end Fc

set_option maxRecDepth 100000
set_option maxHeartbeats 4000000
namespace Fc
open PySem PySem.Spec PyProof.Rows L2 FcR
open Evl (Ex)
/-! ### written tables with text keys: a key that is not there -/
theorem find_none_of {P : Params} {z : Str} : ∀ {l : List DictEntry} {ks : List Str}, l.map He.keyOf = He.keysIn P ks → z ∉ ks → l.find? (·.key.isStr z) = none ∧ l.any (·.refKey) = false
  | [], _, _, _ => ⟨rfl, rfl⟩
  | e :: r, [], h, _ => by cases h
  | e :: r, k :: ks, h, hz => by
    have h1 : He.keyOf e :: r.map He.keyOf = some (k, PyData.keyHash P k) :: He.keysIn P ks := h
    injection h1 with h2 h3
    obtain ⟨i1, i2⟩ := find_none_of (z := z) h3 fun y => hz (List.mem_cons_of_mem _ y)
    unfold He.keyOf at h2
    split at h2
    · rename_i x t q
      have h4 := Option.some.inj h2
      obtain ⟨h5, h6⟩ := Prod.mk.inj h4
      have ne : x ≠ z := fun y => hz (by rw [← y, h5]; exact List.mem_cons_self)
      constructor
      · rw [List.find?_cons]
        have e1 : e.key.isStr z = false := by
          rw [q]
          show (x == z) = false
          simpa using ne
        rw [e1]
        exact i1
      · rw [List.any_cons, i2]
        have e2 : e.refKey = false := by
          unfold DictEntry.refKey
          rw [q] <;> rfl
        rw [e2] <;> rfl
    · cases h2
theorem ns_none {K : PySem.W.Frag} {P : Params} {a : Addr} {ks : List Str} {z : Str} (h : He.dicW K a = some (He.keysIn P ks)) (hz : z ∉ ks) : PySem.W.nsIn K a z = some none := by
  unfold He.dicW at h
  unfold PySem.W.nsIn
  cases q : K.lookup a with
  | none => rw [q] at h; cases h
  | some o =>
    obtain ⟨oc, od, dt, osl⟩ := o
    rw [q] at h
    cases oc with
    | type c =>
      cases od with
      | none =>
        cases dt with
        | dict es n =>
          have h1 : (match decide (c = "dict") && (osl.isEmpty && !(a == sysModules)) with
            | true => some (es.toList.map He.keyOf)
            | false => none) = some (He.keysIn P ks) := h
          split at h1
          · obtain ⟨i1, i2⟩ := find_none_of (z := z) (Option.some.inj h1) hz
            show (match es.toList.find? (·.key.isStr z) with
              | some e => some (some e.val)
              | none => if es.toList.any (·.refKey) then none else some none) = some none
            rw [i1, i2]
            rfl
          · cases h1
        | _ => cases h
      | some b => cases dt <;> cases h
    | _ => cases od <;> cases dt <;> cases h
/-! ### the kinds of data -/
def tyD : PyData → String
  | .none => "NoneType"
  | .bool _ => "bool"
  | .int _ => "int"
  | .str _ => "str"
  | .list _ => "list"
  | .tuple _ => "tuple"
  | .dict _ => "dict"
theorem ty_lst {K : PySem.W.Frag} {H : Hp} {a : Addr} {xs : List V} (h : SqL K H a xs) : TyX K H (.ref a) (.type "list") := by
  rcases h with (h | ⟨o, h⟩) | ⟨o, its, n, hk, hc, _⟩
  · exact .base (.lst h)
  · exact .base (.frz h)
  · exact .kList hk hc
theorem ty_tup {K : PySem.W.Frag} {H : Hp} {a : Addr} {xs : List V} (h : SqT K H a xs) : TyX K H (.ref a) (.type "tuple") := by
  rcases h with (h | ⟨o, h⟩) | ⟨o, its, n, hk, hc, _⟩
  · exact .base (.tup h)
  · exact .fTuple h
  · exact .kTuple hk hc
theorem dp_ty {K : PySem.W.Frag} {H : Hp} {v : V} {d : PyData} (h : Dp K H v d) : TyX K H v (.type (tyD d)) := by
  cases h with
  | non => exact .base .non
  | bl b => exact .base (.bl b)
  | int i => exact .base (.int i)
  | str x => exact .base (.str x)
  | lst h _ => exact ty_lst h
  | tup h _ => exact ty_tup h
def isT (n : String) (d : PyData) : Bool := tyD d == n
theorem k_str {K : PySem.W.Frag} : ∀ d : PyData, PySem.W.kitOne K (.type (tyD d)) (.type "str") = some (isT "str" d)
  | .none => kit_ty (show kitB "NoneType" "str" = some false by decide +kernel)
  | .bool _ => kit_ty (show kitB "bool" "str" = some false by decide +kernel)
  | .int _ => kit_ty (show kitB "int" "str" = some false by decide +kernel)
  | .str _ => kit_ty (show kitB "str" "str" = some true by decide +kernel)
  | .list _ => kit_ty (show kitB "list" "str" = some false by decide +kernel)
  | .tuple _ => kit_ty (show kitB "tuple" "str" = some false by decide +kernel)
  | .dict _ => kit_ty (show kitB "dict" "str" = some false by decide +kernel)
theorem k_tuple {K : PySem.W.Frag} : ∀ d : PyData, PySem.W.kitOne K (.type (tyD d)) (.type "tuple") = some (isT "tuple" d)
  | .none => kit_ty (show kitB "NoneType" "tuple" = some false by decide +kernel)
  | .bool _ => kit_ty (show kitB "bool" "tuple" = some false by decide +kernel)
  | .int _ => kit_ty (show kitB "int" "tuple" = some false by decide +kernel)
  | .str _ => kit_ty (show kitB "str" "tuple" = some false by decide +kernel)
  | .list _ => kit_ty (show kitB "list" "tuple" = some false by decide +kernel)
  | .tuple _ => kit_ty (show kitB "tuple" "tuple" = some true by decide +kernel)
  | .dict _ => kit_ty (show kitB "dict" "tuple" = some false by decide +kernel)
theorem k_list {K : PySem.W.Frag} : ∀ d : PyData, PySem.W.kitOne K (.type (tyD d)) (.type "list") = some (isT "list" d)
  | .none => kit_ty (show kitB "NoneType" "list" = some false by decide +kernel)
  | .bool _ => kit_ty (show kitB "bool" "list" = some false by decide +kernel)
  | .int _ => kit_ty (show kitB "int" "list" = some false by decide +kernel)
  | .str _ => kit_ty (show kitB "str" "list" = some false by decide +kernel)
  | .list _ => kit_ty (show kitB "list" "list" = some true by decide +kernel)
  | .tuple _ => kit_ty (show kitB "tuple" "list" = some false by decide +kernel)
  | .dict _ => kit_ty (show kitB "dict" "list" = some false by decide +kernel)
theorem k_bool {K : PySem.W.Frag} : ∀ d : PyData, PySem.W.kitOne K (.type (tyD d)) (.type "bool") = some (isT "bool" d)
  | .none => kit_ty (show kitB "NoneType" "bool" = some false by decide +kernel)
  | .bool _ => kit_ty (show kitB "bool" "bool" = some true by decide +kernel)
  | .int _ => kit_ty (show kitB "int" "bool" = some false by decide +kernel)
  | .str _ => kit_ty (show kitB "str" "bool" = some false by decide +kernel)
  | .list _ => kit_ty (show kitB "list" "bool" = some false by decide +kernel)
  | .tuple _ => kit_ty (show kitB "tuple" "bool" = some false by decide +kernel)
  | .dict _ => kit_ty (show kitB "dict" "bool" = some false by decide +kernel)
def isIntB : PyData → Bool
  | .int _ => true
  | .bool _ => true
  | _ => false
theorem k_int {K : PySem.W.Frag} : ∀ d : PyData, PySem.W.kitOne K (.type (tyD d)) (.type "int") = some (isIntB d)
  | .none => kit_ty (show kitB "NoneType" "int" = some false by decide +kernel)
  | .bool _ => kit_ty (show kitB "bool" "int" = some true by decide +kernel)
  | .int _ => kit_ty (show kitB "int" "int" = some true by decide +kernel)
  | .str _ => kit_ty (show kitB "str" "int" = some false by decide +kernel)
  | .list _ => kit_ty (show kitB "list" "int" = some false by decide +kernel)
  | .tuple _ => kit_ty (show kitB "tuple" "int" = some false by decide +kernel)
  | .dict _ => kit_ty (show kitB "dict" "int" = some false by decide +kernel)
/-! ### names and statements -/
def letters : List Nat := (Str.ofString "abcdefghijklmnopqrstuvwxyz").cps.toList
def nameOk (x : Str) : Bool := (decide ((1 : Int) ≤ x.length) && decide ((x.length : Int) ≤ 8)) && x.cps.toList.all fun c => decide (c ∈ letters)
def isName : PyData → Bool
  | .str x => nameOk x
  | _ => false
def isNum (lo hi : Int) : PyData → Bool
  | .int n => decide (lo ≤ n) && decide (n ≤ hi)
  | _ => false
def kNamed : List Str := ["do", "call", "if", "while"]
def kJumps : List Str := ["break", "continue"]
def kSizes : List (Str × Int) := [("do", 2), ("call", 2), ("if", 4), ("while", 3), ("seq", 2), ("break", 2), ("continue", 2), ("return", 1), ("raise", 1), ("try", 3), ("final", 3)]
def nonEmptyT : PyData → Bool
  | .tuple (_ :: _) => true
  | _ => false
def isStm : PyData → Int → Bool
  | .tuple (.str k :: r), loops => (match kSizes.lookup k with
    | none => false
    | some n => if (r.length : Int) + 1 ≠ n then false else
      if k ∈ kNamed then isName (r.getD 0 .none) else if k ∈ kJumps then isNum 1 loops (r.getD 0 .none) else
        (if k ≠ "seq" then true else nonEmptyT (r.getD 0 .none)))
  | _, _ => false
/-- the parts that are looked at -/
def partsD : PyData → List PyData
  | .tuple (.str k :: r) => if k = "seq" then (match r with
      | .tuple ps :: _ => ps.take 401
      | _ => []) else if k ∈ kNamed then r.drop 1 else if k = "try" ∨ k = "final" then r else []
  | _ => []
end Fc

set_option maxRecDepth 100000
set_option maxHeartbeats 4000000
namespace Fc
open PySem PySem.Spec PyProof.Rows L2 FcR
open Evl (Ex)
def sp_is_integer (K : PySem.W.Frag) : Sp := fun vs H Q _ => ∃ (v : V) (t : Value) (b1 b2 : Bool), vs = [v] ∧ TyX K H v t ∧ PySem.W.kitOne K t (.type "int") = some b1 ∧ PySem.W.kitOne K t (.type "bool") = some b2 ∧ Q (.bl (b1 && !b2)) H
def sp_is_between (K : PySem.W.Frag) : Sp := fun vs H Q _ => ∃ (v : V) (i j : Int), vs = [v, .int i, .int j] ∧
  ((∃ n, v = .int n ∧ Q (.bl (decide (i ≤ n) && decide (n ≤ j))) H) ∨ (∃ t b1 b2, TyX K H v t ∧ PySem.W.kitOne K t (.type "int") = some b1 ∧ PySem.W.kitOne K t (.type "bool") = some b2 ∧ (b1 && !b2) = false ∧ Q (.bl false) H))
theorem k_ii {K : PySem.W.Frag} : PySem.W.kitOne K (.type "int") (.type "int") = some true := kit_ty (by decide +kernel)
theorem k_ib {K : PySem.W.Frag} : PySem.W.kitOne K (.type "int") (.type "bool") = some false := kit_ty (by decide +kernel)
section
variable {P : Program} {w : World} {h : Heap} {K : PySem.W.Frag} {mg : Str → Option Value} {base : Heap}
abbrev N_is_integer : List Str := ["value"]
theorem sc_is_integer : FnScope N_is_integer ["value"] (defScope sd_is_integer) := ⟨rfl, rfl, rfl, by decide +kernel, rfl, by decide +kernel, by decide +kernel⟩
theorem ok_is_integer (T : Tx w h K mg) : Ok P w K mg base 1 ("is_integer", none) ["value"] (sp_is_integer K) := by
  obtain ⟨fd, F⟩ := F_is_integer T
  refine ⟨fd, ?_, F.bindsN (fun _ _ _ _ _ _ us hl => match us, hl with | [_], _ => rfl), F.kp⟩
  refine F.ok sc_is_integer (fun vs H Q E h => ?_) (fun cdv A outer s H vs Q E hr h => ?_)
  · obtain ⟨v, t, b1, b2, rfl, ty, k1, k2, q⟩ := h
    rfl
  · obtain ⟨v, t, b1, b2, rfl, ty, k1, k2, q⟩ := h
    refine ⟨_, PSs.nox (pss_one (ps_ret (pe_and (pe_callB call_isi rfl (fr_isinstance T) b_isinstance (pa_cons (pv 0) (pa_cons (pe_bltn (v := .ty "int") rfl (fr_int T) b_int rfl) pa_nil))) (pe_one (pe_not (pe_callB call_isi rfl (fr_isinstance T) b_isinstance (pa_cons (pv 0) (pa_cons (pe_bltn (v := .ty "bool") rfl (fr_bool T) b_bool rfl) pa_nil)))))))), ?_⟩
    refine ⟨_, rfl, v, .ty "int", t, _, b1, rfl, .ty _, ty, k1, _, rfl, ite_of (fun h1 => ?_) (fun h1 => ?_)⟩
    · subst h1
      exact ⟨_, rfl, v, .ty "bool", t, _, b2, rfl, .ty _, ty, k2, _, rfl, q⟩
    · subst h1
      exact q
abbrev N_is_between : List Str := ["value", "low", "high"]
theorem sc_is_between : FnScope N_is_between ["value", "low", "high"] (defScope sd_is_between) := ⟨rfl, rfl, rfl, by decide +kernel, rfl, by decide +kernel, by decide +kernel⟩
theorem ok_is_between (T : Tx w h K mg) : Ok P w K mg base 2 ("is_between", none) ["value", "low", "high"] (sp_is_between K) := by
  obtain ⟨fd, F⟩ := F_is_between T
  refine ⟨fd, ?_, F.bindsN (fun _ _ _ _ _ _ us hl => match us, hl with | [_, _, _], _ => rfl), F.kp⟩
  obtain ⟨fd_is_integer, G_is_integer, bi_is_integer, kp_is_integer⟩ := ok_is_integer (P := P) (base := base) T
  refine F.ok sc_is_between (fun vs H Q E h => ?_) (fun cdv A outer s H vs Q E hr h => ?_)
  · obtain ⟨v, i, j, rfl, q⟩ := h
    rfl
  · obtain ⟨v, i, j, rfl, q⟩ := h
    refine ⟨_, PSs.nox (pss_one (ps_ret (pe_and (pe_call G_is_integer (hr.mono (by decide)) rfl (g_is_integer T) kp_is_integer bi_is_integer .nil passF (pa_cons (pv 0) pa_nil)) (pe_one (pe_chain op_le op_le (pv 1) (pv 0) (pv 2)))))), ?_⟩
    rcases q with ⟨n, rfl, q⟩ | ⟨t, b1, b2, ty, k1, k2, hb, q⟩
    · refine ⟨_, rfl, .int n, .type "int", true, false, rfl, .base (.int n), k_ii, k_ib, _, rfl, itT rfl ?_⟩
      refine ⟨_, rfl, _, rfl, _, _, rfl, rfl, _, rfl, ite_of (fun h1 => ?_) (fun h1 => ?_)⟩
      · refine ⟨_, rfl, _, _, rfl, rfl, ?_⟩
        rw [h1] at q
        exact q
      · rw [h1] at q
        exact q
    · refine ⟨_, rfl, v, t, b1, b2, rfl, ty, k1, k2, _, rfl, itF hb q⟩
end

end Fc

set_option maxRecDepth 100000
set_option maxHeartbeats 4000000
namespace Fc
open PySem PySem.Spec PyProof.Rows L2 FcR
open Evl (Ex)
/-! ### names -/
def sp_is_name (K : PySem.W.Frag) : Sp := fun vs H Q _ => ∃ (v : V) (d : PyData), vs = [v] ∧ Dp K H v d ∧ (∀ x, d = .str x → x.length ≤ 100000) ∧ ∀ H', Ex H H' → Q (.bl (isName d)) H'
theorem take_one {α : Type} {l : List α} {i : Nat} {x : α} (h : l[i]? = some x) : l.take (i + 1) = l.take i ++ [x] := by
  rw [List.take_add_one, h] <;> rfl
section
variable {P : Program} {w : World} {h : Heap} {K : PySem.W.Frag} {mg : Str → Option Value} {base : Heap}
abbrev N_is_name : List Str := ["value", "sign"]
theorem sc_is_name : FnScope N_is_name ["value"] (defScope sd_is_name) := ⟨rfl, rfl, rfl, by decide +kernel, rfl, by decide +kernel, by decide +kernel⟩
theorem ok_is_name (T : Tx w h K mg) : Ok P w K mg base 1 ("is_name", none) ["value"] (sp_is_name K) := by
  obtain ⟨fd, F⟩ := F_is_name T
  refine ⟨fd, ?_, F.bindsN (fun _ _ _ _ _ _ us hl => match us, hl with | [_], _ => rfl), F.kp⟩
  obtain ⟨tm_LETTERS, m_LETTERS⟩ := i_LETTERS T
  obtain ⟨tm_MOST_LETTERS, m_MOST_LETTERS⟩ := i_MOST_LETTERS T
  refine F.ok sc_is_name (fun vs H Q E h => ?_) (fun cdv A outer s H vs Q E hr h => ?_)
  · obtain ⟨v, d, rfl, hd, hl, q⟩ := h
    rfl
  · obtain ⟨v, d, rfl, hd, hl, q⟩ := h
    refine ⟨_, PSs.nox (pss_one (ps_ret (pe_and (pe_callB call_isi rfl (fr_isinstance T) b_isinstance (pa_cons (pv 0) (pa_cons (pe_bltn (v := .ty "str") rfl (fr_str T) b_str rfl) pa_nil))) (pe_and (pe_chain op_le op_le pe_int (pe_callB call_len_str rfl (fr_len T) b_len (pa_cons (pv 0) pa_nil)) (pe_glob (v := .int 8) rfl m_MOST_LETTERS ⟨_, rfl⟩)) (pe_one (pe_callB (cr_all rfl) rfl (fr_all T) b_all (pa_cons (pe_lc (own := [("sign", 1)]) rfl sc_is_name.nd (pi_str (pv 0)) (blkOk_by (N := N_is_name) (sc := defScope sd_is_name) (by decide +kernel)) (fun _ _ _ _ _ => (pg_name (i := 1) sc_is_name.nd rfl (Or.inl rfl))) (fun _ _ _ _ _ => pts_nil) (fun _ _ _ _ _ => (pe_cmpR op_in_sign (pv 1) (pe_glob (v := .str "abcdefghijklmnopqrstuvwxyz") rfl m_LETTERS ⟨_, rfl⟩) (by rfl)))) pa_nil))))))), ?_⟩
    refine ⟨_, rfl, v, .ty "str", _, _, _, rfl, .ty _, dp_ty hd, k_str d, _, rfl, ite_of (fun h1 => ?_) (fun h1 => ?_)⟩
    · obtain ⟨x, rfl⟩ : ∃ x, d = .str x := by cases d <;> first | exact ⟨_, rfl⟩ | cases h1
      obtain rfl := dp_str hd
      have hx := hl x rfl
      have e1 : isName (.str x) = ((decide ((1 : Int) ≤ x.length) && decide ((x.length : Int) ≤ 8)) && x.cps.toList.all fun c => decide (c ∈ letters)) := rfl
      rw [e1] at q
      refine ⟨_, rfl, x, rfl, sz hx, _, _, rfl, rfl, _, rfl, ite_of (fun h2 => ?_) (fun h2 => ?_)⟩
      · refine ⟨_, _, rfl, rfl, _, rfl, ite_of (fun h3 => ?_) (fun h3 => ?_)⟩
        · refine ⟨_, rfl, x, rfl, fun D hD => lc_it walk_str (fun i H' => Ex H H' ∧ H' D = some (.lst ((x.cps.toList.take i).map fun c => V.bl (decide (c ∈ letters))))) ?_ (fun _ _ _ _ => True.intro) ?_ ?_⟩
          · exact ⟨exu (Evl.Ex.refl H) hD, upd_same⟩
          · rintro i y H1 H2 hi ⟨k1, k2⟩ ⟨rfl, c, hc, rfl⟩
            refine ⟨rfl, ?_⟩
            refine ⟨_, rfl, c, _, rfl, rfl, _, k2, szl ?_, exm k1 hD, ?_⟩
            · have e2 : x.cps.size = x.length := rfl
              rw [List.length_map, List.length_take]
              omega
            · have hc' : x.cps.toList[i]? = some c := by simpa using hc
              rw [take_one hc', List.map_append, upd_same] <;> rfl
          · rintro H1 ⟨k1, k2⟩
            refine ⟨D, x.cps.toList.map fun c => decide (c ∈ letters), rfl, Evl.sq_of ?_, ?_⟩
            · have e4 : x.cps.size = x.cps.toList.length := by simp
              rw [k2, e4, List.take_length, List.map_map] <;> rfl
            · rw [h2, h3] at q
              have e3 : ((x.cps.toList.map fun c => decide (c ∈ letters)).all id) = x.cps.toList.all fun c => decide (c ∈ letters) := by simp [List.all_map]
              rw [e3]
              exact q H1 k1
        · rw [h2, h3] at q
          exact q H (Evl.Ex.refl H)
      · refine ⟨_, rfl, itF rfl ?_⟩
        rw [h2] at q
        exact q H (Evl.Ex.refl H)
    · have e : isName d = false := by cases d <;> first | rfl | cases h1
      rw [e] at q
      exact q H (Evl.Ex.refl H)
end

end Fc

set_option maxRecDepth 100000
set_option maxHeartbeats 4000000
namespace Fc
open PySem PySem.Spec PyProof.Rows L2 FcR
open Evl (Ex)
/-! ### statements, whatever their parts are -/
theorem at0 {α : Type} {v : α} {r : List α} : atI (v :: r) 0 = some v := atI_nat (j := 0) rfl
theorem at1 {α : Type} {u v : α} {r : List α} : atI (u :: v :: r) 1 = some v := atI_nat (j := 1) rfl
theorem at2 {α : Type} {t u v : α} {r : List α} : atI (t :: u :: v :: r) 2 = some v := atI_nat (j := 2) rfl
def szD (d : PyData) : Prop := ∀ k x r, d = .tuple (k :: .str x :: r) → x.length ≤ 100000
def sp_is_statement (K : PySem.W.Frag) : Sp := fun vs H Q _ => ∃ (v : V) (d : PyData) (loops : Int), vs = [v, .int loops] ∧ Dp K H v d ∧ PyData.canLay0 d = true ∧ szD d ∧ ∀ H', Ex H H' → Q (.bl (isStm d loops)) H'
theorem eqv_nil (ds : List PyData) : PyData.eqv (.tuple ds) (.tuple []) = ds.isEmpty := by
  cases ds <;> simp [PyData.eqv, PyData.eqvAll]
theorem min_nil (d : PyData) : min d.depth (PyData.tuple []).depth ≤ 150 := Nat.le_trans (Nat.min_le_right _ _) (by decide)
theorem inV_strs (k : Str) (l : List Str) : inV (.str k) (l.map V.str) = decide (k ∈ l) := by
  unfold inV
  rw [List.any_map]
  induction l with
  | nil => rfl
  | cons a l ih =>
    rw [List.any_cons, ih]
    show ((a == k) || decide (k ∈ l)) = decide (k ∈ a :: l)
    by_cases h : a = k
    · subst h; simp
    · have h2 : (a == k) = false := by simpa using h
      have h3 : ¬ k = a := fun e => h e.symm
      simp [h2, h3]
theorem flat_strs (l : List Str) : (l.map V.str).all flatV = true := by
  rw [List.all_map]
  exact List.all_eq_true.mpr fun _ _ => rfl
theorem named_two {k : Str} {n : Int} (h : k ∈ kNamed) (e : kSizes.lookup k = some n) : 2 ≤ n := by
  simp only [kNamed, List.mem_cons, List.not_mem_nil, or_false] at h
  rcases h with rfl | rfl | rfl | rfl
  · have : kSizes.lookup ("do" : Str) = some 2 := by decide +kernel
    rw [this] at e; cases e; decide
  · have : kSizes.lookup ("call" : Str) = some 2 := by decide +kernel
    rw [this] at e; cases e; decide
  · have : kSizes.lookup ("if" : Str) = some 4 := by decide +kernel
    rw [this] at e; cases e; decide
  · have : kSizes.lookup ("while" : Str) = some 3 := by decide +kernel
    rw [this] at e; cases e; decide
theorem jumps_two {k : Str} {n : Int} (h : k ∈ kJumps) (e : kSizes.lookup k = some n) : n = 2 := by
  simp only [kJumps, List.mem_cons, List.not_mem_nil, or_false] at h
  rcases h with rfl | rfl
  · have : kSizes.lookup ("break" : Str) = some 2 := by decide +kernel
    rw [this] at e; cases e; rfl
  · have : kSizes.lookup ("continue" : Str) = some 2 := by decide +kernel
    rw [this] at e; cases e; rfl
theorem seq_two {n : Int} (e : kSizes.lookup ("seq" : Str) = some n) : n = 2 := by
  have : kSizes.lookup ("seq" : Str) = some 2 := by decide +kernel
  rw [this] at e; cases e; rfl
theorem lookup_mem {k : Str} {n : Int} : ∀ {l : List (Str × Int)}, l.lookup k = some n → (k, n) ∈ l
  | [], h => by cases h
  | (a, b) :: l, h => by
    rw [List.lookup_cons] at h
    by_cases e : k = a
    · subst e
      have e2 : (k == k) = true := by simp
      rw [e2] at h
      cases h
      exact List.mem_cons_self
    · have e2 : (k == a) = false := by simpa using e
      rw [e2] at h
      exact List.mem_cons_of_mem _ (lookup_mem h)
theorem lookup_none {k : Str} : ∀ {l : List (Str × Int)}, l.lookup k = none → k ∉ l.map (·.1)
  | [], _ => fun h => by cases h
  | (a, b) :: l, h => by
    rw [List.lookup_cons] at h
    by_cases e : k = a
    · subst e
      have e2 : (k == k) = true := by simp
      rw [e2] at h
      cases h
    · have e2 : (k == a) = false := by simpa using e
      rw [e2] at h
      intro m
      rcases List.mem_cons.mp m with m | m
      · exact e m
      · exact lookup_none h m
section
variable {P : Program} {w : World} {h : Heap} {K : PySem.W.Frag} {mg : Str → Option Value} {base : Heap}
theorem sizes_ns (T : Tx w h K mg) (k : Str) : ∃ r, PySem.W.nsIn K (He.ga K "SIZES") k = some r ∧ (match kSizes.lookup k with
    | none => r = none
    | some n => ∃ u, r = some u ∧ RelV (.int n) u) := by
  cases e : kSizes.lookup k with
  | none => exact ⟨none, ns_none (dk_SIZES T) (lookup_none e), rfl⟩
  | some n =>
    have m := lookup_mem e
    have m2 : (k, He.Dv.int n) ∈ ([("do", .int 2), ("call", .int 2), ("if", .int 4), ("while", .int 3), ("seq", .int 2), ("break", .int 2), ("continue", .int 2), ("return", .int 1), ("raise", .int 1), ("try", .int 3), ("final", .int 3)] : List (Str × He.Dv)) :=
      List.mem_map_of_mem (f := fun q : Str × Int => (q.1, He.Dv.int q.2)) m
    obtain ⟨u, e1, e2⟩ := v_SIZES T m2
    exact ⟨some u, e1, u, rfl, e2⟩
abbrev N_is_statement : List Str := ["value", "loops"]
theorem sc_is_statement : FnScope N_is_statement ["value", "loops"] (defScope sd_is_statement) := ⟨rfl, rfl, rfl, by decide +kernel, rfl, by decide +kernel, by decide +kernel⟩
theorem ok_is_statement (T : Tx w h K mg) : Ok P w K mg base 3 ("is_statement", none) ["value", "loops"] (sp_is_statement K) := by
  obtain ⟨fd, F⟩ := F_is_statement T
  refine ⟨fd, ?_, F.bindsN (fun _ _ _ _ _ _ us hl => match us, hl with | [_, _], _ => rfl), F.kp⟩
  obtain ⟨fd_is_between, G_is_between, bi_is_between, kp_is_between⟩ := ok_is_between (P := P) (base := base) T
  obtain ⟨fd_is_name, G_is_name, bi_is_name, kp_is_name⟩ := ok_is_name (P := P) (base := base) T
  obtain ⟨es, nE, D⟩ := d_SIZES T
  refine F.ok sc_is_statement (fun vs H Q E h => ?_) (fun cdv A outer s H vs Q E hr h => ?_)
  · obtain ⟨v, d, loops, rfl, hd, hc, hz, q⟩ := h
    rfl
  · obtain ⟨v, d, loops, rfl, hd, hc, hz, q⟩ := h
    refine ⟨_, PSs.nox (pss_cons (ps_if (PW.pt (pw_or (pt_not (pt_val (pe_callB call_isi rfl (fr_isinstance T) b_isinstance (pa_cons (pv 0) (pa_cons (pe_bltn (v := .ty "tuple") rfl (fr_tuple T) b_tuple rfl) pa_nil))))) (pw_or (pt_cmpR (op_eqM hr) (pv 0) (pe_tup pa_nil) (nomark _)) (pw_or1 (pt_not (pt_val (pe_callB call_isi rfl (fr_isinstance T) b_isinstance (pa_cons (pe_ix ix_tup (pv 0) pe_int (fun _ _ => rfl)) (pa_cons (pe_bltn (v := .ty "str") rfl (fr_str T) b_str rfl) pa_nil))))))))) (pss_one (ps_ret pe_bl)) pss_nil) (pss_cons (ps_if (PW.pt (pw_or (pt_cmpR (op_notIn_kd D) (pe_ix ix_tup (pv 0) pe_int (fun _ _ => rfl)) (pe_glob (v := .ref (He.ga K "SIZES")) rfl (g_SIZES T) rfl) (by rfl)) (pw_or1 (pt_cmpR op_ne (pe_callB call_len_seq rfl (fr_len T) b_len (pa_cons (pv 0) pa_nil)) (pe_ix ix_kdict (pe_glob (v := .ref (He.ga K "SIZES")) rfl (g_SIZES T) rfl) (pe_ix ix_tup (pv 0) pe_int (fun _ _ => rfl)) (fun _ _ => rfl)) (nomark _))))) (pss_one (ps_ret pe_bl)) pss_nil) (pss_cons (ps_if (pt_cmpR op_in_seq (pe_ix ix_tup (pv 0) pe_int (fun _ _ => rfl)) (pe_glob (v := .ref (He.ga K "NAMED")) rfl (g_NAMED T) rfl) (by rfl)) (pss_one (ps_ret (pe_call G_is_name (hr.mono (by decide)) rfl (g_is_name T) kp_is_name bi_is_name .nil passF (pa_cons (pe_ix ix_tup (pv 0) pe_int (fun _ _ => rfl)) pa_nil)))) pss_nil) (pss_cons (ps_if (pt_cmpR op_in_seq (pe_ix ix_tup (pv 0) pe_int (fun _ _ => rfl)) (pe_glob (v := .ref (He.ga K "JUMPS")) rfl (g_JUMPS T) rfl) (by rfl)) (pss_one (ps_ret (pe_call G_is_between (hr.mono (by decide)) rfl (g_is_between T) kp_is_between bi_is_between .nil passF (pa_cons (pe_ix ix_tup (pv 0) pe_int (fun _ _ => rfl)) (pa_cons pe_int (pa_cons (pv 1) pa_nil)))))) pss_nil) (pss_one (ps_ret (pe_or (pe_cmpR op_ne (pe_ix ix_tup (pv 0) pe_int (fun _ _ => rfl)) pe_str (nomark _)) (pe_one (pe_and (pe_callB call_isi rfl (fr_isinstance T) b_isinstance (pa_cons (pe_ix ix_tup (pv 0) pe_int (fun _ _ => rfl)) (pa_cons (pe_bltn (v := .ty "tuple") rfl (fr_tuple T) b_tuple rfl) pa_nil))) (pe_one (pe_cmpR (op_neM hr) (pe_ix ix_tup (pv 0) pe_int (fun _ _ => rfl)) (pe_tup pa_nil) (nomark _)))))))))))), ?_⟩
    refine ⟨_, rfl, v, .ty "tuple", _, _, _, rfl, .ty _, dp_ty hd, k_tuple d, _, rfl, ite_of (fun h1 => ?_) (fun h1 => ?_)⟩
    · have e : isStm d loops = false := by cases d <;> first | rfl | cases h1
      rw [e] at q
      exact q H (Evl.Ex.refl H)
    obtain ⟨ds, rfl⟩ : ∃ ds, d = .tuple ds := by cases d <;> first | exact ⟨_, rfl⟩ | cases h1
    obtain ⟨a, xs, rfl, hS, hA⟩ := dp_tup hd
    -- value == ()
    refine ⟨_, rfl, sz (by decide), fun p hp => ?_⟩
    have x1 : Ex H (upd H p (.tup [])) := exu (Evl.Ex.refl H) hp
    refine ⟨.tuple ds, .tuple [], dp_ex x1 hd, .tup (Evl.st_of upd_same) .nil, hc, rfl, min_nil _, _, rfl, ite_of (fun h2 => ?_) (fun h2 => ?_)⟩
    · rw [eqv_nil] at h2
      cases ds with
      | nil => exact q _ x1
      | cons _ _ => cases h2
    rw [eqv_nil] at h2
    cases hA with
    | nil => cases h2
    | @cons v0 xr d0 dr h0 hA =>
    have hS1 := Evl.ex_t x1 hS
    -- not isinstance(value[0], str)
    refine ⟨_, rfl, a, _, _, _, rfl, rfl, hS1, at0, v0, .ty "str", _, _, _, rfl, .ty _, dp_ty (dp_ex x1 h0), k_str d0, _, rfl, ite_of (fun h3 => ?_) (fun h3 => ?_)⟩
    · have e : isStm (.tuple (d0 :: dr)) loops = false := by cases d0 <;> first | rfl | cases h3
      rw [e] at q
      exact q _ x1
    obtain ⟨k, rfl⟩ : ∃ k, d0 = .str k := by cases d0 <;> first | exact ⟨_, rfl⟩ | cases h3
    obtain rfl := dp_str h0
    have el := dpA_len hA
    obtain ⟨r, n1, n2⟩ := sizes_ns T k
    -- value[0] not in SIZES
    refine ⟨_, rfl, a, _, _, _, rfl, rfl, hS1, at0, k, r, rfl, rfl, n1, _, rfl, ite_of (fun h4 => ?_) (fun h4 => ?_)⟩
    · have e : isStm (.tuple (.str k :: dr)) loops = false := by
        cases e1 : kSizes.lookup k with
        | none => simp only [isStm, e1]
        | some n =>
          rw [e1] at n2
          obtain ⟨u, rfl, _⟩ := n2
          cases h4
      rw [e] at q
      exact q _ x1
    cases e1 : kSizes.lookup k with
    | none =>
      rw [e1] at n2
      subst n2
      cases h4
    | some n =>
    rw [e1] at n2
    obtain ⟨u, rfl, ru⟩ := n2
    have q' : ∀ b, (isStm (.tuple (.str k :: dr)) loops = b) → ∀ H', Ex H H' → Q (.bl b) H' := fun b e => by rw [← e]; exact q
    -- len(value) != SIZES[value[0]]
    refine ⟨_, rfl, a, _, rfl, .inr hS1, _, rfl, a, _, _, _, rfl, rfl, hS1, at0, _, k, .int n, rfl, rfl, ⟨es, nE, u, D.at_, D.lit, n1, ru⟩, rfl, _, rfl, ite_of (fun h5 => ?_) (fun h5 => ?_)⟩
    · refine q' false ?_ _ x1
      have h6 : ¬ ((dr.length : Int) + 1 = n) := by
        intro e
        have : decide (V.int ((V.str k :: xr).length : Int) = V.int n) = true := decide_eq_true (by rw [List.length_cons, el]; congr 1)
        rw [this] at h5
        cases h5
      simp only [isStm, e1, if_pos h6]
    have hn : (dr.length : Int) + 1 = n := by
      have h6 : decide (V.int ((V.str k :: xr).length : Int) = V.int n) = true := by
        cases z : decide (V.int ((V.str k :: xr).length : Int) = V.int n) with
        | true => rfl
        | false => rw [z] at h5; cases h5
      have h7 := V.int.inj (of_decide_eq_true h6)
      rw [List.length_cons, el] at h7
      omega
    have es0 : isStm (.tuple (.str k :: dr)) loops = (if k ∈ kNamed then isName (dr.getD 0 .none) else if k ∈ kJumps then isNum 1 loops (dr.getD 0 .none) else (if k ≠ "seq" then true else nonEmptyT (dr.getD 0 .none))) := by
      simp only [isStm, e1, if_neg (show ¬ ((dr.length : Int) + 1 ≠ n) from fun z => z hn)]
    -- value[0] in NAMED
    refine ⟨_, rfl, a, _, _, _, rfl, rfl, hS1, at0, He.ga K "NAMED", _, rfl, .inr (t_NAMED T _), rfl, flat_strs kNamed, _, rfl, ite_of (fun h6 => ?_) (fun h6 => ?_)⟩
    · have h6 : inV (.str k) (kNamed.map V.str) = true := h6
      rw [inV_strs] at h6
      have hk := of_decide_eq_true h6
      have n2 := named_two hk e1
      cases hA with
      | nil => simp at hn; omega
      | @cons v1 xr d1 dr g1 hA =>
      refine ⟨_, rfl, a, _, _, _, rfl, rfl, hS1, at1, v1, d1, rfl, dp_ex x1 g1, fun x e => hz (.str k) x dr (by rw [e]), fun H' x2 => q' _ ?_ H' (x1.trans x2)⟩
      rw [es0, if_pos hk] <;> rfl
    have h6 : inV (.str k) (kNamed.map V.str) = false := h6
    rw [inV_strs] at h6
    have hk : ¬ k ∈ kNamed := of_decide_eq_false h6
    -- value[0] in JUMPS
    refine ⟨_, rfl, a, _, _, _, rfl, rfl, hS1, at0, He.ga K "JUMPS", _, rfl, .inr (t_JUMPS T _), rfl, flat_strs kJumps, _, rfl, ite_of (fun h7 => ?_) (fun h7 => ?_)⟩
    · have h7 : inV (.str k) (kJumps.map V.str) = true := h7
      rw [inV_strs] at h7
      have hj := of_decide_eq_true h7
      have n2 := jumps_two hj e1
      cases hA with
      | nil => simp at hn; omega
      | @cons v1 xr d1 dr g1 hA =>
      have e2 : isStm (.tuple (.str k :: d1 :: dr)) loops = isNum 1 loops d1 := by rw [es0, if_neg hk, if_pos hj] <;> rfl
      refine ⟨_, rfl, a, _, _, _, rfl, rfl, hS1, at1, _, rfl, v1, 1, loops, rfl, ?_⟩
      cases d1 with
      | int m =>
        obtain rfl := dp_int g1
        exact .inl ⟨m, rfl, q' _ e2 _ x1⟩
      | _ => exact .inr ⟨_, _, _, dp_ty (dp_ex x1 g1), k_int _, k_bool _, rfl, q' _ e2 _ x1⟩
    have h7 : inV (.str k) (kJumps.map V.str) = false := h7
    rw [inV_strs] at h7
    have hj : ¬ k ∈ kJumps := of_decide_eq_false h7
    rw [if_neg hk, if_neg hj] at es0
    -- value[0] != 'seq' or ..
    refine ⟨_, rfl, a, _, _, _, rfl, rfl, hS1, at0, rfl, _, rfl, ite_of (fun h8 => ?_) (fun h8 => ?_)⟩
    · have hs : k ≠ "seq" := by
        intro e
        subst e
        have z : decide (V.str "seq" = V.str "seq") = true := decide_eq_true rfl
        rw [z] at h8
        cases h8
      exact q' true (by rw [es0, if_pos hs]) _ x1
    have hs : k = "seq" := by
      cases z : decide (V.str k = V.str "seq") with
      | true => exact V.str.inj (of_decide_eq_true z)
      | false => rw [z] at h8; cases h8
    subst hs
    have n2 := seq_two e1
    cases hA with
    | nil => simp at hn; omega
    | @cons v1 xr d1 dr g1 hA =>
    rw [if_neg (fun z => z rfl)] at es0
    refine ⟨_, rfl, a, _, _, _, rfl, rfl, hS1, at1, v1, .ty "tuple", _, _, _, rfl, .ty _, dp_ty (dp_ex x1 g1), k_tuple d1, _, rfl, ite_of (fun h9 => ?_) (fun h9 => ?_)⟩
    · obtain ⟨es2, rfl⟩ : ∃ ds, d1 = .tuple ds := by cases d1 <;> first | exact ⟨_, rfl⟩ | cases h9
      refine ⟨_, rfl, a, _, _, _, rfl, rfl, hS1, at1, sz (by decide), fun p2 hp2 => ?_⟩
      have x2 : Ex H (upd (upd H p (.tup [])) p2 (.tup [])) := exu x1 hp2
      have hc1 : PyData.canLay0 (.tuple es2) = true := by
        have z : (PyData.canLay0 (.str "seq") && (PyData.canLay0 (.tuple es2) && PyData.canLayAll0 dr)) = true := hc
        exact (Bool.and_eq_true_iff.mp (Bool.and_eq_true_iff.mp z).2).1
      refine ⟨.tuple es2, .tuple [], dp_ex x2 g1, .tup (Evl.st_of upd_same) .nil, hc1, rfl, min_nil _, q' _ ?_ _ x2⟩
      rw [es0, eqv_nil]
      cases es2 <;> rfl
    · refine q' false ?_ _ x1
      rw [es0]
      cases d1 <;> first | rfl | cases h9
end

end Fc

set_option maxRecDepth 100000
set_option maxHeartbeats 4000000
namespace Fc
open PySem PySem.Spec PyProof.Rows L2 FcR
open Evl (Ex)
/-! ### slices -/
theorem sIx_le (n d : Nat) (o : Option Int) (h : d ≤ n) : HT.sIx n d o ≤ n ∨ ∃ v, o = some v ∧ v < 0 := by
  cases o with
  | none => exact .inl h
  | some v =>
    by_cases hv : v < 0
    · exact .inr ⟨v, rfl, hv⟩
    · refine .inl ?_
      show (if v < 0 then (v + (n : Int)).toNat else min v.toNat n) ≤ n
      rw [if_neg hv]
      exact Nat.min_le_right _ _
theorem sl_any {K : PySem.W.Frag} {H : Hp} {a : Addr} {xs : List V} {lo hi : Option Int} {Q : VK} (hS : SqT K H a xs) (k : ∀ p H', Ex H H' → SqT K H' p (cutV xs lo hi) → Q (.ref p) H') : rSlA K (.ref a) lo hi H Q := by
  refine ⟨a, xs, rfl, hS, fun h => k a H (Evl.Ex.refl H) ?_, fun _ p hp => k p _ (exu (Evl.Ex.refl H) hp) (Evl.st_of upd_same)⟩
  have e : cutV xs lo hi = xs := by
    unfold cutV
    rw [h.1, h.2]
    simp
  rw [e]
  exact hS
theorem cut_from (xs : List V) (n : Nat) : cutV xs (some (n : Int)) none = xs.drop n := by
  unfold cutV
  rw [HT.sIx_none, HT.sIx_nat]
  by_cases h : n ≤ xs.length
  · rw [Nat.min_eq_left h, List.take_of_length_le (by rw [List.length_drop]; omega)]
  · rw [Nat.min_eq_right (by omega), List.drop_eq_nil_of_le (by omega), List.drop_eq_nil_of_le (by omega)]
    simp
theorem cut_to (xs : List V) (n : Nat) : cutV xs none (some (n : Int)) = xs.take n := by
  unfold cutV
  rw [HT.sIx_none, HT.sIx_nat]
  simp only [List.drop_zero, Nat.sub_zero]
  by_cases h : n ≤ xs.length
  · rw [Nat.min_eq_left h]
  · rw [Nat.min_eq_right (by omega), List.take_of_length_le (Nat.le_refl _), List.take_of_length_le (by omega)]
/-! ### the parts that are looked at -/
def sp_parts_in (K : PySem.W.Frag) : Sp := fun vs H Q _ => ∃ (F : Hp) (v : V) (d : PyData) (loops : Int), vs = [v] ∧ Ex F H ∧ Dp K F v d ∧ isStm d loops = true ∧
  ∀ p H' xs, H p = none → Ex H H' → H' p = some (.lst xs) → DpAll K F xs (partsD d) → Q (.ref p) H'
theorem isStm_shape {d : PyData} {loops : Int} (h : isStm d loops = true) : ∃ k r n, d = .tuple (.str k :: r) ∧ kSizes.lookup k = some n ∧ (r.length : Int) + 1 = n ∧
    (if k ∈ kNamed then isName (r.getD 0 .none) else if k ∈ kJumps then isNum 1 loops (r.getD 0 .none) else (if k ≠ "seq" then true else nonEmptyT (r.getD 0 .none))) = true := by
  unfold isStm at h
  split at h
  · rename_i k r
    split at h
    · cases h
    · rename_i n e
      split at h
      · cases h
      · rename_i hn
        exact ⟨k, r, n, rfl, e, Decidable.not_not.mp hn, h⟩
  · cases h
theorem fresh_up {H H' : Hp} {p : Addr} (e : Ex H H') (h : H' p = none) : H p = none := Evl.fresh_back e h
section
variable {P : Program} {w : World} {h : Heap} {K : PySem.W.Frag} {mg : Str → Option Value} {base : Heap}
abbrev N_parts_in : List Str := ["statement"]
theorem sc_parts_in : FnScope N_parts_in ["statement"] (defScope sd_parts_in) := ⟨rfl, rfl, rfl, by decide +kernel, rfl, by decide +kernel, by decide +kernel⟩
theorem ok_parts_in (T : Tx w h K mg) : Ok P w K mg base 1 ("parts_in", none) ["statement"] (sp_parts_in K) := by
  obtain ⟨fd, F⟩ := F_parts_in T
  refine ⟨fd, ?_, F.bindsN (fun _ _ _ _ _ _ us hl => match us, hl with | [_], _ => rfl), F.kp⟩
  obtain ⟨tm_MOST_STATEMENTS, m_MOST_STATEMENTS⟩ := i_MOST_STATEMENTS T
  refine F.ok sc_parts_in (fun vs H Q E h => ?_) (fun cdv A outer s H vs Q E hr h => ?_)
  · obtain ⟨F0, v, d, loops, rfl, xF, hd, hs, q⟩ := h
    rfl
  · obtain ⟨F0, v, d, loops, rfl, xF, hd, hs, q⟩ := h
    refine ⟨_, PSs.nox (pss_cons (ps_if (pt_cmpR op_eq (pe_ix ix_tup (pv 0) pe_int (fun _ _ => rfl)) pe_str (nomark _)) (pss_one (ps_ret (pe_callTy call_list_of rfl (fr_list T) b_list (pa_cons (pe_slice sl_tupA (pe_ix ix_tup (pv 0) pe_int (fun _ _ => rfl)) po_none (po_some (pe_op op_add (pe_glob (v := .int 400) rfl m_MOST_STATEMENTS ⟨_, rfl⟩) pe_int))) pa_nil)))) pss_nil) (pss_cons (ps_if (pt_cmpR op_in_seq (pe_ix ix_tup (pv 0) pe_int (fun _ _ => rfl)) (pe_glob (v := .ref (He.ga K "NAMED")) rfl (g_NAMED T) rfl) (by rfl)) (pss_one (ps_ret (pe_callTy call_list_of rfl (fr_list T) b_list (pa_cons (pe_slice sl_tupA (pv 0) (po_some pe_int) po_none) pa_nil)))) pss_nil) (pss_one (ps_ret (pe_ifExp (pt_cmpR op_in_seq (pe_ix ix_tup (pv 0) pe_int (fun _ _ => rfl)) (pe_tup (pa_cons pe_str (pa_cons pe_str pa_nil))) (by rfl)) (pe_callTy call_list_of rfl (fr_list T) b_list (pa_cons (pe_slice sl_tupA (pv 0) (po_some pe_int) po_none) pa_nil)) (pe_lst pa_nil)))))), ?_⟩
    obtain ⟨k, r, n, rfl, e1, hn, hs⟩ := isStm_shape hs
    obtain ⟨a, xs, rfl, hS, hA⟩ := dp_tup hd
    have hS := Evl.ex_t xF hS
    cases hA with
    | @cons v0 xr _ _ h0 hA =>
    obtain rfl := dp_str h0
    refine ⟨_, rfl, a, _, _, _, rfl, rfl, hS, at0, rfl, _, rfl, ite_of (fun h1 => ?_) (fun h1 => ?_)⟩
    · have hk : k = "seq" := V.str.inj (of_decide_eq_true h1)
      subst hk
      have n2 := seq_two e1
      have nn : ¬ (("seq" : Str) ∈ kNamed) := by decide +kernel
      have nj : ¬ (("seq" : Str) ∈ kJumps) := by decide +kernel
      rw [if_neg nn, if_neg nj, if_neg (fun z => z rfl)] at hs
      cases hA with
      | nil => simp at hn; omega
      | @cons v1 xr d1 dr g1 hA =>
      obtain ⟨ps, rfl⟩ : ∃ ps, d1 = .tuple ps := by cases d1 <;> first | exact ⟨_, rfl⟩ | cases hs
      obtain ⟨b, ys, rfl, gS, gA⟩ := dp_tup g1
      have gS := Evl.ex_t xF gS
      refine ⟨_, rfl, a, _, _, _, rfl, rfl, hS, at1, _, _, rfl, rfl, _, rfl, ?_⟩
      refine sl_any (lo := none) gS fun p H1 x1 s1 => ?_
      refine ⟨p, _, rfl, .inr s1, fun l hl => q l _ _ (fresh_up x1 hl) (exu x1 hl) upd_same ?_⟩
      rw [show ((400 : Int) + 1) = ((401 : Nat) : Int) from rfl, cut_to]
      exact dpA_take 401 gA
    have hk : ¬ k = "seq" := fun e => by
      have z : decide (V.str k = V.str "seq") = true := decide_eq_true (by rw [e])
      rw [z] at h1
      cases h1
    refine ⟨_, rfl, a, _, _, _, rfl, rfl, hS, at0, He.ga K "NAMED", _, rfl, .inr (t_NAMED T _), rfl, flat_strs kNamed, _, rfl, ite_of (fun h2 => ?_) (fun h2 => ?_)⟩
    · have h2 : inV (.str k) (kNamed.map V.str) = true := h2
      rw [inV_strs] at h2
      have hm := of_decide_eq_true h2
      refine ⟨_, rfl, _, rfl, ?_⟩
      dsimp only [tNoPart]
      refine sl_any (hi := none) hS fun p H1 x1 s1 => ?_
      refine ⟨p, _, rfl, .inr s1, fun l hl => q l _ _ (fresh_up x1 hl) (exu x1 hl) upd_same ?_⟩
      rw [show (2 : Int) = ((2 : Nat) : Int) from rfl, cut_from]
      show DpAll K F0 (xr.drop 1) (partsD (.tuple (.str k :: r)))
      rw [show partsD (.tuple (.str k :: r)) = r.drop 1 from by simp only [partsD, if_neg hk, if_pos hm]]
      exact dpA_drop 1 hA
    have h2 : inV (.str k) (kNamed.map V.str) = false := h2
    rw [inV_strs] at h2
    have hm : ¬ k ∈ kNamed := of_decide_eq_false h2
    refine ⟨_, rfl, a, _, _, _, rfl, rfl, hS, at0, sz (by decide), fun p0 hp0 => ⟨p0, _, rfl, .inr (Evl.st_of upd_same), rfl, flat_strs ["try", "final"], _, rfl, ite_of (fun h3 => ?_) (fun h3 => ?_)⟩⟩
    · have h3 : inV (.str k) ((["try", "final"] : List Str).map V.str) = true := h3
      rw [inV_strs] at h3
      have ht : k = "try" ∨ k = "final" := by simpa using of_decide_eq_true h3
      have x0 : Ex H (upd H p0 (.tup [.str "try", .str "final"])) := exu (Evl.Ex.refl H) hp0
      refine ⟨_, rfl, _, rfl, ?_⟩
      dsimp only [tNoPart]
      refine sl_any (hi := none) (Evl.ex_t x0 hS) fun p H1 x1 s1 => ?_
      have x2 := x0.trans x1
      refine ⟨p, _, rfl, .inr s1, fun l hl => q l _ _ (fresh_up x2 hl) (exu x2 hl) upd_same ?_⟩
      rw [show (1 : Int) = ((1 : Nat) : Int) from rfl, cut_from]
      show DpAll K F0 xr (partsD (.tuple (.str k :: r)))
      rw [show partsD (.tuple (.str k :: r)) = r from by simp only [partsD, if_neg hk, if_neg hm, if_pos ht]]
      exact hA
    · have h3 : inV (.str k) ((["try", "final"] : List Str).map V.str) = false := h3
      rw [inV_strs] at h3
      have ht : ¬ (k = "try" ∨ k = "final") := by simpa using of_decide_eq_false h3
      have x0 : Ex H (upd H p0 (.tup [.str "try", .str "final"])) := exu (Evl.Ex.refl H) hp0
      refine ⟨sz (by decide), fun l hl => q l _ _ (fresh_up x0 hl) (exu x0 hl) upd_same ?_⟩
      rw [show partsD (.tuple (.str k :: r)) = [] from by simp only [partsD, if_neg hk, if_neg hm, if_neg ht]]
      exact .nil
end

end Fc

set_option maxRecDepth 100000
set_option maxHeartbeats 4000000
namespace Fc
open PySem PySem.Spec PyProof.Rows L2 FcR
open Evl (Ex)
def fl_Code (v0 v1 v2 v3 v4 : V) : List (Str × V) := [("statements", v0), ("kinds", v1), ("labels", v2), ("parents", v3), ("children", v4)]
theorem fl_Code_statements (v0 v1 v2 v3 v4 : V) : (fl_Code v0 v1 v2 v3 v4).lookup ("statements" : Str) = some v0 := by kernel_rfl
theorem fp_Code_statements (v0 v1 v2 v3 v4 y : V) : putF "statements" y (fl_Code v0 v1 v2 v3 v4) = fl_Code y v1 v2 v3 v4 := by kernel_rfl
theorem fl_Code_kinds (v0 v1 v2 v3 v4 : V) : (fl_Code v0 v1 v2 v3 v4).lookup ("kinds" : Str) = some v1 := by kernel_rfl
theorem fp_Code_kinds (v0 v1 v2 v3 v4 y : V) : putF "kinds" y (fl_Code v0 v1 v2 v3 v4) = fl_Code v0 y v2 v3 v4 := by kernel_rfl
theorem fl_Code_labels (v0 v1 v2 v3 v4 : V) : (fl_Code v0 v1 v2 v3 v4).lookup ("labels" : Str) = some v2 := by kernel_rfl
theorem fp_Code_labels (v0 v1 v2 v3 v4 y : V) : putF "labels" y (fl_Code v0 v1 v2 v3 v4) = fl_Code v0 v1 y v3 v4 := by kernel_rfl
theorem fl_Code_parents (v0 v1 v2 v3 v4 : V) : (fl_Code v0 v1 v2 v3 v4).lookup ("parents" : Str) = some v3 := by kernel_rfl
theorem fp_Code_parents (v0 v1 v2 v3 v4 y : V) : putF "parents" y (fl_Code v0 v1 v2 v3 v4) = fl_Code v0 v1 v2 y v4 := by kernel_rfl
theorem fl_Code_children (v0 v1 v2 v3 v4 : V) : (fl_Code v0 v1 v2 v3 v4).lookup ("children" : Str) = some v4 := by kernel_rfl
theorem fp_Code_children (v0 v1 v2 v3 v4 y : V) : putF "children" y (fl_Code v0 v1 v2 v3 v4) = fl_Code v0 v1 v2 v3 y := by kernel_rfl
theorem fm_Code_check (v0 v1 v2 v3 v4 : V) : (fl_Code v0 v1 v2 v3 v4).lookup ("check" : Str) = none := by kernel_rfl
theorem fm_Code_keep (v0 v1 v2 v3 v4 : V) : (fl_Code v0 v1 v2 v3 v4).lookup ("keep" : Str) = none := by kernel_rfl
theorem fm_Code_check_number (v0 v1 v2 v3 v4 : V) : (fl_Code v0 v1 v2 v3 v4).lookup ("check_number" : Str) = none := by kernel_rfl
theorem fm_Code_kind (v0 v1 v2 v3 v4 : V) : (fl_Code v0 v1 v2 v3 v4).lookup ("kind" : Str) = none := by kernel_rfl
theorem fm_Code_entry_of (v0 v1 v2 v3 v4 : V) : (fl_Code v0 v1 v2 v3 v4).lookup ("entry_of" : Str) = none := by kernel_rfl
theorem fm_Code_is_place (v0 v1 v2 v3 v4 : V) : (fl_Code v0 v1 v2 v3 v4).lookup ("is_place" : Str) = none := by kernel_rfl
theorem fm_Code_parent (v0 v1 v2 v3 v4 : V) : (fl_Code v0 v1 v2 v3 v4).lookup ("parent" : Str) = none := by kernel_rfl
theorem fm_Code_parts (v0 v1 v2 v3 v4 : V) : (fl_Code v0 v1 v2 v3 v4).lookup ("parts" : Str) = none := by kernel_rfl
theorem fm_Code_places (v0 v1 v2 v3 v4 : V) : (fl_Code v0 v1 v2 v3 v4).lookup ("places" : Str) = none := by kernel_rfl
theorem fm_Code_entry (v0 v1 v2 v3 v4 : V) : (fl_Code v0 v1 v2 v3 v4).lookup ("entry" : Str) = none := by kernel_rfl
theorem fm_Code_layers (v0 v1 v2 v3 v4 : V) : (fl_Code v0 v1 v2 v3 v4).lookup ("layers" : Str) = none := by kernel_rfl
theorem fm_Code_layers_of (v0 v1 v2 v3 v4 : V) : (fl_Code v0 v1 v2 v3 v4).lookup ("layers_of" : Str) = none := by kernel_rfl
theorem fm_Code_check_place (v0 v1 v2 v3 v4 : V) : (fl_Code v0 v1 v2 v3 v4).lookup ("check_place" : Str) = none := by kernel_rfl
theorem fi_Code_0 (v0 : V) : putF "statements" v0 ([] : List (Str × V)) = ([(("statements" : Str), v0)] : List (Str × V)) := by kernel_rfl
theorem fi_Code_1 (v0 v1 : V) : putF "kinds" v1 ([(("statements" : Str), v0)] : List (Str × V)) = ([(("statements" : Str), v0), (("kinds" : Str), v1)] : List (Str × V)) := by kernel_rfl
theorem fi_Code_2 (v0 v1 v2 : V) : putF "labels" v2 ([(("statements" : Str), v0), (("kinds" : Str), v1)] : List (Str × V)) = ([(("statements" : Str), v0), (("kinds" : Str), v1), (("labels" : Str), v2)] : List (Str × V)) := by kernel_rfl
theorem fi_Code_3 (v0 v1 v2 v3 : V) : putF "parents" v3 ([(("statements" : Str), v0), (("kinds" : Str), v1), (("labels" : Str), v2)] : List (Str × V)) = ([(("statements" : Str), v0), (("kinds" : Str), v1), (("labels" : Str), v2), (("parents" : Str), v3)] : List (Str × V)) := by kernel_rfl
theorem fi_Code_4 (v0 v1 v2 v3 v4 : V) : putF "children" v4 ([(("statements" : Str), v0), (("kinds" : Str), v1), (("labels" : Str), v2), (("parents" : Str), v3)] : List (Str × V)) = ([(("statements" : Str), v0), (("kinds" : Str), v1), (("labels" : Str), v2), (("parents" : Str), v3), (("children" : Str), v4)] : List (Str × V)) := by kernel_rfl

end Fc

set_option maxRecDepth 100000
set_option maxHeartbeats 4000000
namespace Fc
open PySem PySem.Spec PyProof.Rows L2 FcR
open Evl (Ex)
/-! ### the rows of a code -/
structure Row where
  d : PyData
  par : Option Nat
  ch : List Nat
def kindD : PyData → Str
  | .tuple (.str k :: _) => k
  | _ => ""
def kLab : List Str := kNamed ++ kJumps
def labD : PyData → V
  | .tuple (.str k :: r) => if k ∈ kLab then (match r with
      | .str x :: _ => .str x
      | .int n :: _ => .int n
      | _ => .non) else .non
  | _ => .non
def parV : Option Nat → V
  | none => .non
  | some i => .int (i : Int)
def intsV (l : List Nat) : List V := l.map fun n : Nat => V.int (n : Int)
/-- where a code's lists stand -/
structure CAd where
  p : Addr
  dx : Addr
  a1 : Addr
  a2 : Addr
  a3 : Addr
  a4 : Addr
  a5 : Addr
  cs : List Addr
def CAd.all (A : CAd) : List Addr := A.p :: A.a1 :: A.a2 :: A.a3 :: A.a4 :: A.a5 :: A.cs
def cFs (A : CAd) : List (Str × V) := fl_Code (.ref A.a1) (.ref A.a2) (.ref A.a3) (.ref A.a4) (.ref A.a5)
/-- a code's lists as they stand in H -/
structure CL (K : PySem.W.Frag) (H : Hp) (A : CAd) (L1 L2 L3 L4 : List V) (Cs : List (List V)) : Prop where
  ob : H A.p = some (.ins (He.ga K "Code") A.dx (cFs A))
  h1 : H A.a1 = some (.lst L1)
  h2 : H A.a2 = some (.lst L2)
  h3 : H A.a3 = some (.lst L3)
  h4 : H A.a4 = some (.lst L4)
  h5 : H A.a5 = some (.lst (A.cs.map V.ref))
  cl : A.cs.length = Cs.length
  cc : ∀ (i : Nat) (c : Addr) (x : List V), A.cs[i]? = some c → Cs[i]? = some x → H c = some (.lst x)
  nd : A.all.Nodup
section
variable {K : PySem.W.Frag} {F H H' : Hp} {A : CAd} {L1 L2 L3 L4 : List V} {Cs : List (List V)}
theorem CL.ex (x : CL K H A L1 L2 L3 L4 Cs) (e : Ex H H') : CL K H' A L1 L2 L3 L4 Cs :=
  ⟨e _ _ x.ob, e _ _ x.h1, e _ _ x.h2, e _ _ x.h3, e _ _ x.h4, e _ _ x.h5, x.cl, fun i c y h1 h2 => e _ _ (x.cc i c y h1 h2), x.nd⟩
theorem CL.ne (x : CL K H A L1 L2 L3 L4 Cs) :
    (A.p ≠ A.a1 ∧ A.p ≠ A.a2 ∧ A.p ≠ A.a3 ∧ A.p ≠ A.a4 ∧ A.p ≠ A.a5 ∧ A.p ∉ A.cs) ∧ (A.a1 ≠ A.a2 ∧ A.a1 ≠ A.a3 ∧ A.a1 ≠ A.a4 ∧ A.a1 ≠ A.a5 ∧ A.a1 ∉ A.cs) ∧
    (A.a2 ≠ A.a3 ∧ A.a2 ≠ A.a4 ∧ A.a2 ≠ A.a5 ∧ A.a2 ∉ A.cs) ∧ (A.a3 ≠ A.a4 ∧ A.a3 ≠ A.a5 ∧ A.a3 ∉ A.cs) ∧ (A.a4 ≠ A.a5 ∧ A.a4 ∉ A.cs) ∧ A.a5 ∉ A.cs ∧ A.cs.Nodup := by
  have z := x.nd
  simp only [CAd.all, List.nodup_cons, List.mem_cons, not_or] at z
  exact ⟨z.1, z.2.1, z.2.2.1, z.2.2.2.1, z.2.2.2.2.1, z.2.2.2.2.2⟩
theorem CL.there (x : CL K H A L1 L2 L3 L4 Cs) {b : Addr} (hb : b ∈ A.all) : ∃ o, H b = some o := by
  simp only [CAd.all, List.mem_cons] at hb
  rcases hb with rfl | rfl | rfl | rfl | rfl | rfl | hb
  · exact ⟨_, x.ob⟩
  · exact ⟨_, x.h1⟩
  · exact ⟨_, x.h2⟩
  · exact ⟨_, x.h3⟩
  · exact ⟨_, x.h4⟩
  · exact ⟨_, x.h5⟩
  · obtain ⟨i, hi⟩ := List.mem_iff_getElem?.mp hb
    have l : i < Cs.length := by rw [← x.cl]; exact (List.getElem?_eq_some_iff.mp hi).1
    exact ⟨_, x.cc i b _ hi (List.getElem?_eq_getElem l)⟩
theorem CL.fresh (x : CL K H A L1 L2 L3 L4 Cs) {q : Addr} (h : H q = none) : q ∉ A.all := fun z => by
  obtain ⟨o, e⟩ := x.there z
  rw [h] at e
  cases e
theorem CL.off (x : CL K H A L1 L2 L3 L4 Cs) {q : Addr} {o : HO} (h : q ∉ A.all) : CL K (upd H q o) A L1 L2 L3 L4 Cs := by
  have n : ∀ {b : Addr}, b ∈ A.all → b ≠ q := fun hb e => h (e ▸ hb)
  have mc : ∀ {c : Addr}, c ∈ A.cs → c ∈ A.all := fun hc => by simp [CAd.all, hc]
  exact ⟨by rw [upd_ne (n (by simp [CAd.all]))]; exact x.ob, by rw [upd_ne (n (by simp [CAd.all]))]; exact x.h1, by rw [upd_ne (n (by simp [CAd.all]))]; exact x.h2, by rw [upd_ne (n (by simp [CAd.all]))]; exact x.h3,
    by rw [upd_ne (n (by simp [CAd.all]))]; exact x.h4, by rw [upd_ne (n (by simp [CAd.all]))]; exact x.h5, x.cl, fun i c y h1 h2 => by rw [upd_ne (n (mc (List.mem_of_getElem? h1)))]; exact x.cc i c y h1 h2, x.nd⟩
theorem nin {c b : Addr} {l : List Addr} (h : b ∉ l) (hc : c ∈ l) : c ≠ b := fun e => h (e ▸ hc)
theorem CL.s1 (x : CL K H A L1 L2 L3 L4 Cs) (y : List V) : CL K (upd H A.a1 (.lst y)) A y L2 L3 L4 Cs := by
  obtain ⟨⟨n1, n2, n3, n4, n5, n6⟩, ⟨m12, m13, m14, m15, m1⟩, ⟨m23, m24, m25, m2⟩, ⟨m34, m35, m3⟩, ⟨m45, m4⟩, m5, m6⟩ := x.ne
  exact ⟨by rw [upd_ne n1]; exact x.ob, upd_same, by rw [upd_ne m12.symm]; exact x.h2, by rw [upd_ne m13.symm]; exact x.h3, by rw [upd_ne m14.symm]; exact x.h4, by rw [upd_ne m15.symm]; exact x.h5, x.cl,
    fun i c z g1 g2 => by rw [upd_ne (nin m1 (List.mem_of_getElem? g1))]; exact x.cc i c z g1 g2, x.nd⟩
theorem CL.s2 (x : CL K H A L1 L2 L3 L4 Cs) (y : List V) : CL K (upd H A.a2 (.lst y)) A L1 y L3 L4 Cs := by
  obtain ⟨⟨n1, n2, n3, n4, n5, n6⟩, ⟨m12, m13, m14, m15, m1⟩, ⟨m23, m24, m25, m2⟩, ⟨m34, m35, m3⟩, ⟨m45, m4⟩, m5, m6⟩ := x.ne
  exact ⟨by rw [upd_ne n2]; exact x.ob, by rw [upd_ne m12]; exact x.h1, upd_same, by rw [upd_ne m23.symm]; exact x.h3, by rw [upd_ne m24.symm]; exact x.h4, by rw [upd_ne m25.symm]; exact x.h5, x.cl,
    fun i c z g1 g2 => by rw [upd_ne (nin m2 (List.mem_of_getElem? g1))]; exact x.cc i c z g1 g2, x.nd⟩
theorem CL.s3 (x : CL K H A L1 L2 L3 L4 Cs) (y : List V) : CL K (upd H A.a3 (.lst y)) A L1 L2 y L4 Cs := by
  obtain ⟨⟨n1, n2, n3, n4, n5, n6⟩, ⟨m12, m13, m14, m15, m1⟩, ⟨m23, m24, m25, m2⟩, ⟨m34, m35, m3⟩, ⟨m45, m4⟩, m5, m6⟩ := x.ne
  exact ⟨by rw [upd_ne n3]; exact x.ob, by rw [upd_ne m13]; exact x.h1, by rw [upd_ne m23]; exact x.h2, upd_same, by rw [upd_ne m34.symm]; exact x.h4, by rw [upd_ne m35.symm]; exact x.h5, x.cl,
    fun i c z g1 g2 => by rw [upd_ne (nin m3 (List.mem_of_getElem? g1))]; exact x.cc i c z g1 g2, x.nd⟩
theorem CL.s4 (x : CL K H A L1 L2 L3 L4 Cs) (y : List V) : CL K (upd H A.a4 (.lst y)) A L1 L2 L3 y Cs := by
  obtain ⟨⟨n1, n2, n3, n4, n5, n6⟩, ⟨m12, m13, m14, m15, m1⟩, ⟨m23, m24, m25, m2⟩, ⟨m34, m35, m3⟩, ⟨m45, m4⟩, m5, m6⟩ := x.ne
  exact ⟨by rw [upd_ne n4]; exact x.ob, by rw [upd_ne m14]; exact x.h1, by rw [upd_ne m24]; exact x.h2, by rw [upd_ne m34]; exact x.h3, upd_same, by rw [upd_ne m45.symm]; exact x.h5, x.cl,
    fun i c z g1 g2 => by rw [upd_ne (nin m4 (List.mem_of_getElem? g1))]; exact x.cc i c z g1 g2, x.nd⟩
theorem nd_get {α : Type} {l : List α} (h : l.Nodup) {i j : Nat} {x : α} (hi : l[i]? = some x) (hj : l[j]? = some x) : i = j := by
  obtain ⟨h1, e1⟩ := List.getElem?_eq_some_iff.mp hi
  obtain ⟨h2, e2⟩ := List.getElem?_eq_some_iff.mp hj
  exact (List.getElem_inj h).mp (e1.trans e2.symm)
theorem CL.child (x : CL K H A L1 L2 L3 L4 Cs) {i : Nat} {c : Addr} (hc : A.cs[i]? = some c) (y : List V) : CL K (upd H c (.lst y)) A L1 L2 L3 L4 (Cs.set i y) := by
  obtain ⟨⟨n1, n2, n3, n4, n5, n6⟩, ⟨m12, m13, m14, m15, m1⟩, ⟨m23, m24, m25, m2⟩, ⟨m34, m35, m3⟩, ⟨m45, m4⟩, m5, m6⟩ := x.ne
  have hm : c ∈ A.cs := List.mem_of_getElem? hc
  refine ⟨by rw [upd_ne (nin n6 hm).symm]; exact x.ob, by rw [upd_ne (nin m1 hm).symm]; exact x.h1, by rw [upd_ne (nin m2 hm).symm]; exact x.h2, by rw [upd_ne (nin m3 hm).symm]; exact x.h3, by rw [upd_ne (nin m4 hm).symm]; exact x.h4,
    by rw [upd_ne (nin m5 hm).symm]; exact x.h5, by rw [List.length_set]; exact x.cl, fun j c' z g1 g2 => ?_, x.nd⟩
  by_cases e : i = j
  · subst e
    rw [hc] at g1
    cases g1
    have l : i < Cs.length := by rw [← x.cl]; exact (List.getElem?_eq_some_iff.mp hc).1
    rw [List.getElem?_set_self l] at g2
    cases g2
    exact upd_same
  · rw [List.getElem?_set_ne e] at g2
    have nc : c' ≠ c := fun q => e (nd_get m6 hc (by rw [← q]; exact g1))
    rw [upd_ne nc]
    exact x.cc j c' z g1 g2
theorem CL.push (x : CL K H A L1 L2 L3 L4 Cs) {c : Addr} (hc : H c = none) : CL K (upd (upd H c (.lst [])) A.a5 (.lst (A.cs.map V.ref ++ [.ref c]))) { A with cs := A.cs ++ [c] } L1 L2 L3 L4 (Cs ++ [[]]) := by
  obtain ⟨⟨n1, n2, n3, n4, n5, n6⟩, ⟨m12, m13, m14, m15, m1⟩, ⟨m23, m24, m25, m2⟩, ⟨m34, m35, m3⟩, ⟨m45, m4⟩, m5, m6⟩ := x.ne
  have f := x.fresh hc
  have y := x.off (o := .lst []) f
  simp only [CAd.all, List.mem_cons, not_or] at f
  obtain ⟨f0, f1, f2, f3, f4, f5, f6⟩ := f
  refine ⟨by rw [upd_ne n5]; exact y.ob, by rw [upd_ne m15]; exact y.h1, by rw [upd_ne m25]; exact y.h2, by rw [upd_ne m35]; exact y.h3, by rw [upd_ne m45]; exact y.h4, ?_, by simp [x.cl], fun i c' z g1 g2 => ?_, ?_⟩
  · show upd _ A.a5 _ A.a5 = some (HO.lst ((A.cs ++ [c]).map V.ref))
    rw [upd_same, List.map_append] <;> rfl
  · have g1 : (A.cs ++ [c])[i]? = some c' := g1
    rcases Nat.lt_or_ge i A.cs.length with l | l
    · rw [List.getElem?_append_left l] at g1
      rw [List.getElem?_append_left (by rw [← x.cl]; exact l)] at g2
      rw [upd_ne (nin m5 (List.mem_of_getElem? g1))]
      exact y.cc i c' z g1 g2
    · rw [List.getElem?_append_right l] at g1
      rw [List.getElem?_append_right (by rw [← x.cl]; exact l)] at g2
      have e1 : i - A.cs.length = 0 := by
        have := (List.getElem?_eq_some_iff.mp g1).1
        simp at this
        omega
      rw [e1] at g1
      rw [← x.cl, e1] at g2
      cases g1
      cases g2
      rw [upd_ne f5]
      exact upd_same
  · show (A.p :: A.a1 :: A.a2 :: A.a3 :: A.a4 :: A.a5 :: (A.cs ++ [c])).Nodup
    simp only [List.nodup_cons, List.mem_cons, List.mem_append, List.mem_singleton, not_or, List.not_mem_nil, or_false]
    refine ⟨⟨n1, n2, n3, n4, n5, n6, fun e => f0 e.symm⟩, ⟨m12, m13, m14, m15, m1, fun e => f1 e.symm⟩, ⟨m23, m24, m25, m2, fun e => f2 e.symm⟩, ⟨m34, m35, m3, fun e => f3 e.symm⟩, ⟨m45, m4, fun e => f4 e.symm⟩, ⟨m5, fun e => f5 e.symm⟩, ?_⟩
    exact List.nodup_append.mpr ⟨m6, List.nodup_cons.mpr ⟨List.not_mem_nil, List.nodup_nil⟩, fun a ha b hb => by rw [List.mem_singleton.mp hb]; exact fun e => f6 (e ▸ ha)⟩
end
/-- a code at A with these rows, as it stands in H; its statements by F -/
def CodeH (K : PySem.W.Frag) (F H : Hp) (A : CAd) (rows : List Row) : Prop :=
  ∃ vs, CL K H A vs (rows.map fun r => V.str (kindD r.d)) (rows.map fun r => labD r.d) (rows.map fun r => parV r.par) (rows.map fun r => intsV r.ch) ∧ DpAll K F vs (rows.map Row.d)
def addCh (rows : List Row) (i n : Nat) : List Row := rows.modify i fun r => { r with ch := r.ch ++ [n] }
def addRow (rows : List Row) (d : PyData) (par : Option Nat) : List Row := (match par with
  | none => rows
  | some i => addCh rows i rows.length) ++ [⟨d, par, []⟩]
/-! ### check -/
def sp_Code_check (K : PySem.W.Frag) : Sp := fun vs H Q _ => ∃ (v0 v : V) (d : PyData) (n deep loops blocks : Int), vs = [v0, v, .int n, .int deep, .int loops, .int blocks] ∧ Dp K H v d ∧ PyData.canLay0 d = true ∧ szD d ∧ n < 400 ∧ deep ≤ 100 ∧ blocks ≤ 25 ∧ isStm d loops = true ∧
  ∀ H', Ex H H' → Q .non H'
section
variable {P : Program} {w : World} {h : Heap} {K : PySem.W.Frag} {mg : Str → Option Value} {base : Heap}
abbrev N_Code_check : List Str := ["self", "value", "number", "deep", "loops", "blocks"]
theorem sc_Code_check : FnScope N_Code_check ["self", "value", "number", "deep", "loops", "blocks"] (defScope sd_Code_check) := ⟨rfl, rfl, rfl, by decide +kernel, rfl, by decide +kernel, by decide +kernel⟩
theorem ok_Code_check (T : Tx w h K mg) : Ok P w K mg base 4 ("Code", some "check") ["self", "value", "number", "deep", "loops", "blocks"] (sp_Code_check K) := by
  obtain ⟨fd, F⟩ := F_Code_check T
  refine ⟨fd, ?_, F.bindsN (fun _ _ _ _ _ _ us hl => match us, hl with | [_, _, _, _, _, _], _ => rfl), F.kp⟩
  obtain ⟨fd_is_statement, G_is_statement, bi_is_statement, kp_is_statement⟩ := ok_is_statement (P := P) (base := base) T
  obtain ⟨tm_MOST_BLOCKS, m_MOST_BLOCKS⟩ := i_MOST_BLOCKS T
  obtain ⟨tm_MOST_DEEP, m_MOST_DEEP⟩ := i_MOST_DEEP T
  obtain ⟨tm_MOST_STATEMENTS, m_MOST_STATEMENTS⟩ := i_MOST_STATEMENTS T
  refine F.ok sc_Code_check (fun vs H Q E h => ?_) (fun cdv A outer s H vs Q E hr h => ?_)
  · obtain ⟨v0, v, d, n, deep, loops, blocks, rfl, hd, hc, hz, l1, l2, l3, hs, q⟩ := h
    rfl
  · obtain ⟨v0, v, d, n, deep, loops, blocks, rfl, hd, hc, hz, l1, l2, l3, hs, q⟩ := h
    refine ⟨_, PSs.nox (pss_cons (ps_if (pt_cmpR op_ge (pv 2) (pe_glob (v := .int 400) rfl m_MOST_STATEMENTS ⟨_, rfl⟩) (nomark _)) (pss_one ps_never) pss_nil) (pss_cons (ps_if (pt_cmpR op_gt (pv 3) (pe_glob (v := .int 100) rfl m_MOST_DEEP ⟨_, rfl⟩) (nomark _)) (pss_one ps_never) pss_nil) (pss_cons (ps_if (pt_cmpR op_gt (pv 5) (pe_glob (v := .int 25) rfl m_MOST_BLOCKS ⟨_, rfl⟩) (nomark _)) (pss_one ps_never) pss_nil) (pss_one (ps_if (pt_not (pt_val (pe_call G_is_statement (hr.mono (by decide)) rfl (g_is_statement T) kp_is_statement bi_is_statement .nil passF (pa_cons (pv 1) (pa_cons (pv 4) pa_nil))))) (pss_one ps_never) pss_nil))))), ?_⟩
    refine ⟨_, rfl, _, _, rfl, rfl, _, rfl, itF (decide_eq_false (by omega)) ?_⟩
    refine ⟨_, rfl, _, _, rfl, rfl, _, rfl, itF (decide_eq_false (by omega)) ?_⟩
    refine ⟨_, rfl, _, _, rfl, rfl, _, rfl, itF (decide_eq_false (by omega)) ?_⟩
    refine ⟨_, rfl, _, rfl, v, d, loops, rfl, hd, hc, hz, fun H' x => ⟨_, rfl, itF (by rw [hs] <;> rfl) (q H' x)⟩⟩
end

end Fc

set_option maxRecDepth 100000
set_option maxHeartbeats 4000000
namespace Fc
open PySem PySem.Spec PyProof.Rows L2 FcR
open Evl (Ex)
/-! ### keep -/
theorem map_modify_same {α β : Type} (f : α → β) (g : α → α) (h : ∀ x, f (g x) = f x) (l : List α) (i : Nat) : (l.modify i g).map f = l.map f := by
  apply List.ext_getElem?
  intro j
  rw [List.getElem?_map, List.getElem?_map, List.getElem?_modify]
  cases l[j]? with
  | none => rfl
  | some x => by_cases e : i = j <;> simp [e, h]
def noteCh (n : Nat) (r : Row) : Row := { r with ch := r.ch ++ [n] }
theorem addCh_eq (rows : List Row) (i n : Nat) : addCh rows i n = rows.modify i (noteCh n) := rfl
theorem addCh_len (rows : List Row) (i n : Nat) : (addCh rows i n).length = rows.length := by simp [addCh]
theorem addCh_map {β : Type} (f : Row → β) (rows : List Row) (i n : Nat) (h : ∀ r, f (noteCh n r) = f r) : (addCh rows i n).map f = rows.map f := map_modify_same f (noteCh n) h rows i
theorem addCh_ch (rows : List Row) (i n : Nat) (r : Row) (h : rows[i]? = some r) : (addCh rows i n).map (fun r => intsV r.ch) = (rows.map fun r => intsV r.ch).set i (intsV r.ch ++ [.int (n : Int)]) := by
  apply List.ext_getElem?
  intro j
  rw [addCh_eq, List.getElem?_map, List.getElem?_modify, List.getElem?_set, List.getElem?_map]
  have li : i < rows.length := (List.getElem?_eq_some_iff.mp h).1
  by_cases e : i = j
  · subst e
    rw [h]
    simp [noteCh, intsV, li]
  · cases rows[j]? <;> simp [e]
def stepRows (rows : List Row) (par : Option Nat) : List Row := match par with
  | none => rows
  | some i => addCh rows i rows.length
theorem stepRows_len (rows : List Row) (par : Option Nat) : (stepRows rows par).length = rows.length := by
  cases par with
  | none => rfl
  | some i => exact addCh_len _ _ _
def sp_Code_keep (K : PySem.W.Frag) : Sp := fun vs H Q _ => ∃ (F : Hp) (A : CAd) (rows : List Row) (v : V) (d : PyData) (loops : Int) (par : Option Nat), vs = [.ref A.p, v, parV par] ∧ Ex F H ∧ CodeH K F H A rows ∧ (∀ b ∈ A.all, F b = none) ∧ Dp K F v d ∧ isStm d loops = true ∧
  rows.length < 1000 ∧ (∀ i, par = some i → ∃ r, rows[i]? = some r ∧ r.ch.length < 1000) ∧
  ∀ c H', H c = none → CodeH K F H' { A with cs := A.cs ++ [c] } (addRow rows d par) → (∀ b o, H b = some o → b ∉ A.all → H' b = some o) → Q .non H'
theorem stm_lab {k : Str} {r : List PyData} {loops : Int} (h : isStm (.tuple (.str k :: r)) loops = true) (hk : k ∈ kLab) : (∃ x r', r = .str x :: r') ∨ ∃ n r', r = .int n :: r' := by
  obtain ⟨k', r', n, e, e1, hn, hs⟩ := isStm_shape h
  cases e
  rcases List.mem_append.mp hk with hk | hk
  · rw [if_pos hk] at hs
    cases r with
    | nil => cases hs
    | cons d r' => cases d with
      | str x => exact .inl ⟨x, r', rfl⟩
      | _ => cases hs
  · by_cases h2 : k ∈ kNamed
    · rw [if_pos h2] at hs
      cases r with
      | nil => cases hs
      | cons d r' => cases d with
        | str x => exact .inl ⟨x, r', rfl⟩
        | _ => cases hs
    · rw [if_neg h2, if_pos hk] at hs
      cases r with
      | nil => cases hs
      | cons d r' => cases d with
        | int x => exact .inr ⟨x, r', rfl⟩
        | _ => cases hs
theorem parV_non (par : Option Nat) : decide (parV par = .non) = par.isNone := by cases par <;> rfl
theorem in_all1 (A : CAd) : A.a1 ∈ A.all := by simp [CAd.all]
theorem in_all2 (A : CAd) : A.a2 ∈ A.all := by simp [CAd.all]
theorem in_all3 (A : CAd) : A.a3 ∈ A.all := by simp [CAd.all]
theorem in_all4 (A : CAd) : A.a4 ∈ A.all := by simp [CAd.all]
theorem in_all5 (A : CAd) : A.a5 ∈ A.all := by simp [CAd.all]
theorem in_allc {A : CAd} {c : Addr} (h : c ∈ A.cs) : c ∈ A.all := by simp [CAd.all, h]
section
variable {P : Program} {w : World} {h : Heap} {K : PySem.W.Frag} {mg : Str → Option Value} {base : Heap}
abbrev N_Code_keep : List Str := ["self", "statement", "parent"]
theorem sc_Code_keep : FnScope N_Code_keep ["self", "statement", "parent"] (defScope sd_Code_keep) := ⟨rfl, rfl, rfl, by decide +kernel, rfl, by decide +kernel, by decide +kernel⟩
theorem ok_Code_keep (T : Tx w h K mg) : Ok P w K mg base 1 ("Code", some "keep") ["self", "statement", "parent"] (sp_Code_keep K) := by
  obtain ⟨fd, F⟩ := F_Code_keep T
  refine ⟨fd, ?_, F.bindsN (fun _ _ _ _ _ _ us hl => match us, hl with | [_, _, _], _ => rfl), F.kp⟩
  refine F.ok sc_Code_keep (fun vs H Q E h => ?_) (fun cdv A outer s H vs Q E hr h => ?_)
  · obtain ⟨F0, A, rows, v, d, loops, par, rfl, xF, ⟨L1, C, dL⟩, nw, hd, hs, hl, hpar, q⟩ := h
    rfl
  · obtain ⟨F0, A, rows, v, d, loops, par, rfl, xF, ⟨L1, C, dL⟩, nw, hd, hs, hl, hpar, q⟩ := h
    refine ⟨_, PSs.nox (Evl.pss_cut (ps_if (pt_cmpR op_notN (pv 2) pe_non (nomark _)) (pss_one (ps_expr (pe_bm PySem.F.plainAttrs_list PySem.F.slot_list_append PySem.F.type_list_append mt_append (pe_ix ix_list (pe_fld (pv 0) rfl) (pv 2) (fun _ _ => rfl)) (pa_cons (pe_callB call_len_seq rfl (fr_len T) b_len (pa_cons (pe_fld (pv 0) rfl) pa_nil)) pa_nil)))) pss_nil) (pss_cons (ps_expr (pe_bm PySem.F.plainAttrs_list PySem.F.slot_list_append PySem.F.type_list_append mt_append (pe_fld (pv 0) rfl) (pa_cons (pv 1) pa_nil))) (pss_cons (ps_expr (pe_bm PySem.F.plainAttrs_list PySem.F.slot_list_append PySem.F.type_list_append mt_append (pe_fld (pv 0) rfl) (pa_cons (pe_ix ix_tup (pv 1) pe_int (fun _ _ => rfl)) pa_nil))) (Evl.pss_cut (ps_expr (pe_bm PySem.F.plainAttrs_list PySem.F.slot_list_append PySem.F.type_list_append mt_append (pe_fld (pv 0) rfl) (pa_cons (pe_ifExp (pt_cmpR op_in_seq (pe_ix ix_tup (pv 1) pe_int (fun _ _ => rfl)) (pe_op op_catT (pe_glob (v := .ref (He.ga K "NAMED")) rfl (g_NAMED T) rfl) (pe_glob (v := .ref (He.ga K "JUMPS")) rfl (g_JUMPS T) rfl)) (by rfl)) (pe_ix ix_tup (pv 1) pe_int (fun _ _ => rfl)) pe_non) pa_nil))) (pss_cons (ps_expr (pe_bm PySem.F.plainAttrs_list PySem.F.slot_list_append PySem.F.type_list_append mt_append (pe_fld (pv 0) rfl) (pa_cons (pv 2) pa_nil))) (pss_one (ps_expr (pe_bm PySem.F.plainAttrs_list PySem.F.slot_list_append PySem.F.type_list_append mt_append (pe_fld (pv 0) rfl) (pa_cons (pe_lst pa_nil) pa_nil))))))))), ?_⟩
    obtain ⟨k, r, n, rfl, _, _, _⟩ := isStm_shape hs
    obtain ⟨a, xs, rfl, hS, hA⟩ := dp_tup hd
    cases hA with
    | @cons v0 xr _ _ h0 hA =>
    obtain rfl := dp_str h0
    -- the parent's list of parts
    refine ⟨fun σ' H' => σ' = L2.start N_Code_keep [.ref A.p, .ref a, parV par] ∧ CL K H' A L1 (rows.map fun r => V.str (kindD r.d)) (rows.map fun r => labD r.d) (rows.map fun r => parV r.par) ((stepRows rows par).map fun r => intsV r.ch) ∧ Ex F0 H' ∧ (∀ b o, H b = some o → b ∉ A.all → H' b = some o) ∧ (∀ b, H' b = none → H b = none), ?_, ?_⟩
    · refine ⟨_, rfl, rfl, _, rfl, ite_of (fun h1 => ?_) (fun h1 => ?_)⟩
      · cases par with
        | none => cases h1
        | some i =>
        obtain ⟨ri, e1, e2⟩ := hpar i rfl
        have li : i < A.cs.length := by rw [C.cl, List.length_map]; exact (List.getElem?_eq_some_iff.mp e1).1
        have hci : A.cs[i]? = some A.cs[i] := List.getElem?_eq_getElem li
        have hcm : A.cs[i] ∈ A.cs := List.getElem_mem li
        have hcc := C.cc i _ _ hci (show (rows.map fun r => intsV r.ch)[i]? = some (intsV ri.ch) from by rw [List.getElem?_map, e1] <;> rfl)
        refine ⟨_, rfl, A.p, _, _, _, _, rfl, C.ob, c_Code T, na_Code_children T, fl_Code_children _ _ _ _ _, _, rfl, A.a5, _, _, .ref A.cs[i], rfl, rfl, Evl.sq_of C.h5, atI_nat (by rw [List.getElem?_map, hci] <;> rfl), Or.inl ⟨rfl, _, Evl.sq_of hcc⟩, ?_⟩
        refine ⟨_, rfl, A.p, _, _, _, _, rfl, C.ob, c_Code T, na_Code_kinds T, fl_Code_kinds _ _ _ _ _, A.a2, _, rfl, .inl (Evl.sq_of C.h2), A.cs[i], _, _, rfl, rfl, hcc, szl (by rw [intsV, List.length_map]; omega), ?_⟩
        refine ⟨rfl, ?_, exm xF (nw _ (in_allc hcm)), fun b o e hb => by rw [upd_ne (fun z => hb (by rw [z]; exact in_allc hcm))]; exact e, fun b e => ?_⟩
        · have y := C.child hci (intsV ri.ch ++ [.int ((rows.map fun r => V.str (kindD r.d)).length : Int)])
          have e3 : (stepRows rows (some i)).map (fun r => intsV r.ch) = (rows.map fun r => intsV r.ch).set i (intsV ri.ch ++ [.int ((rows.map fun r => V.str (kindD r.d)).length : Int)]) := by
            rw [List.length_map]
            exact addCh_ch rows i rows.length ri e1
          rw [e3]
          exact y
        · by_cases z : b = A.cs[i]
          · rw [z, upd_same] at e
            cases e
          · rw [upd_ne z] at e
            exact e
      · cases par with
        | some i => cases h1
        | none => exact ⟨rfl, C, xF, fun b o e _ => e, fun b e => e⟩
    rintro σ' H1 ⟨rfl, C1, xF1, kp1, fr1⟩
    have es : (stepRows rows par).map (fun r => V.str (kindD r.d)) = rows.map (fun r => V.str (kindD r.d)) := by cases par with
      | none => rfl
      | some i => exact addCh_map _ rows i _ fun _ => rfl
    have el : (stepRows rows par).map (fun r => labD r.d) = rows.map (fun r => labD r.d) := by cases par with
      | none => rfl
      | some i => exact addCh_map _ rows i _ fun _ => rfl
    have ep : (stepRows rows par).map (fun r => parV r.par) = rows.map (fun r => parV r.par) := by cases par with
      | none => rfl
      | some i => exact addCh_map _ rows i _ fun _ => rfl
    have ed : (stepRows rows par).map Row.d = rows.map Row.d := by cases par with
      | none => rfl
      | some i => exact addCh_map _ rows i _ fun _ => rfl
    have l1 : L1.length = rows.length := by rw [dpA_len dL, List.length_map]
    -- self.statements.append(statement)
    refine ⟨_, rfl, A.p, _, _, _, _, rfl, C1.ob, c_Code T, na_Code_statements T, fl_Code_statements _ _ _ _ _, Or.inl ⟨rfl, _, Evl.sq_of C1.h1⟩, _, rfl, A.a1, _, _, rfl, rfl, C1.h1, szl (by omega), ?_⟩
    have C2 := C1.s1 (L1 ++ [.ref a])
    have xF2 := exm (o := .lst (L1 ++ [.ref a])) xF1 (nw _ (in_all1 A))
    -- self.kinds.append(statement[0])
    refine ⟨_, rfl, A.p, _, _, _, _, rfl, C2.ob, c_Code T, na_Code_kinds T, fl_Code_kinds _ _ _ _ _, Or.inl ⟨rfl, _, Evl.sq_of C2.h2⟩, _, rfl, a, _, _, _, rfl, rfl, Evl.ex_t xF2 hS, at0, A.a2, _, _, rfl, rfl, C2.h2, szl (by rw [List.length_map]; omega), ?_⟩
    have C3 := C2.s2 (rows.map (fun r => V.str (kindD r.d)) ++ [.str k])
    have xF3 := exm (o := .lst (rows.map (fun r => V.str (kindD r.d)) ++ [.str k])) xF2 (nw _ (in_all2 A))
    -- self.labels.append(..)
    refine ⟨fun σ' H' => σ' = L2.start N_Code_keep [.ref A.p, .ref a, parV par] ∧ CL K H' A (L1 ++ [.ref a]) (rows.map (fun r => V.str (kindD r.d)) ++ [.str k]) (rows.map (fun r => labD r.d) ++ [labD (.tuple (.str k :: r))]) (rows.map fun r => parV r.par) ((stepRows rows par).map fun r => intsV r.ch) ∧ Ex F0 H' ∧ (∀ b o, H b = some o → b ∉ A.all → H' b = some o) ∧ (∀ b, H' b = none → H b = none), ?_, ?_⟩
    · refine ⟨_, rfl, A.p, _, _, _, _, rfl, C3.ob, c_Code T, na_Code_labels T, fl_Code_labels _ _ _ _ _, Or.inl ⟨rfl, _, Evl.sq_of C3.h3⟩, _, rfl, a, _, _, _, rfl, rfl, Evl.ex_t xF3 hS, at0, He.ga K "NAMED", He.ga K "JUMPS", _, _, rfl, rfl, t_NAMED T _, t_JUMPS T _, (by simp), sz (by decide), (fun z => by cases z), fun _ p0 hp0 => ?_⟩
      have C4 := C3.off (o := .tup (kLab.map V.str)) (C3.fresh hp0)
      have xF4 : Ex F0 _ := exu (o := .tup (kLab.map V.str)) xF3 hp0
      have fin : ∀ (o1 o2 o4 : HO) (H5 : Hp), H5 = upd (upd (upd (upd H1 A.a1 o1) A.a2 o2) p0 (.tup (kLab.map V.str))) A.a3 o4 → (∀ b o, H b = some o → b ∉ A.all → H5 b = some o) ∧ (∀ b, H5 b = none → H b = none) := by
        intro o1 o2 o4 H5 e5
        subst e5
        have back : ∀ {Hx : Hp} {q b : Addr} {o : HO}, upd Hx q o b = none → Hx b = none := fun {Hx q b o} e => by
          by_cases z : b = q
          · rw [z, upd_same] at e; cases e
          · rw [upd_ne z] at e; exact e
        refine ⟨fun b o e hb => ?_, fun b e => fr1 b (back (back (back (back e))))⟩
        have e1 := kp1 b o e hb
        have np : b ≠ p0 := fun z => by
          have y : H1 p0 = none := by
            have y1 := back (back hp0)
            exact y1
          rw [z, y] at e1
          cases e1
        rw [upd_ne (fun z => hb (by rw [z]; exact in_all3 A)), upd_ne np, upd_ne (fun z => hb (by rw [z]; exact in_all2 A)), upd_ne (fun z => hb (by rw [z]; exact in_all1 A))]
        exact e1
      have tail : ∀ u, u = labD (.tuple (.str k :: r)) → rAppend (.ref A.a3) [u] (upd (upd (upd H1 A.a1 (.lst (L1 ++ [.ref a]))) A.a2 (.lst (rows.map (fun r => V.str (kindD r.d)) ++ [.str k]))) p0 (.tup (kLab.map V.str))) (fun _ H' => L2.start N_Code_keep [.ref A.p, .ref a, parV par] = L2.start N_Code_keep [.ref A.p, .ref a, parV par] ∧ CL K H' A (L1 ++ [.ref a]) (rows.map (fun r => V.str (kindD r.d)) ++ [.str k]) (rows.map (fun r => labD r.d) ++ [labD (.tuple (.str k :: r))]) (rows.map fun r => parV r.par) ((stepRows rows par).map fun r => intsV r.ch) ∧ Ex F0 H' ∧ (∀ b o, H b = some o → b ∉ A.all → H' b = some o) ∧ (∀ b, H' b = none → H b = none)) := by
        rintro u rfl
        obtain ⟨f1, f2⟩ := fin (.lst (L1 ++ [.ref a])) (.lst (rows.map (fun r => V.str (kindD r.d)) ++ [.str k])) (.lst (rows.map (fun r => labD r.d) ++ [labD (.tuple (.str k :: r))])) _ rfl
        exact ⟨A.a3, _, _, rfl, rfl, C4.h3, szl (by rw [List.length_map]; omega), rfl, C4.s3 _, exm xF4 (nw _ (in_all3 A)), f1, f2⟩
      refine ⟨p0, kLab.map V.str, rfl, .inr (Evl.st_of upd_same), rfl, flat_strs kLab, _, rfl, ite_of (fun h2 => ?_) (fun h2 => ?_)⟩
      · have h2 : inV (.str k) (kLab.map V.str) = true := h2
        rw [inV_strs] at h2
        have hm := of_decide_eq_true h2
        rcases stm_lab hs hm with ⟨x, r', rfl⟩ | ⟨x, r', rfl⟩
        · cases hA with
          | @cons v1 xr' _ _ g1 hA =>
          obtain rfl := dp_str g1
          refine ⟨_, rfl, a, _, _, _, rfl, rfl, Evl.ex_t xF4 hS, at1, tail _ ?_⟩
          simp only [labD, if_pos hm]
        · cases hA with
          | @cons v1 xr' _ _ g1 hA =>
          obtain rfl := dp_int g1
          refine ⟨_, rfl, a, _, _, _, rfl, rfl, Evl.ex_t xF4 hS, at1, tail _ ?_⟩
          simp only [labD, if_pos hm]
      · have h2 : inV (.str k) (kLab.map V.str) = false := h2
        rw [inV_strs] at h2
        have hm : ¬ k ∈ kLab := of_decide_eq_false h2
        refine tail _ ?_
        simp only [labD, if_neg hm]
    rintro σ' H5 ⟨rfl, C5, xF5, kp5, fr5⟩
    -- self.parents.append(parent)
    refine ⟨_, rfl, A.p, _, _, _, _, rfl, C5.ob, c_Code T, na_Code_parents T, fl_Code_parents _ _ _ _ _, Or.inl ⟨rfl, _, Evl.sq_of C5.h4⟩, _, rfl, A.a4, _, _, rfl, rfl, C5.h4, szl (by rw [List.length_map]; omega), ?_⟩
    have C6 := C5.s4 (rows.map (fun r => parV r.par) ++ [parV par])
    -- self.children.append([])
    refine ⟨_, rfl, A.p, _, _, _, _, rfl, C6.ob, c_Code T, na_Code_children T, fl_Code_children _ _ _ _ _, Or.inl ⟨rfl, _, Evl.sq_of C6.h5⟩, sz (by decide), fun c hc => ?_⟩
    have nc5 : A.a5 ≠ c := fun z => C6.fresh hc (by rw [← z]; exact in_all5 A)
    refine ⟨A.a5, _, _, rfl, rfl, by rw [upd_ne nc5]; exact C6.h5, szl (by rw [List.length_map, C6.cl, List.length_map, stepRows_len]; omega), ?_⟩
    have C7 := C6.push hc
    have nc4 : c ≠ A.a4 := fun z => C6.fresh hc (by rw [z]; exact in_all4 A)
    have hcH : H c = none := fr5 c (by rw [upd_ne nc4] at hc; exact hc)
    have ea : addRow rows (.tuple (.str k :: r)) par = stepRows rows par ++ [⟨.tuple (.str k :: r), par, []⟩] := by cases par <;> rfl
    refine q c _ hcH ⟨L1 ++ [.ref a], ?_, ?_⟩ fun b o e hb => ?_
    · rw [ea, List.map_append, List.map_append, List.map_append, List.map_append, es, el, ep]
      exact C7
    · rw [ea, List.map_append, ed]
      exact dpA_app dL (.cons hd .nil)
    · have e5 := kp5 b o e hb
      have ncb : b ≠ c := fun z => by rw [z, hcH] at e; cases e
      rw [upd_ne (fun z => hb (by rw [z]; exact in_all5 A)), upd_ne ncb, upd_ne (fun z => hb (by rw [z]; exact in_all4 A))]
      exact e5
end

end Fc

set_option maxRecDepth 100000
set_option maxHeartbeats 4000000
namespace Fc
open PySem PySem.Spec PyProof.Rows L2 FcR
open Evl (Ex)
/-! ### Code(..): the stack of what waits -/
structure WIt where
  d : PyData
  par : Option Nat
  deep : Nat
  loops : Nat
  blocks : Nat
def okIt (it : WIt) (n : Nat) : Prop := n < 400 ∧ it.deep ≤ 100 ∧ it.blocks ≤ 25 ∧ isStm it.d (it.loops : Int) = true
def newIt (it : WIt) (n : Nat) (at_ : Nat) (part : PyData) : WIt :=
  ⟨part, some n, it.deep + 1, it.loops + (if kindD it.d = "while" then 1 else 0), it.blocks + (if kindD it.d = "final" ∧ at_ = 1 then 1 else 0)⟩
def newIts (it : WIt) (n : Nat) : List WIt := (partsD it.d).mapIdx fun i p => newIt it n i p
inductive Builds : Nat → List WIt → List Row → List Row → Prop
  | done (rows : List Row) : Builds 0 [] rows rows
  | step {n : Nat} {it : WIt} {st : List WIt} {rows fin : List Row} (ok : okIt it rows.length) (h : Builds n (newIts it rows.length ++ st) (addRow rows it.d it.par) fin) : Builds (n + 1) (it :: st) rows fin
theorem Builds.len {m : Nat} {st : List WIt} {rows fin : List Row} (b : Builds m st rows fin) : st.length ≤ m := by
  induction b with
  | done => exact Nat.le_refl _
  | step ok h ih =>
    rw [List.length_append] at ih
    rw [List.length_cons]
    omega
def wV (v : V) (it : WIt) : List V := [v, parV it.par, .int (it.deep : Int), .int (it.loops : Int), .int (it.blocks : Int)]
def parD : Option Nat → PyData
  | none => .none
  | some i => .int (i : Int)
def wD (it : WIt) : PyData := .tuple [it.d, parD it.par, .int (it.deep : Int), .int (it.loops : Int), .int (it.blocks : Int)]
/-- tuples at ts, the items st -/
inductive WAt (K : PySem.W.Frag) (F : Hp) : List Addr → List WIt → Prop
  | nil : WAt K F [] []
  | cons {t : Addr} {ts : List Addr} {it : WIt} {st : List WIt} {v : V} (h : F t = some (.tup (wV v it))) (hd : Dp K F v it.d) (r : WAt K F ts st) : WAt K F (t :: ts) (it :: st)
theorem WAt.ex {K : PySem.W.Frag} {F F' : Hp} (e : Ex F F') : ∀ {ts : List Addr} {st : List WIt}, WAt K F ts st → WAt K F' ts st
  | _, _, .nil => .nil
  | _, _, .cons h hd r => .cons (e _ _ h) (dp_ex e hd) (WAt.ex e r)
theorem WAt.len {K : PySem.W.Frag} {F : Hp} : ∀ {ts : List Addr} {st : List WIt}, WAt K F ts st → ts.length = st.length
  | _, _, .nil => rfl
  | _, _, .cons _ _ r => congrArg Nat.succ (WAt.len r)
theorem dp_par {K : PySem.W.Frag} {F : Hp} (o : Option Nat) : Dp K F (parV o) (parD o) := by
  cases o with
  | none => exact .non
  | some i => exact .int _
theorem WAt.dp {K : PySem.W.Frag} {F : Hp} : ∀ {ts : List Addr} {st : List WIt}, WAt K F ts st → DpAll K F (ts.map V.ref) (st.map wD)
  | _, _, .nil => .nil
  | _, _, .cons h hd r => .cons (.tup (Evl.st_of h) (.cons hd (.cons (dp_par _) (.cons (.int _) (.cons (.int _) (.cons (.int _) .nil)))))) (WAt.dp r)
theorem dpA_rev {K : PySem.W.Frag} {F : Hp} : ∀ {ds : List PyData} {vs : List V}, DpAll K F vs ds → DpAll K F vs.reverse ds.reverse
  | _, _, .nil => .nil
  | _, _, .cons h a => by
    rw [List.reverse_cons, List.reverse_cons]
    exact dpA_app (dpA_rev a) (.cons h .nil)
theorem canAll {l : List PyData} (h : ∀ d ∈ l, PyData.canLay0 d = true) : PyData.canLayAll0 l = true := by
  induction l with
  | nil => rfl
  | cons a l ih =>
    show (PyData.canLay0 a && PyData.canLayAll0 l) = true
    rw [h a List.mem_cons_self, ih fun d hd => h d (List.mem_cons_of_mem _ hd)] <;> rfl
theorem can_wD {it : WIt} (h : PyData.canLay0 it.d = true) : PyData.canLay0 (wD it) = true := by
  show (PyData.canLay0 it.d && (PyData.canLay0 (parD it.par) && (PyData.canLay0 (.int _) && (PyData.canLay0 (.int _) && (PyData.canLay0 (.int _) && PyData.canLayAll0 []))))) = true
  rw [h]
  cases it.par <;> rfl
theorem eqv_lnil (ds : List PyData) : PyData.eqv (.list ds) (.list []) = ds.isEmpty := by
  cases ds <;> simp [PyData.eqv, PyData.eqvAll]
theorem min_lnil (d : PyData) : min d.depth (PyData.list []).depth ≤ 150 := Nat.le_trans (Nat.min_le_right _ _) (by decide)
def sp_Code___init__ (K : PySem.W.Frag) : Sp := fun vs H Q _ => ∃ (F : Hp) (p dx : Addr) (v : V) (d : PyData) (G : PyData → Prop) (N : Nat) (fin : List Row), vs = [.ref p, v] ∧ H p = some (.ins (He.ga K "Code") dx []) ∧ Ex F H ∧ F p = none ∧ Dp K F v d ∧
  (∀ e, G e → PyData.canLay0 e = true ∧ szD e ∧ ∀ x ∈ partsD e, G x) ∧ G d ∧ Builds N [⟨d, none, 1, 0, 0⟩] [] fin ∧
  ∀ A F' H', A.p = p → Gr (fun b => b = p) F H F' H' → CodeH K F' F' A fin → Q .non H'

theorem nn_of {H : Hp} {a b : Addr} {o : HO} (h : H a = none) (h' : H b = some o) : b ≠ a := ne_of_none h' h
theorem up_none {H : Hp} {a b : Addr} {o : HO} (h : upd H a o b = none) : b ≠ a ∧ H b = none := by
  by_cases z : b = a
  · rw [z, upd_same] at h; cases h
  · rw [upd_ne z] at h; exact ⟨z, h⟩
/-- between two turns of the loop -/
structure InW (K : PySem.W.Frag) (F0 H : Hp) (p wq : Addr) (Gd : PyData → Prop) (st : List WIt) (rows : List Row) (A : CAd) (ts : List Addr) (F' H' : Hp) : Prop where
  ap : A.p = p
  code : CodeH K F' H' A rows
  na : ∀ b ∈ A.all, F' b = none
  wa : wq ∉ A.all
  fw : F' wq = none
  wl : H' wq = some (.lst (ts.map V.ref).reverse)
  wi : WAt K F' ts st
  ff : Ex F0 F'
  fh : Ex F' H'
  nw : ∀ b, H b ≠ none → F0 b = none → F' b = none
  kp : ∀ b o, H b = some o → b ≠ p → H' b = some o
  nh : ∀ b ∈ A.all, b = p ∨ H b = none
  hw : H wq = none
  it : ∀ i ∈ st, Gd i.d ∧ ∀ j, i.par = some j → j < rows.length
  ch : ∀ r ∈ rows, r.ch.length ≤ rows.length
theorem InW.fresh {K : PySem.W.Frag} {F0 H F' H' : Hp} {p wq : Addr} {Gd : PyData → Prop} {st : List WIt} {rows : List Row} {A : CAd} {ts : List Addr} (x : InW K F0 H p wq Gd st rows A ts F' H') {c : Addr} (h : H' c = none) : H c = none ∧ F' c = none ∧ c ∉ A.all ∧ c ≠ wq := by
  obtain ⟨vs, C, _⟩ := x.code
  have n : c ∉ A.all := C.fresh h
  have np : c ≠ p := fun z => n (by rw [z, ← x.ap]; simp [CAd.all])
  refine ⟨?_, ?_, n, fun z => by rw [z, x.wl] at h; cases h⟩
  · cases e : H c with
    | none => rfl
    | some o => rw [x.kp c o e np] at h; cases h
  · cases e : F' c with
    | none => rfl
    | some o => rw [x.fh c o e] at h; cases h
section
variable {K : PySem.W.Frag} {F0 H F' H' F2 H2 : Hp} {p wq : Addr} {Gd : PyData → Prop} {st : List WIt} {rows : List Row} {A : CAd} {ts : List Addr}
theorem CodeH.ex {F F2 H H2 : Hp} (c : CodeH K F H A rows) (e1 : Ex F F2) (e2 : Ex H H2) : CodeH K F2 H2 A rows := by
  obtain ⟨vs, C, dL⟩ := c
  exact ⟨vs, C.ex e2, dpA_ex e1 dL⟩
theorem InW.tr (x : InW K F0 H p wq Gd st rows A ts F' H') {b : Addr} (hb : b ∈ A.all) : H' b ≠ none := fun z => by
  obtain ⟨vs, C, _⟩ := x.code
  exact C.fresh z hb
theorem InW.there (x : InW K F0 H p wq Gd st rows A ts F' H') {b : Addr} (hb : H b ≠ none) : H' b ≠ none := by
  by_cases z : b = p
  · exact x.tr (by rw [z, ← x.ap]; simp [CAd.all])
  · intro y
    cases e : H b with
    | none => exact hb e
    | some o => rw [x.kp b o e z] at y; cases y
theorem InW.ext (x : InW K F0 H p wq Gd st rows A ts F' H') (e1 : Ex F' F2) (e2 : Ex F2 H2) (e3 : Ex H' H2) (e4 : ∀ b, H' b ≠ none → F' b = none → F2 b = none) : InW K F0 H p wq Gd st rows A ts F2 H2 :=
  ⟨x.ap, x.code.ex e1 e3, fun b hb => e4 b (x.tr hb) (x.na b hb), x.wa, e4 wq (by rw [x.wl]; exact fun z => nomatch z) x.fw, e3 _ _ x.wl, x.wi.ex e1, x.ff.trans e1, e2, fun b h1 h2 => e4 b (x.there h1) (x.nw b h1 h2), fun b o e hb => e3 b o (x.kp b o e hb), x.nh, x.hw, x.it, x.ch⟩
theorem InW.new (x : InW K F0 H p wq Gd st rows A ts F' H') {q : Addr} {o : HO} (h : H' q = none) : InW K F0 H p wq Gd st rows A ts F' (upd H' q o) :=
  x.ext (Evl.Ex.refl _) (exu x.fh h) (exu (Evl.Ex.refl _) h) fun _ _ e => e
theorem InW.pop {it : WIt} {t : Addr} (x : InW K F0 H p wq Gd (it :: st) rows A (t :: ts) F' H') : InW K F0 H p wq Gd st rows A ts F' (upd H' wq (.lst (ts.map V.ref).reverse)) := by
  obtain ⟨vs, C, dL⟩ := x.code
  refine ⟨x.ap, ⟨vs, C.off x.wa, dL⟩, x.na, x.wa, x.fw, upd_same, ?_, x.ff, exm x.fh x.fw, x.nw, fun b o e hb => ?_, x.nh, x.hw, fun i hi => x.it i (List.mem_cons_of_mem _ hi), x.ch⟩
  · cases x.wi with
    | cons _ _ r => exact r
  · rw [upd_ne (nn_of x.hw e)]
    exact x.kp b o e hb
theorem addRow_len (rows : List Row) (d : PyData) (par : Option Nat) : (addRow rows d par).length = rows.length + 1 := by
  cases par with
  | none => simp [addRow]
  | some i => simp [addRow, addCh]
theorem Builds.bd {m : Nat} {st : List WIt} {rows fin : List Row} (b : Builds m st rows fin) : m = 0 ∨ rows.length + m ≤ 400 := by
  induction b with
  | done => exact .inl rfl
  | step ok h ih =>
    rw [addRow_len] at ih
    have := ok.1
    omega
theorem addRow_ch {rows : List Row} {d : PyData} {par : Option Nat} (h : ∀ r ∈ rows, r.ch.length ≤ rows.length) : ∀ r ∈ addRow rows d par, r.ch.length ≤ (addRow rows d par).length := by
  rw [addRow_len]
  intro r hr
  rcases List.mem_append.mp hr with hr | hr
  · cases par with
    | none =>
      have := h r hr
      omega
    | some i =>
      have hr : r ∈ addCh rows i rows.length := hr
      obtain ⟨j, hj⟩ := List.mem_iff_getElem?.mp hr
      rw [addCh_eq, List.getElem?_modify] at hj
      cases e : rows[j]? with
      | none => rw [e] at hj; simp at hj
      | some r0 =>
        rw [e] at hj
        have h0 := h r0 (List.mem_of_getElem? e)
        by_cases z : i = j
        · simp [z] at hj
          rw [← hj]
          simp [noteCh]
          omega
        · simp [z] at hj
          rw [← hj]
          omega
  · rw [List.mem_singleton.mp hr]
    simp
theorem InW.kept (x : InW K F0 H p wq Gd st rows A ts F' H') {c : Addr} {d : PyData} {par : Option Nat} (hc : H' c = none) (cd : CodeH K F' H2 { A with cs := A.cs ++ [c] } (addRow rows d par)) (kp : ∀ b o, H' b = some o → b ∉ A.all → H2 b = some o) :
    InW K F0 H p wq Gd st (addRow rows d par) { A with cs := A.cs ++ [c] } ts F' H2 := by
  obtain ⟨f1, f2, f3, f4⟩ := x.fresh hc
  have mem : ∀ b, b ∈ ({ A with cs := A.cs ++ [c] } : CAd).all → b ∈ A.all ∨ b = c := fun b hb => by
    simp only [CAd.all, List.mem_cons, List.mem_append, List.not_mem_nil, or_false] at hb ⊢
    rcases hb with h | h | h | h | h | h | h | h <;> simp [h]
  refine ⟨x.ap, cd, fun b hb => ?_, fun hb => ?_, x.fw, kp _ _ x.wl x.wa, x.wi, x.ff, fun b o e => kp b o (x.fh b o e) (fun z => by rw [x.na b z] at e; cases e), x.nw, fun b o e hb => ?_, fun b hb => ?_, x.hw, fun i hi => ⟨(x.it i hi).1, fun j e => ?_⟩, addRow_ch x.ch⟩
  · rcases mem b hb with h | h
    · exact x.na b h
    · rw [h]; exact f2
  · rcases mem wq hb with h | h
    · exact x.wa h
    · exact f4 h.symm
  · refine kp b o (x.kp b o e hb) fun z => ?_
    rcases x.nh b z with y | y
    · exact hb y
    · rw [y] at e; cases e
  · rcases mem b hb with h | h
    · exact x.nh b h
    · rw [h]; exact .inr f1
  · rw [addRow_len]
    have := (x.it i hi).2 j e
    omega
theorem InW.push {it : WIt} {t : Addr} {v : V} (x : InW K F0 H p wq Gd st rows A ts F' H') (ht : H' t = none) (hd : Dp K F' v it.d) (hit : Gd it.d ∧ ∀ j, it.par = some j → j < rows.length) :
    InW K F0 H p wq Gd (it :: st) rows A (t :: ts) (upd F' t (.tup (wV v it))) (upd (upd H' t (.tup (wV v it))) wq (.lst (((t :: ts).map V.ref).reverse))) := by
  obtain ⟨f1, f2, f3, f4⟩ := x.fresh ht
  have x1 := x.ext (F2 := upd F' t (.tup (wV v it))) (H2 := upd H' t (.tup (wV v it))) (exu (Evl.Ex.refl _) f2) (fun b o e => by
      by_cases z : b = t
      · rw [z, upd_same] at e ⊢; exact e
      · rw [upd_ne z] at e ⊢; exact x.fh b o e) (exu (Evl.Ex.refl _) ht) (fun b h1 h2 => by rw [upd_ne (fun z => h1 (by rw [z]; exact ht))]; exact h2)
  obtain ⟨vs, C, dL⟩ := x1.code
  refine ⟨x.ap, ⟨vs, C.off x.wa, dL⟩, x1.na, x.wa, x1.fw, upd_same, .cons upd_same (dp_ex (exu (Evl.Ex.refl _) f2) hd) x1.wi, x1.ff, exm x1.fh x1.fw, x1.nw, fun b o e hb => ?_, x.nh, x.hw, fun i hi => ?_, x.ch⟩
  · rw [upd_ne (nn_of x.hw e)]
    exact x1.kp b o e hb
  · rcases List.mem_cons.mp hi with rfl | hi
    · exact hit
    · exact x.it i hi
end
theorem newIts_len (it : WIt) (n : Nat) : (newIts it n).length = (partsD it.d).length := by simp [newIts]
theorem newIts_get {it : WIt} {n j : Nat} {d : PyData} (h : (partsD it.d)[j]? = some d) : (newIts it n)[j]? = some (newIt it n j d) := by
  unfold newIts
  rw [List.getElem?_mapIdx, h] <;> rfl
theorem wV_new (v : V) (it : WIt) (n j : Nat) (d : PyData) : wV v (newIt it n j d) = [v, .int (n : Int), .int ((it.deep : Int) + 1), .int ((it.loops : Int) + (if decide (V.str (kindD it.d) = V.str "while") = true then 1 else 0)),
    .int ((it.blocks : Int) + (if kindD it.d = "final" ∧ j = 1 then 1 else 0))] := by
  have e1 : ((it.deep + 1 : Nat) : Int) = (it.deep : Int) + 1 := by omega
  have e2 : ((it.loops + (if kindD it.d = "while" then 1 else 0) : Nat) : Int) = (it.loops : Int) + (if decide (V.str (kindD it.d) = V.str "while") = true then 1 else 0) := by
    by_cases z : kindD it.d = "while"
    · rw [if_pos z, if_pos (decide_eq_true (by rw [z]))] <;> omega
    · rw [if_neg z, if_neg (fun y => z (V.str.inj (of_decide_eq_true y)))] <;> omega
  have e3 : ((it.blocks + (if kindD it.d = "final" ∧ j = 1 then 1 else 0) : Nat) : Int) = (it.blocks : Int) + (if kindD it.d = "final" ∧ j = 1 then 1 else 0) := by
    by_cases z : kindD it.d = "final" ∧ j = 1
    · rw [if_pos z, if_pos z] <;> omega
    · rw [if_neg z, if_neg z] <;> omega
  show [v, V.int (n : Int), V.int ((it.deep + 1 : Nat) : Int), V.int ((it.loops + (if kindD it.d = "while" then 1 else 0) : Nat) : Int), V.int ((it.blocks + (if kindD it.d = "final" ∧ j = 1 then 1 else 0) : Nat) : Int)] = _
  rw [e1, e2, e3]
section
variable {P : Program} {w : World} {h : Heap} {K : PySem.W.Frag} {mg : Str → Option Value} {base : Heap}
abbrev N_Code___init__ : List Str := ["self", "statement", "waiting", "value", "parent", "deep", "loops", "blocks", "number", "at", "part", "inside"]
theorem sc_Code___init__ : FnScope N_Code___init__ ["self", "statement"] (defScope sd_Code___init__) := ⟨rfl, rfl, rfl, by decide +kernel, rfl, by decide +kernel, by decide +kernel⟩
theorem ok_Code___init__ (T : Tx w h K mg) : Ok P w K mg base 6 ("Code", some "__init__") ["self", "statement"] (sp_Code___init__ K) := by
  obtain ⟨fd, F⟩ := F_Code___init__ T
  refine ⟨fd, ?_, F.bindsN (fun _ _ _ _ _ _ us hl => match us, hl with | [_, _], _ => rfl), F.kp⟩
  obtain ⟨fd_parts_in, G_parts_in, bi_parts_in, kp_parts_in⟩ := ok_parts_in (P := P) (base := base) T
  obtain ⟨fd_Code_check, G_Code_check, bi_Code_check, kp_Code_check⟩ := ok_Code_check (P := P) (base := base) T
  obtain ⟨fd_Code_keep, G_Code_keep, bi_Code_keep, kp_Code_keep⟩ := ok_Code_keep (P := P) (base := base) T
  refine F.ok sc_Code___init__ (fun vs H Q E h => ?_) (fun cdv A outer s H vs Q E hr h => ?_)
  · obtain ⟨F0, p, dx, v, d, Gd, N, fin, rfl, hp, xF, Fp, hd, hG, hGd, hB, q⟩ := h
    rfl
  · obtain ⟨F0, p, dx, v, d, Gd, N, fin, rfl, hp, xF, Fp, hd, hG, hGd, hB, q⟩ := h
    refine ⟨_, PSs.nox (Evl.pss_cut (ps_asg (pe_tup (pa_cons (pe_lst pa_nil) (pa_cons (pe_lst pa_nil) (pa_cons (pe_lst pa_nil) pa_nil)))) (pg_tup rfl (pgs_cons (FcR.pg_fld (pv 0)) (pgs_cons (FcR.pg_fld (pv 0)) (pgs_cons (FcR.pg_fld (pv 0)) pgs_nil))))) (Evl.pss_cut (ps_asg (pe_tup (pa_cons (pe_lst pa_nil) (pa_cons (pe_lst pa_nil) pa_nil))) (pg_tup rfl (pgs_cons (FcR.pg_fld (pv 0)) (pgs_cons (FcR.pg_fld (pv 0)) pgs_nil)))) (pss_cons (ps_set (i := 2) sc_Code___init__.nd rfl (Or.inl rfl) (pe_lst (pa_cons (pe_tup (pa_cons (pv 1) (pa_cons pe_non (pa_cons pe_int (pa_cons pe_int (pa_cons pe_int pa_nil)))))) pa_nil))) (pss_one (ps_while PassesOwn.never (pt_cmpR (op_neM hr) (pv 2) (pe_lst pa_nil) (nomark _)) (pss_cons (ps_asg (pe_bm0 PySem.F.plainAttrs_list PySem.F.slot_list_pop PySem.F.type_list_pop mt_pop (pv 2)) (pg_tup rfl (pgs_cons (pg_name (i := 3) sc_Code___init__.nd rfl (Or.inl rfl)) (pgs_cons (pg_name (i := 4) sc_Code___init__.nd rfl (Or.inl rfl)) (pgs_cons (pg_name (i := 5) sc_Code___init__.nd rfl (Or.inl rfl)) (pgs_cons (pg_name (i := 6) sc_Code___init__.nd rfl (Or.inl rfl)) (pgs_cons (pg_name (i := 7) sc_Code___init__.nd rfl (Or.inl rfl)) pgs_nil))))))) (pss_cons (ps_set (i := 8) sc_Code___init__.nd rfl (Or.inl rfl) (pe_callB call_len_seq rfl (fr_len T) b_len (pa_cons (pe_fld (pv 0) rfl) pa_nil))) (pss_cons (ps_expr (pe_meth (pv 0) (c_Code T) (me_Code_check T) G_Code_check (hr.mono (by decide)) bi_Code_check .nil passF (pa_cons (pv 3) (pa_cons (pv 8) (pa_cons (pv 5) (pa_cons (pv 6) (pa_cons (pv 7) pa_nil))))))) (pss_cons (ps_expr (pe_meth (pv 0) (c_Code T) (me_Code_keep T) G_Code_keep (hr.mono (by decide)) bi_Code_keep .nil passF (pa_cons (pv 3) (pa_cons (pv 4) pa_nil)))) (pss_one (ps_for PassesOwn.never rfl (pi_reversed rfl (fr_reversed T) (pa_cons (FcR.pe_listEnum rfl (pe_call G_parts_in (hr.mono (by decide)) rfl (g_parts_in T) kp_parts_in bi_parts_in .nil passF (pa_cons (pv 3) pa_nil)) rfl (fr_list T) b_list rfl (fr_enumerate T) b_enumerate) pa_nil)) (pg_tup rfl (pgs_cons (pg_name (i := 9) sc_Code___init__.nd rfl (Or.inl rfl)) (pgs_cons (pg_name (i := 10) sc_Code___init__.nd rfl (Or.inl rfl)) pgs_nil))) (Evl.pss_cut (ps_set (i := 11) sc_Code___init__.nd rfl (Or.inl rfl) (pe_op op_add (pv 7) (pe_callTy call_int1 rfl (fr_int T) b_int (pa_cons (pe_and (pe_cmpR op_eq (pe_ix ix_tup (pv 3) pe_int (fun _ _ => rfl)) pe_str (nomark _)) (pe_one (pe_cmpR op_eq (pv 9) pe_int (nomark _)))) pa_nil)))) (pss_one (ps_expr (pe_bm PySem.F.plainAttrs_list PySem.F.slot_list_append PySem.F.type_list_append mt_append (pv 2) (pa_cons (pe_tup (pa_cons (pv 10) (pa_cons (pv 8) (pa_cons (pe_op op_add (pv 5) pe_int) (pa_cons (pe_op op_add (pv 6) (pe_callTy call_int1 rfl (fr_int T) b_int (pa_cons (pe_cmpR op_eq (pe_ix ix_tup (pv 3) pe_int (fun _ _ => rfl)) pe_str (nomark _)) pa_nil))) (pa_cons (pv 11) pa_nil)))))) pa_nil)))))))))))))))), ?_⟩
    refine ⟨fun σ' H' => σ' = L2.start N_Code___init__ [.ref p, v] ∧ ∃ q1 q2 q3, H q1 = none ∧ H q2 = none ∧ H q3 = none ∧ q2 ≠ q1 ∧ q3 ≠ q1 ∧ q3 ≠ q2 ∧ H' q1 = some (.lst []) ∧ H' q2 = some (.lst []) ∧ H' q3 = some (.lst []) ∧
      H' p = some (.ins (He.ga K "Code") dx [("statements", .ref q1), ("kinds", .ref q2), ("labels", .ref q3)]) ∧ (∀ b o, H b = some o → b ≠ p → H' b = some o) ∧ (∀ b, H' b = none → H b = none), ?_, ?_⟩
    · refine ⟨sz (by simp), fun q1 f1 => ⟨sz (by simp), fun q2 f2 => ⟨sz (by simp), fun q3 f3 => ⟨sz (by simp), fun t1 g1 => ?_⟩⟩⟩⟩
      obtain ⟨n2a, f2⟩ := up_none f2
      obtain ⟨n3b, f3⟩ := up_none f3
      obtain ⟨n3a, f3⟩ := up_none f3
      obtain ⟨n1c, g1⟩ := up_none g1
      obtain ⟨n1b, g1⟩ := up_none g1
      obtain ⟨n1a, g1⟩ := up_none g1
      have p1 := nn_of f1 hp
      have p2 := nn_of f2 hp
      have p3 := nn_of f3 hp
      have p4 := nn_of g1 hp
      refine ⟨t1, _, rfl, Evl.st_of upd_same, rfl, _, _, rfl, _, rfl, p, _, dx, _, rfl, (by rw [upd_ne p4, upd_ne p3, upd_ne p2, upd_ne p1]; exact hp), c_Code T, na_Code_statements T, (by simp), ?_⟩
      rw [fi_Code_0]
      refine ⟨_, _, rfl, _, rfl, p, _, dx, _, rfl, upd_same, c_Code T, na_Code_kinds T, (by simp), ?_⟩
      rw [fi_Code_1, upd_upd]
      refine ⟨_, _, rfl, _, rfl, p, _, dx, _, rfl, upd_same, c_Code T, na_Code_labels T, (by simp), rfl, ?_⟩
      rw [fi_Code_2, upd_upd]
      refine ⟨rfl, q1, q2, q3, f1, f2, f3, n2a, n3a, n3b, ?_, ?_, ?_, upd_same, fun b o e hb => ?_, fun b e => ?_⟩
      · rw [upd_ne p1.symm, upd_ne n1a.symm, upd_ne n3a.symm, upd_ne n2a.symm, upd_same]
      · rw [upd_ne p2.symm, upd_ne n1b.symm, upd_ne n3b.symm, upd_same]
      · rw [upd_ne p3.symm, upd_ne n1c.symm, upd_same]
      · rw [upd_ne hb, upd_ne (nn_of g1 e), upd_ne (nn_of f3 e), upd_ne (nn_of f2 e), upd_ne (nn_of f1 e)]
        exact e
      · exact (up_none (up_none (up_none (up_none (up_none e).2).2).2).2).2
    rintro σ' H1 ⟨rfl, q1, q2, q3, f1, f2, f3, n21, n31, n32, h1, h2, h3, hp1, kp1, fr1⟩
    -- self.parents, self.children = ([], [])
    refine ⟨fun σ' H' => σ' = L2.start N_Code___init__ [.ref p, v] ∧ ∃ A : CAd, A.p = p ∧ A.dx = dx ∧ A.cs = [] ∧ CL K H' A [] [] [] [] [] ∧ (∀ b ∈ A.all, b = p ∨ H b = none) ∧ (∀ b o, H b = some o → b ≠ p → H' b = some o) ∧ (∀ b, H' b = none → H b = none), ?_, ?_⟩
    · refine ⟨sz (by simp), fun q4 f4 => ⟨sz (by simp), fun q5 f5 => ⟨sz (by simp), fun t2 g2 => ?_⟩⟩⟩
      obtain ⟨n54, f5⟩ := up_none f5
      obtain ⟨m5, g2⟩ := up_none g2
      obtain ⟨m4, g2⟩ := up_none g2
      have p4 := nn_of f4 hp1
      have p5 := nn_of f5 hp1
      have pt := nn_of g2 hp1
      refine ⟨t2, _, rfl, Evl.st_of upd_same, rfl, _, _, rfl, _, rfl, p, _, dx, _, rfl, (by rw [upd_ne pt, upd_ne p5, upd_ne p4]; exact hp1), c_Code T, na_Code_parents T, (by simp), ?_⟩
      rw [fi_Code_3]
      refine ⟨_, _, rfl, _, rfl, p, _, dx, _, rfl, upd_same, c_Code T, na_Code_children T, (by simp), rfl, ?_⟩
      rw [fi_Code_4, upd_upd]
      have a1 := nn_of f4 h1
      have a2 := nn_of f4 h2
      have a3 := nn_of f4 h3
      have b1 := nn_of f5 h1
      have b2 := nn_of f5 h2
      have b3 := nn_of f5 h3
      have c1 := nn_of g2 h1
      have c2 := nn_of g2 h2
      have c3 := nn_of g2 h3
      have pn1 : p ≠ q1 := nn_of f1 hp
      have pn2 : p ≠ q2 := nn_of f2 hp
      have pn3 : p ≠ q3 := nn_of f3 hp
      refine ⟨rfl, ⟨p, dx, q1, q2, q3, q4, q5, []⟩, rfl, rfl, rfl, ⟨upd_same, ?_, ?_, ?_, ?_, ?_, rfl, fun i c x e => by simp at e, ?_⟩, ?_, fun b o e hb => ?_, fun b e => ?_⟩
      · show upd _ p _ q1 = _
        rw [upd_ne pn1.symm, upd_ne c1, upd_ne b1, upd_ne a1]
        exact h1
      · show upd _ p _ q2 = _
        rw [upd_ne pn2.symm, upd_ne c2, upd_ne b2, upd_ne a2]
        exact h2
      · show upd _ p _ q3 = _
        rw [upd_ne pn3.symm, upd_ne c3, upd_ne b3, upd_ne a3]
        exact h3
      · show upd _ p _ q4 = _
        rw [upd_ne p4.symm, upd_ne m4.symm, upd_ne n54.symm, upd_same]
      · show upd _ p _ q5 = _
        rw [upd_ne p5.symm, upd_ne m5.symm, upd_same] <;> rfl
      · show [p, q1, q2, q3, q4, q5].Nodup
        simp only [List.nodup_cons, List.mem_cons, List.not_mem_nil, or_false, not_or, List.nodup_nil, and_true, not_false_eq_true]
        exact ⟨⟨pn1, pn2, pn3, p4, p5⟩, ⟨n21.symm, n31.symm, a1, b1⟩, ⟨n32.symm, a2, b2⟩, ⟨a3, b3⟩, n54.symm⟩
      · intro b hb
        have hb : b ∈ [p, q1, q2, q3, q4, q5] := hb
        simp only [List.mem_cons, List.not_mem_nil, or_false] at hb
        rcases hb with rfl | rfl | rfl | rfl | rfl | rfl
        · exact .inl rfl
        · exact .inr f1
        · exact .inr f2
        · exact .inr f3
        · exact .inr (fr1 _ f4)
        · exact .inr (fr1 _ f5)
      · have e1 := kp1 b o e hb
        rw [upd_ne hb, upd_ne (nn_of g2 e1), upd_ne (nn_of f5 e1), upd_ne (nn_of f4 e1)]
        exact e1
      · exact fr1 _ (up_none (up_none (up_none (up_none e).2).2).2).2
    rintro σ' H2 ⟨rfl, A, rfl, rfl, ac, C, nA, kp2, fr2⟩
    -- waiting = [(statement, None, 1, 0, 0)]
    refine ⟨_, rfl, sz (by simp), fun t3 g3 => ⟨sz (by simp), fun wq gw => ?_⟩⟩
    obtain ⟨nwt, gw⟩ := up_none gw
    have gt : H2 t3 = none := g3
    have ft : F0 t3 = none := Evl.fresh_back xF (fr2 t3 gt)
    have v0 : InW K F0 H A.p wq Gd [⟨d, none, 1, 0, 0⟩] [] A [t3] (upd F0 t3 (.tup [v, .non, .int 1, .int 0, .int 0])) (upd (upd H2 t3 (.tup [v, .non, .int 1, .int 0, .int 0])) wq (.lst [.ref t3])) := by
      have C1 := (C.off (o := .tup [v, .non, .int 1, .int 0, .int 0]) (C.fresh gt))
      have nwA : wq ∉ A.all := C.fresh gw
      have C2 := C1.off (o := .lst [.ref t3]) nwA
      have xx : Ex F0 (upd F0 t3 (.tup [v, .non, .int 1, .int 0, .int 0])) := exu (Evl.Ex.refl F0) ft
      have fA : ∀ b ∈ A.all, F0 b = none := fun b hb => by
        rcases nA b hb with rfl | e
        · exact Fp
        · exact Evl.fresh_back xF e
      have ntA : t3 ∉ A.all := C.fresh gt
      refine ⟨rfl, ⟨[], C2, .nil⟩, fun b hb => ?_, nwA, ?_, upd_same, .cons upd_same (dp_ex xx hd) .nil, xx, fun b o e => ?_, fun b e1 e2 => ?_, fun b o e hb => ?_, nA, fr2 wq gw, fun i hi => ?_, fun r hr => by cases hr⟩
      · rw [upd_ne (fun z => ntA (by rw [← z]; exact hb))]
        exact fA b hb
      · rw [upd_ne nwt]
        exact Evl.fresh_back xF (fr2 wq gw)
      · by_cases z : b = t3
        · rw [z, upd_same] at e
          cases e
          rw [z, upd_ne nwt.symm, upd_same]
        · rw [upd_ne z] at e
          have e2 := xF b o e
          have nb : b ≠ A.p := fun y => by rw [y, Fp] at e; cases e
          rw [upd_ne (nn_of (fr2 wq gw) e2), upd_ne z]
          exact kp2 b o e2 nb
      · rw [upd_ne (fun z => e1 (by rw [z]; exact fr2 t3 gt))]
        exact e2
      · rw [upd_ne (nn_of (fr2 wq gw) e), upd_ne (nn_of (fr2 t3 gt) e)]
        exact kp2 b o e hb
      · rw [List.mem_singleton.mp hi]
        exact ⟨hGd, fun j e => by cases e⟩
    refine ⟨fun m σ' H' => ∃ st rows B ts F' o3 o4 o5 o6 o7 o8 o9 o10 o11, Builds m st rows fin ∧ σ' = [some (.ref A.p), some v, some (.ref wq), o3, o4, o5, o6, o7, o8, o9, o10, o11] ∧ InW K F0 H A.p wq Gd st rows B ts F' H', ⟨N, _, _, _, _, _, _, _, _, _, _, _, _, _, _, hB, rfl, v0⟩, ?_⟩
    rintro m σ' H3 ⟨st, rows, B, ts, F3, o3, o4, o5, o6, o7, o8, o9, o10, o11, bd, rfl, I3⟩
    -- waiting != []
    have hcan : PyData.canLay0 (.list (st.map wD).reverse) = true := canAll fun e he => by
      obtain ⟨i, hi, rfl⟩ := List.mem_map.mp (List.mem_reverse.mp he)
      exact can_wD (hG _ (I3.it i hi).1).1
    refine ⟨_, rfl, sz (by simp), fun p4 g4 => ?_⟩
    obtain ⟨r1, r2, r3, r4⟩ := I3.fresh g4
    have hdl : Dp K (upd H3 p4 (.lst [])) (.ref wq) (.list (st.map wD).reverse) := .lst (Evl.sq_of (by rw [upd_ne r4.symm]; exact I3.wl)) (dpA_rev (dpA_ex (exu I3.fh g4) I3.wi.dp))
    refine ⟨_, _, hdl, .lst (Evl.sq_of upd_same) .nil, hcan, rfl, min_lnil _, _, rfl, ite_of (fun h4 => ?_) (fun h4 => ?_)⟩
    · cases bd with
      | done => simp [PyData.eqv, PyData.eqvAll] at h4
      | @step n it st' _ _ ok bd =>
      cases hts : I3.wi with
      | @cons t ts' _ _ v1 ht hv1 hr =>
      have I4 := (I3.new (o := .lst []) g4).pop
      refine ⟨fun σ' H' => ∃ st rows B ts F' o3 o4 o5 o6 o7 o8 o9 o10 o11, Builds n st rows fin ∧ σ' = [some (.ref A.p), some v, some (.ref wq), o3, o4, o5, o6, o7, o8, o9, o10, o11] ∧ InW K F0 H A.p wq Gd st rows B ts F' H', fun σ' H' w => ⟨n, Nat.lt_succ_self _, w⟩, ?_⟩
      -- value, parent, deep, loops, blocks = waiting.pop()
      have wl4 : upd H3 p4 (.lst []) wq = some (.lst ((ts'.map V.ref).reverse ++ [.ref t])) := by
        rw [upd_ne r4.symm, I3.wl] <;> simp
      refine ⟨_, rfl, Or.inl ⟨rfl, _, Evl.sq_of wl4⟩, wq, _, .ref t, rfl, rfl, wl4, by simp, ?_⟩
      rw [List.dropLast_concat]
      refine ⟨t, wV v1 it, rfl, Evl.st_of (I4.fh _ _ ht), rfl, _, _, rfl, _, _, rfl, _, _, rfl, _, _, rfl, _, _, rfl, rfl, ?_⟩
      -- number = len(self.kinds)
      obtain ⟨L1, C4, dL4⟩ := id I4.code
      have ob4 : ∀ {H' : Hp} {L1 L2 L3 L4 : List V} {Cs : List (List V)}, CL K H' B L1 L2 L3 L4 Cs → H' A.p = some (.ins (He.ga K "Code") B.dx (cFs B)) := fun C => by rw [← I3.ap]; exact C.ob
      refine ⟨_, rfl, A.p, _, _, _, _, rfl, ob4 C4, c_Code T, na_Code_kinds T, fl_Code_kinds _ _ _ _ _, B.a2, _, rfl, .inl (Evl.sq_of C4.h2), ?_⟩
      have hgi := hG _ (I3.it it List.mem_cons_self).1
      obtain ⟨k1, k2, k3, k4⟩ := id ok
      have ln : (rows.map fun r => V.str (kindD r.d)).length = rows.length := List.length_map _
      -- self.check(..)
      refine ⟨_, rfl, A.p, _, _, rfl, ob4 C4, fm_Code_check _ _ _ _ _, _, rfl, _, rfl, _, rfl, _, rfl, _, rfl, .ref A.p, v1, it.d, _, _, _, _, rfl, dp_ex I4.fh hv1, hgi.1, hgi.2.1, (by rw [ln]; omega), (by omega), (by omega), k4, fun H5 x5 => ?_⟩
      have I5 := I4.ext (Evl.Ex.refl _) (I4.fh.trans x5) x5 fun _ _ e => e
      obtain ⟨L1', C5, dL5⟩ := id I5.code
      -- self.keep(value, parent)
      refine ⟨_, rfl, A.p, _, _, rfl, ob4 C5, fm_Code_keep _ _ _ _ _, _, rfl, _, rfl, F3, B, rows, v1, it.d, _, it.par, (by rw [← I3.ap] <;> rfl), I5.fh, I5.code, I5.na, hv1, k4, (by omega), fun i e => ?_, fun c H6 hc6 cd6 kp6 => ?_⟩
      · have li := (I3.it it List.mem_cons_self).2 i e
        refine ⟨rows[i], List.getElem?_eq_getElem li, ?_⟩
        have := I3.ch rows[i] (List.getElem_mem li)
        omega
      have I6 := I5.kept hc6 cd6 kp6
      -- for at, part in reversed(list(enumerate(parts_in(value))))
      refine ⟨_, rfl, F3, v1, it.d, _, rfl, I6.fh, hv1, k4, fun pp H7 xs fp7 x7 hl7 dA7 => ?_⟩
      have I7 := I6.ext (Evl.Ex.refl _) (I6.fh.trans x7) x7 fun _ _ e => e
      refine ⟨pp, xs, rfl, Evl.sq_of hl7, fun H8 pe te k8 fpe fte npe nd8 lte hpe hte => ?_⟩
      have L8 : ∀ b ∈ pe :: te, H7 b = none := fun b hb => by
        rcases List.mem_cons.mp hb with e | hb
        · rw [e]; exact fpe
        · exact fte b hb
      have I8 : InW K F0 H A.p wq Gd st' (addRow rows it.d it.par) { B with cs := B.cs ++ [c] } ts' (frz F3 H8 (pe :: te)) H8 :=
        I7.ext (frz_ex fun b hb => (I7.fresh (L8 b hb)).2.1) (frz_le (I7.fh.trans k8)) k8 fun b h1 h2 => by rw [frz_out (fun z => h1 (L8 b z))]; exact h2
      have lx : xs.length = (partsD it.d).length := dpA_len dA7
      have x38 : Ex F3 (frz F3 H8 (pe :: te)) := frz_ex fun b hb => (I7.fresh (L8 b hb)).2.1
      obtain ⟨kk, rr, _, ek, _, _, _⟩ := isStm_shape k4
      obtain ⟨va, vxs, rfl, vS, vA⟩ := dp_tup (ek ▸ hv1)
      cases vA with
      | @cons vk vxr _ _ vk0 vA =>
      obtain rfl := dp_str vk0
      have ekd : kindD it.d = kk := by rw [ek] <;> rfl
      refine ⟨pe, _, rfl, Evl.sq_of hpe, for_it walk_rev (fun i σ' H' => ∃ ts'' F'' o9 o10 o11, σ' = [some (.ref A.p), some v, some (.ref wq), some (.ref va), some (parV it.par), some (.int (it.deep : Int)), some (.int (it.loops : Int)), some (.int (it.blocks : Int)), some (.int ((rows.map fun r => V.str (kindD r.d)).length : Int)), o9, o10, o11] ∧
        InW K F0 H A.p wq Gd ((newIts it rows.length).drop (te.length - i) ++ st') (addRow rows it.d it.par) { B with cs := B.cs ++ [c] } ts'' F'' H' ∧ Ex (frz F3 H8 (pe :: te)) F'') ?_ ?_ ?_ ?_⟩
      · refine ⟨ts', _, o9, o10, o11, rfl, ?_, Evl.Ex.refl _⟩
        rw [Nat.sub_zero, List.drop_eq_nil_of_le (by rw [newIts_len, lte, lx]; exact Nat.le_refl _)]
        exact I8
      · rintro i σ' H' _ ⟨ts'', F'', _, _, _, _, I9, x9⟩
        exact Evl.sq_of (I9.fh _ _ (x9 _ _ (by rw [frz_in List.mem_cons_self]; exact hpe)))
      · rintro i x σ' H9x H9 hi ⟨ts'', F'', u9, u10, u11, rfl, I9, x9⟩ ⟨rfl, hx⟩
        rw [List.length_map] at hi hx
        have lj : te.length - 1 - i < te.length := by omega
        have htj : te[te.length - 1 - i]? = some te[te.length - 1 - i] := List.getElem?_eq_getElem lj
        rw [List.getElem?_map, htj] at hx
        cases hx
        have lxj : te.length - 1 - i < xs.length := by rw [← lte]; exact lj
        have hxj : xs[te.length - 1 - i]? = some xs[te.length - 1 - i] := List.getElem?_eq_getElem lxj
        have lpj : te.length - 1 - i < (partsD it.d).length := by rw [← lx]; exact lxj
        have hpj : (partsD it.d)[te.length - 1 - i]? = some (partsD it.d)[te.length - 1 - i] := List.getElem?_eq_getElem lpj
        obtain ⟨u, hu, hdu⟩ := dpA_get dA7 hpj
        rw [hxj] at hu
        cases hu
        have htu := hte _ _ _ htj hxj
        have htF : H9 te[te.length - 1 - i] = some (.tup [.int ((te.length - 1 - i : Nat) : Int), xs[te.length - 1 - i]]) := I9.fh _ _ (x9 _ _ (by rw [frz_in (List.mem_cons_of_mem _ (List.getElem_mem lj))]; exact htu))
        have vS9 : SqT K H9 va (V.str kk :: vxr) := Evl.ex_t ((x38.trans x9).trans I9.fh) vS
        refine ⟨_, _, rfl, Evl.st_of htF, rfl, _, _, rfl, _, _, rfl, rfl, ?_⟩
        -- inside = ..
        refine ⟨fun σ' H' => H' = H9 ∧ σ' = [some (.ref A.p), some v, some (.ref wq), some (.ref va), some (parV it.par), some (.int (it.deep : Int)), some (.int (it.loops : Int)), some (.int (it.blocks : Int)), some (.int ((rows.map fun r => V.str (kindD r.d)).length : Int)), some (.int ((te.length - 1 - i : Nat) : Int)), some xs[te.length - 1 - i], some (.int ((it.blocks : Int) + (if kindD it.d = "final" ∧ te.length - 1 - i = 1 then 1 else 0)))], ?_, ?_⟩
        · refine ⟨_, rfl, _, rfl, va, _, _, _, rfl, rfl, vS9, at0, rfl, _, rfl, ite_of (fun h5 => ?_) (fun h5 => ?_)⟩
          · have e5 : kk = "final" := V.str.inj (of_decide_eq_true h5)
            refine ⟨_, rfl, rfl, .inr ⟨_, rfl, _, _, rfl, rfl, rfl, ?_⟩⟩
            by_cases z : te.length - 1 - i = 1
            · rw [if_pos (show kindD it.d = "final" ∧ te.length - 1 - i = 1 from ⟨by rw [ekd, e5], z⟩), if_pos (decide_eq_true (by rw [z] <;> rfl))] <;> rfl
            · rw [if_neg (show ¬ (kindD it.d = "final" ∧ te.length - 1 - i = 1) from fun y => z y.2), if_neg (fun y => z (by have := V.int.inj (of_decide_eq_true y); omega))] <;> rfl
          · have e5 : ¬ kk = "final" := fun e => by
              have y : decide (V.str kk = V.str "final") = true := decide_eq_true (by rw [e])
              rw [y] at h5
              cases h5
            refine .inr ⟨_, rfl, _, _, rfl, rfl, rfl, ?_⟩
            rw [if_neg (show ¬ (kindD it.d = "final" ∧ te.length - 1 - i = 1) from fun y => e5 (by rw [← ekd]; exact y.1))] <;> rfl
        rintro σ' H' ⟨rfl, rfl⟩
        -- waiting.append(..)
        refine ⟨_, rfl, Or.inl ⟨rfl, _, Evl.sq_of I9.wl⟩, _, rfl, _, rfl, _, rfl, _, _, rfl, rfl, _, rfl, _, rfl, va, _, _, _, rfl, rfl, vS9, at0, rfl, .inr ⟨_, rfl, _, _, rfl, rfl, _, rfl, sz (by simp), fun tn htn => ?_⟩⟩
        obtain ⟨z1, z2, z3, z4⟩ := I9.fresh htn
        refine ⟨wq, _, _, rfl, rfl, (by rw [upd_ne z4.symm]; exact I9.wl), szl ?_, ?_⟩
        · have b1 := bd.len
          have b2 := bd.bd
          rw [List.length_append] at b1
          rw [List.length_reverse, List.length_map, I9.wi.len, List.length_append, List.length_drop]
          omega
        have I10 := I9.push (it := newIt it rows.length (te.length - 1 - i) (partsD it.d)[te.length - 1 - i]) (v := xs[te.length - 1 - i]) htn (dp_ex (x38.trans x9) hdu) ⟨hgi.2.2 _ (List.getElem_mem lpj), fun j e => by cases e; rw [addRow_len]; omega⟩
        have e6 : (newIts it rows.length).drop (te.length - (i + 1)) = newIt it rows.length (te.length - 1 - i) (partsD it.d)[te.length - 1 - i] :: (newIts it rows.length).drop (te.length - i) := by
          have e7 : te.length - (i + 1) = te.length - 1 - i := by omega
          have l7 : te.length - 1 - i < (newIts it rows.length).length := by rw [newIts_len]; exact lpj
          have g7 : (newIts it rows.length)[te.length - 1 - i] = newIt it rows.length (te.length - 1 - i) (partsD it.d)[te.length - 1 - i] := by
            have y := newIts_get (n := rows.length) hpj
            rw [List.getElem?_eq_getElem l7] at y
            exact Option.some.inj y
          rw [e7, List.drop_eq_getElem_cons l7, g7]
          congr 2
          omega
        refine ⟨tn :: ts'', upd F'' tn (.tup (wV xs[te.length - 1 - i] (newIt it rows.length (te.length - 1 - i) (partsD it.d)[te.length - 1 - i]))), _, _, _, rfl, ?_, x9.trans (exu (Evl.Ex.refl _) z2)⟩
        rw [e6, List.cons_append]
        have eH : upd (upd H' tn (.tup (wV xs[te.length - 1 - i] (newIt it rows.length (te.length - 1 - i) (partsD it.d)[te.length - 1 - i])))) wq (.lst (((tn :: ts'').map V.ref).reverse)) =
            upd (upd H' tn (.tup [xs[te.length - 1 - i], .int ((rows.map fun r => V.str (kindD r.d)).length : Int), .int ((it.deep : Int) + 1), .int ((it.loops : Int) + (if decide (V.str kk = V.str "while") = true then 1 else 0)), .int ((it.blocks : Int) + (if kindD it.d = "final" ∧ te.length - 1 - i = 1 then 1 else 0))])) wq (.lst ((ts''.map V.ref).reverse ++ [.ref tn])) := by
          rw [wV_new, ln, ekd, List.map_cons, List.reverse_cons]
        rw [eH] at I10
        exact I10
      · rintro σ' H9 ⟨ts'', F'', u9, u10, u11, rfl, I9, x9⟩
        rw [List.length_map, Nat.sub_self, List.drop_zero] at I9
        exact ⟨_, _, _, _, _, _, _, _, _, _, _, _, _, _, bd, rfl, I9⟩
    · rw [eqv_lnil] at h4
      cases bd with
      | step ok bd => simp at h4
      | done =>
      have I5 := I3.new (o := .lst []) g4
      obtain ⟨vs, C5, dL5⟩ := id I5.code
      have xf : Ex F3 (frz F3 (upd H3 p4 (.lst [])) B.all) := frz_ex I5.na
      refine q B (frz F3 (upd H3 p4 (.lst [])) B.all) _ I5.ap ⟨I5.ff.trans xf, frz_le I5.fh, fun b h1 h2 h3 => ?_, fun b o e hb => I5.kp b o e hb⟩ ⟨vs, ?_, dpA_ex xf dL5⟩
      · rw [frz_out (fun z => by
          rcases I5.nh b z with y | y
          · exact h3 y
          · exact h1 y)]
        exact I5.nw b h1 h2
      · have at_ : ∀ {b : Addr} {o : HO}, b ∈ B.all → upd H3 p4 (.lst []) b = some o → frz F3 (upd H3 p4 (.lst [])) B.all b = some o := fun hb e => by rw [frz_in hb]; exact e
        exact ⟨at_ (by simp [CAd.all]) C5.ob, at_ (in_all1 B) C5.h1, at_ (in_all2 B) C5.h2, at_ (in_all3 B) C5.h3, at_ (in_all4 B) C5.h4, at_ (in_all5 B) C5.h5, C5.cl, fun i c x h1 h2 => at_ (in_allc (List.mem_of_getElem? h1)) (C5.cc i c x h1 h2), C5.nd⟩
end
theorem make_of {H H2 : Hp} {q dx C : Addr} {fs : List (Str × V)} (e : upd (upd H dx (.own q)) q (.ins C dx fs) = H2) (nq : H q = none) (nd : H dx = none) : Ex H H2 ∧ H2 q = some (.ins C dx fs) := by
  subst e
  refine ⟨fun b o hb => ?_, upd_same⟩
  rw [upd_ne (ne_of_none hb nq), upd_ne (ne_of_none hb nd)]
  exact hb

end Fc

set_option maxRecDepth 100000
set_option maxHeartbeats 4000000
namespace Fc
open PySem PySem.Spec PyProof.Rows L2 FcR
open Evl (Ex)
/-- what is raised: C(y), its field f -/
def RaisesA (K : PySem.W.Frag) (C f : Str) (H : Hp) (y : V) (E : XK) : Prop := ∀ H' d, Ex H H' → H d = none → H' d = some (.xd [(f, y)]) → E (.ref (He.ga K C)) (some d) H'
section
variable {P : Program} {w : World} {h : Heap} {K : PySem.W.Frag} {mg : Str → Option Value} {base : Heap}
abbrev N_InvalidCode___init__ : List Str := ["self", "number"]
theorem sc_InvalidCode___init__ : FnScope N_InvalidCode___init__ ["self", "number"] (defScope sd_InvalidCode___init__) := ⟨rfl, rfl, rfl, by decide +kernel, rfl, by decide +kernel, by decide +kernel⟩
theorem okF_InvalidCode___init__ (T : Tx w h K mg) : ∃ fd, FnOk P w K mg base (CX P w) 1 (He.fAd K ("InvalidCode", some "__init__")) fd ["self", "number"] (FcX.spX K (He.ga K "InvalidCode") "number") ∧ Binds K fd ["self", "number"] [] ∧ PySem.W.keepIn K (.ref (He.fAd K ("InvalidCode", some "__init__"))) = true ∧ FunD K "__init__" "InvalidCode.__init__" (defArgs sd_InvalidCode___init__) (defBody sd_InvalidCode___init__) (defScope sd_InvalidCode___init__) [] [] (He.fAd K ("InvalidCode", some "__init__")) fd := by
  obtain ⟨fd, F⟩ := F_InvalidCode___init__ T
  refine ⟨fd, ?_, F.bindsN (fun _ _ _ _ _ _ us hl => match us, hl with | [_, _], _ => rfl), F.kp, F⟩
  refine F.ok sc_InvalidCode___init__ (fun vs H Q E h => ?_) (fun cdv A outer s H vs Q E hr h => ?_)
  · obtain ⟨a, y, rfl, ea, q⟩ := h
    rfl
  · obtain ⟨a, y, rfl, ea, q⟩ := h
    refine ⟨_, PSs.nox (pss_one (FcX.ps_xst (pv 0) (pv 1))), ?_⟩
    exact ⟨y, rfl, .ref a, rfl, a, _, rfl, x_InvalidCode T, (xi_InvalidCode T).tk, ea, fun dx h1 h2 => q dx h1 h2⟩
theorem ok_InvalidCode___init__ (T : Tx w h K mg) : Ok P w K mg base 1 ("InvalidCode", some "__init__") ["self", "number"] (FcX.spX K (He.ga K "InvalidCode") "number") := by
  obtain ⟨fd, a, b, c, _⟩ := okF_InvalidCode___init__ (P := P) (base := base) T
  exact ⟨fd, a, b, c⟩
abbrev N_InvalidNumber___init__ : List Str := ["self", "number"]
theorem sc_InvalidNumber___init__ : FnScope N_InvalidNumber___init__ ["self", "number"] (defScope sd_InvalidNumber___init__) := ⟨rfl, rfl, rfl, by decide +kernel, rfl, by decide +kernel, by decide +kernel⟩
theorem okF_InvalidNumber___init__ (T : Tx w h K mg) : ∃ fd, FnOk P w K mg base (CX P w) 1 (He.fAd K ("InvalidNumber", some "__init__")) fd ["self", "number"] (FcX.spX K (He.ga K "InvalidNumber") "number") ∧ Binds K fd ["self", "number"] [] ∧ PySem.W.keepIn K (.ref (He.fAd K ("InvalidNumber", some "__init__"))) = true ∧ FunD K "__init__" "InvalidNumber.__init__" (defArgs sd_InvalidNumber___init__) (defBody sd_InvalidNumber___init__) (defScope sd_InvalidNumber___init__) [] [] (He.fAd K ("InvalidNumber", some "__init__")) fd := by
  obtain ⟨fd, F⟩ := F_InvalidNumber___init__ T
  refine ⟨fd, ?_, F.bindsN (fun _ _ _ _ _ _ us hl => match us, hl with | [_, _], _ => rfl), F.kp, F⟩
  refine F.ok sc_InvalidNumber___init__ (fun vs H Q E h => ?_) (fun cdv A outer s H vs Q E hr h => ?_)
  · obtain ⟨a, y, rfl, ea, q⟩ := h
    rfl
  · obtain ⟨a, y, rfl, ea, q⟩ := h
    refine ⟨_, PSs.nox (pss_one (FcX.ps_xst (pv 0) (pv 1))), ?_⟩
    exact ⟨y, rfl, .ref a, rfl, a, _, rfl, x_InvalidNumber T, (xi_InvalidNumber T).tk, ea, fun dx h1 h2 => q dx h1 h2⟩
theorem ok_InvalidNumber___init__ (T : Tx w h K mg) : Ok P w K mg base 1 ("InvalidNumber", some "__init__") ["self", "number"] (FcX.spX K (He.ga K "InvalidNumber") "number") := by
  obtain ⟨fd, a, b, c, _⟩ := okF_InvalidNumber___init__ (P := P) (base := base) T
  exact ⟨fd, a, b, c⟩
abbrev N_LimitExceeded___init__ : List Str := ["self", "limit"]
theorem sc_LimitExceeded___init__ : FnScope N_LimitExceeded___init__ ["self", "limit"] (defScope sd_LimitExceeded___init__) := ⟨rfl, rfl, rfl, by decide +kernel, rfl, by decide +kernel, by decide +kernel⟩
theorem okF_LimitExceeded___init__ (T : Tx w h K mg) : ∃ fd, FnOk P w K mg base (CX P w) 1 (He.fAd K ("LimitExceeded", some "__init__")) fd ["self", "limit"] (FcX.spX K (He.ga K "LimitExceeded") "limit") ∧ Binds K fd ["self", "limit"] [] ∧ PySem.W.keepIn K (.ref (He.fAd K ("LimitExceeded", some "__init__"))) = true ∧ FunD K "__init__" "LimitExceeded.__init__" (defArgs sd_LimitExceeded___init__) (defBody sd_LimitExceeded___init__) (defScope sd_LimitExceeded___init__) [] [] (He.fAd K ("LimitExceeded", some "__init__")) fd := by
  obtain ⟨fd, F⟩ := F_LimitExceeded___init__ T
  refine ⟨fd, ?_, F.bindsN (fun _ _ _ _ _ _ us hl => match us, hl with | [_, _], _ => rfl), F.kp, F⟩
  refine F.ok sc_LimitExceeded___init__ (fun vs H Q E h => ?_) (fun cdv A outer s H vs Q E hr h => ?_)
  · obtain ⟨a, y, rfl, ea, q⟩ := h
    rfl
  · obtain ⟨a, y, rfl, ea, q⟩ := h
    refine ⟨_, PSs.nox (pss_one (FcX.ps_xst (pv 0) (pv 1))), ?_⟩
    exact ⟨y, rfl, .ref a, rfl, a, _, rfl, x_LimitExceeded T, (xi_LimitExceeded T).tk, ea, fun dx h1 h2 => q dx h1 h2⟩
theorem ok_LimitExceeded___init__ (T : Tx w h K mg) : Ok P w K mg base 1 ("LimitExceeded", some "__init__") ["self", "limit"] (FcX.spX K (He.ga K "LimitExceeded") "limit") := by
  obtain ⟨fd, a, b, c, _⟩ := okF_LimitExceeded___init__ (P := P) (base := base) T
  exact ⟨fd, a, b, c⟩
end

end Fc

set_option maxRecDepth 100000
set_option maxHeartbeats 4000000
namespace FcX
open PySem PySem.Spec PyProof.Rows L2 FcR
/-! ### making an object, and calling a method, where it may raise: one of several promises -/
section
variable {X : Cx} {k : Nat} {f C : Addr} {S : Sp → Prop} {W : WX} {x m : Str} {p pos apos : Pos} {e o : Expr} {es : List Expr} {ta : TE} {t : TA}
def tMakeS (C : Addr) (S : Sp → Prop) (W : WX) (t : TA) : TE := fun σ H Q => t σ H fun vs H1 => ∃ sp, S sp ∧ ∀ x dx, H1 x = none → H1 dx = none → dx ≠ x →
  sp (.ref x :: vs) (upd (upd H1 dx (.own x)) x (.ins C dx [])) (fun v H2 => v = .non ∧ Q (.ref x) H2) (WE W σ)
theorem run_makeS {pins : List (Addr × Obj)} {σ : L2.St} {H : Hp} {s : Shared} {Q : VK} {us : List Value} {vs : List V} {sp : Sp} (M : Mk X.K C f) (h0 : HeldX X.prog X.w X.K X.mg X.base k f sp) (hr : Room (k + 1) X.A)
    (tk : Takes X W) (I : Inv X pins σ H s) (r : Vals vs us)
    (h : ∀ x dx, H x = none → H dx = none → dx ≠ x → sp (.ref x :: vs) (upd (upd H dx (.own x)) x (.ins C dx [])) (fun v H2 => v = .non ∧ Q (.ref x) H2) (WE W σ)) :
    wpAny (model X.prog X.w) X.A (call (.ref C) us) (EP X pins σ Q) X.xe s := by
  obtain ⟨fd, ps, F, _, hb⟩ := h0.ex
  have hq := h (s.heap.objs.size + 1) s.heap.objs.size (I.hok.fresh (Nat.le_succ _)) (I.hok.fresh (Nat.le_refl _)) (Nat.ne_of_lt (Nat.lt_succ_self _))
  have I2 := Inv.made (C := C) I
  have r2 : Vals (V.ref (s.heap.objs.size + 1) :: vs) (Value.ref (s.heap.objs.size + 1) :: us) := .cons rfl r
  have hl : (Value.ref (s.heap.objs.size + 1) :: us).length = ps.length := by
    have e := r2.length
    rw [F.len _ _ _ _ hq] at e
    exact e.symm
  have hb' := hb { s with heap := (s.heap.push _).push _ } (Value.ref (s.heap.objs.size + 1) :: us) I2.kIn (by rw [List.append_nil]; exact hl)
  rw [List.append_nil] at hb'
  refine wpAny_call (make_map (f := f) I.kIn M.makes M.init (beq_iff_eq.mp M.fn) (codeAny_mono (F.run _ X.stack _ _ ⟨Value.ref (s.heap.objs.size + 1) :: us, []⟩ (Value.ref (s.heap.objs.size + 1) :: us) _ _ (WE W σ) (hr.make C us [])
    (I2.env0.make C us []) hb' r2 hq) fun r s' hq' => ?_))
  cases r with
  | error e => exact passAt tk σ pins _ _ e s' I2 hq'
  | ok fl =>
    cases fl with
    | ret u =>
      obtain ⟨v, H', I3, rv, ev, q3⟩ := I2.after hq'
      subst ev
      exact ⟨rv, ⟨V.ref (s.heap.objs.size + 1), H', I3, rfl, q3⟩⟩
    | next => exact False.elim hq'
    | brk => exact False.elim hq'
    | cont => exact False.elim hq'
theorem pe_makeS (A : ∀ sp, S sp → HeldX X.prog X.w X.K X.mg X.base k f sp) (M : Mk X.K C f) (hr : Room (k + 1) X.A) (hg : Gl X x) (hm : X.mg x = some (.ref C)) (tk : Takes X W)
    (ha : PA X (e :: es) t) (hdb : (x == ("__debug__" : Str)) = false := by decide) (he : starEach (e :: es) X.env = (false, eval e X.env) :: starEach es X.env := by rfl) (hpl : (backTo pos (starEach es X.env)).any (·.1) = false := by rfl) :
    PE X (.Call (.Name x p) (e :: es) [] pos) (tMakeS C S W t) := by
  refine ⟨fun pins s σ H Q I h => ?_⟩
  refine wpAny_Call_Name_kw (ld_glob I hg hm ?_ hdb)
  refine PySem.W.callWith_K (h₀ := X.base) I.ok.mod.kin M.kp (thn (ha.run pos pins s σ H _ I h) fun us s1 ⟨vs, H1, I1, r, q⟩ => ⟨I1.kIn, ?_⟩) he hpl
  obtain ⟨sp, hS, q⟩ := q
  exact run_makeS M (A sp hS) hr tk I1 r q
def tMethS (C : Addr) (m : Str) (S : Sp → Prop) (W : WX) (ta : TE) (t : TA) : TE := fun σ H Q => ta σ H fun x H1 => ∃ a dx fs, x = .ref a ∧ H1 a = some (.ins C dx fs) ∧ fs.lookup m = none ∧
  t σ H1 fun vs H2 => ∃ sp, S sp ∧ sp (x :: vs) H2 Q (WE W σ)
theorem pe_methS {pl : Sem Bool} (A : ∀ sp, S sp → HeldX X.prog X.w X.K X.mg X.base k f sp) (he : PE X o ta) (c : Cls X.K C) (hm : Meth X.K C m f) (hr : Room k X.A) (tk : Takes X W) (ha : PA X (e :: es) t)
    (hst : starEach (e :: es) X.env = (false, eval e X.env) :: starEach es X.env := by rfl) (hpl : (backTo pos (starEach es X.env)).any (·.1) = false := by rfl)
    (ht : eval (.Call (.Attribute o m apos) (e :: es) [] pos) X.env = (do
      let ov ← eval o X.env
      standAt apos.atName
      let (f, first) ← holding [ov] (getMethod ov m pl)
      callWith pos f first (backTo pos (starEach (e :: es) X.env)) (backToKw pos (keywordEach [] X.env))) := by rfl) :
    PE X (.Call (.Attribute o m apos) (e :: es) [] pos) (tMethS C m S W ta t) := by
  refine ⟨fun pins s σ H Q I h => ?_⟩
  refine PySem.W.methodCall_KW (pl := pl) (thn (he.run pins s σ H _ I h) fun u s1 ⟨x, H1, I1, rx, a, dx, fs, ex, ea, l, q⟩ => ?_) ht
  subst ex
  obtain rfl : u = Value.ref a := rx
  refine getmeth_ok I1 ea c hm l ?_
  refine PySem.W.callWith_K (first := [.ref a]) (h₀ := X.base) I.ok.mod.kin hm.kp (thn (ha.run pos pins s1 σ H1 _ I1 q) fun us s2 ⟨vs, H2, I2, r, q2⟩ => ⟨I2.kIn, ?_⟩) hst hpl
  obtain ⟨sp, hS, q2⟩ := q2
  obtain ⟨fd, ps, F, _, hb⟩ := (A sp hS).ex
  exact run_fnS (us := .ref a :: us) (vs := .ref a :: vs) F hr hb (passAt tk σ) I2 (.cons rfl r) q2
end
end FcX

set_option maxRecDepth 100000
set_option maxHeartbeats 4000000
namespace Fc
open PySem PySem.Spec PyProof.Rows L2 FcR
open Evl (Ex)
/-! ### what Code refuses -/
def faultI (n deep loops blocks : Int) (d : PyData) : Option (Str × Str × Int) := if 400 ≤ n then some ("LimitExceeded", "limit", 400) else if 100 < deep then some ("LimitExceeded", "limit", 100) else if 25 < blocks then some ("LimitExceeded", "limit", 25) else if isStm d loops = true then none else some ("InvalidCode", "number", n)
def fault (it : WIt) (n : Nat) : Option (Str × Str × Int) := faultI (n : Int) (it.deep : Int) (it.loops : Int) (it.blocks : Int) it.d
theorem faultI_of {it : WIt} {n : Nat} {f : Str × Str × Int} (h : fault it n = some f) : faultI (n : Int) (it.deep : Int) (it.loops : Int) (it.blocks : Int) it.d = some (f.1, f.2.1, f.2.2) := h
inductive Fails : Nat → List WIt → List Row → (Str × Str × Int) → Prop
  | now {it : WIt} {st : List WIt} {rows : List Row} {f : Str × Str × Int} (h : fault it rows.length = some f) : Fails 0 (it :: st) rows f
  | step {n : Nat} {it : WIt} {st : List WIt} {rows : List Row} {f : Str × Str × Int} (ok : okIt it rows.length) (hl : (newIts it rows.length ++ st).length ≤ 50000) (h : Fails n (newIts it rows.length ++ st) (addRow rows it.d it.par) f) : Fails (n + 1) (it :: st) rows f
def sp_Code_checkX (K : PySem.W.Frag) : Sp := fun vs H Q E => ∃ (v0 v : V) (d : PyData) (n deep loops blocks : Int), vs = [v0, v, .int n, .int deep, .int loops, .int blocks] ∧ Dp K H v d ∧ PyData.canLay0 d = true ∧ szD d ∧
  ((n < 400 ∧ deep ≤ 100 ∧ blocks ≤ 25 ∧ isStm d loops = true ∧ ∀ H', Ex H H' → Q .non H') ∨ (∃ C f i, faultI n deep loops blocks d = some (C, f, i) ∧ RaisesA K C f H (.int i) E))
def sp_Code___init__X (K : PySem.W.Frag) : Sp := fun vs H Q E => ∃ (F : Hp) (p dx : Addr) (v : V) (d : PyData) (G : PyData → Prop) (N : Nat) (fin : Str × Str × Int), vs = [.ref p, v] ∧ H p = some (.ins (He.ga K "Code") dx []) ∧ Ex F H ∧ F p = none ∧ Dp K F v d ∧
  (∀ e, G e → PyData.canLay0 e = true ∧ szD e ∧ ∀ x ∈ partsD e, G x) ∧ G d ∧ Fails N [⟨d, none, 1, 0, 0⟩] [] fin ∧
  ∀ H' dd, (∀ b o, H b = some o → b ≠ p → H' b = some o) → H dd = none → H' dd = some (.xd [(fin.2.1, .int fin.2.2)]) → E (.ref (He.ga K fin.1)) (some dd) H'
section
variable {P : Program} {w : World} {h : Heap} {K : PySem.W.Frag} {mg : Str → Option Value} {base : Heap}
theorem ok_Code_checkX (T : Tx w h K mg) : Ok P w K mg base 4 ("Code", some "check") ["self", "value", "number", "deep", "loops", "blocks"] (sp_Code_checkX K) := by
  obtain ⟨fd, F⟩ := F_Code_check T
  refine ⟨fd, ?_, F.bindsN (fun _ _ _ _ _ _ us hl => match us, hl with | [_, _, _, _, _, _], _ => rfl), F.kp⟩
  obtain ⟨fd_is_statement, G_is_statement, bi_is_statement, kp_is_statement⟩ := ok_is_statement (P := P) (base := base) T
  obtain ⟨fd_InvalidCode___init__, G_InvalidCode___init__, bi_InvalidCode___init__, kp_InvalidCode___init__, FD_InvalidCode___init__⟩ := okF_InvalidCode___init__ (P := P) (base := base) T
  obtain ⟨fd_LimitExceeded___init__, G_LimitExceeded___init__, bi_LimitExceeded___init__, kp_LimitExceeded___init__, FD_LimitExceeded___init__⟩ := okF_LimitExceeded___init__ (P := P) (base := base) T
  obtain ⟨tm_MOST_BLOCKS, m_MOST_BLOCKS⟩ := i_MOST_BLOCKS T
  obtain ⟨tm_MOST_DEEP, m_MOST_DEEP⟩ := i_MOST_DEEP T
  obtain ⟨tm_MOST_STATEMENTS, m_MOST_STATEMENTS⟩ := i_MOST_STATEMENTS T
  refine F.ok sc_Code_check (fun vs H Q E h => ?_) (fun cdv A outer s H vs Q E hr h => ?_)
  · obtain ⟨v0, v, d, n, deep, loops, blocks, rfl, hd, hc, hz, alt⟩ := h
    rfl
  · obtain ⟨v0, v, d, n, deep, loops, blocks, rfl, hd, hc, hz, alt⟩ := h
    refine ⟨_, (pss_cons (ps_if (pt_cmpR op_ge (pv 2) (pe_glob (v := .int 400) rfl m_MOST_STATEMENTS ⟨_, rfl⟩) (nomark _)) (pss_one (ps_raise rfl (takes_of rfl rfl rfl rfl) (FcX.pmk_X (x_LimitExceeded T) (xi_LimitExceeded T) G_LimitExceeded___init__ (hr.mono (by decide)) bi_LimitExceeded___init__ passF rfl (g_LimitExceeded T) (pe_glob (v := .int 400) rfl m_MOST_STATEMENTS ⟨_, rfl⟩)))) pss_nil) (pss_cons (ps_if (pt_cmpR op_gt (pv 3) (pe_glob (v := .int 100) rfl m_MOST_DEEP ⟨_, rfl⟩) (nomark _)) (pss_one (ps_raise rfl (takes_of rfl rfl rfl rfl) (FcX.pmk_X (x_LimitExceeded T) (xi_LimitExceeded T) G_LimitExceeded___init__ (hr.mono (by decide)) bi_LimitExceeded___init__ passF rfl (g_LimitExceeded T) (pe_glob (v := .int 100) rfl m_MOST_DEEP ⟨_, rfl⟩)))) pss_nil) (pss_cons (ps_if (pt_cmpR op_gt (pv 5) (pe_glob (v := .int 25) rfl m_MOST_BLOCKS ⟨_, rfl⟩) (nomark _)) (pss_one (ps_raise rfl (takes_of rfl rfl rfl rfl) (FcX.pmk_X (x_LimitExceeded T) (xi_LimitExceeded T) G_LimitExceeded___init__ (hr.mono (by decide)) bi_LimitExceeded___init__ passF rfl (g_LimitExceeded T) (pe_glob (v := .int 25) rfl m_MOST_BLOCKS ⟨_, rfl⟩)))) pss_nil) (pss_one (ps_if (pt_not (pt_val (pe_call G_is_statement (hr.mono (by decide)) rfl (g_is_statement T) kp_is_statement bi_is_statement .nil (passes_call (takes_of rfl rfl rfl rfl) (fun _ _ _ _ h => h)) (pa_cons (pv 1) (pa_cons (pv 4) pa_nil))))) (pss_one (ps_raise rfl (takes_of rfl rfl rfl rfl) (FcX.pmk_X (x_InvalidCode T) (xi_InvalidCode T) G_InvalidCode___init__ (hr.mono (by decide)) bi_InvalidCode___init__ passF rfl (g_InvalidCode T) (pv 2)))) pss_nil))))), ?_⟩
    rcases alt with ⟨l1, l2, l3, hs, q⟩ | ⟨C, f, i, hf, ra⟩
    · refine ⟨_, rfl, _, _, rfl, rfl, _, rfl, itF (decide_eq_false (by omega)) ?_⟩
      refine ⟨_, rfl, _, _, rfl, rfl, _, rfl, itF (decide_eq_false (by omega)) ?_⟩
      refine ⟨_, rfl, _, _, rfl, rfl, _, rfl, itF (decide_eq_false (by omega)) ?_⟩
      exact ⟨_, rfl, _, rfl, v, d, loops, rfl, hd, hc, hz, fun H' x => ⟨_, rfl, itF (by rw [hs] <;> rfl) (q H' x)⟩⟩
    have fin : ∀ H1, Ex H H1 → ∀ d, H1 d = none → E (.ref (He.ga K C)) (some d) (upd H1 d (.xd [(f, .int i)])) := fun H1 e d n => ra _ d (e.trans (exu (Evl.Ex.refl _) n)) (ex_none e n) upd_same
    unfold faultI at hf
    by_cases h1 : 400 ≤ n
    · rw [if_pos h1] at hf
      cases hf
      exact ⟨_, rfl, _, _, rfl, rfl, _, rfl, itT (decide_eq_true (by omega)) ⟨_, rfl, fun d n => fin H (Evl.Ex.refl _) d n⟩⟩
    refine ⟨_, rfl, _, _, rfl, rfl, _, rfl, itF (decide_eq_false (by omega)) ?_⟩
    rw [if_neg h1] at hf
    by_cases h2 : 100 < deep
    · rw [if_pos h2] at hf
      cases hf
      exact ⟨_, rfl, _, _, rfl, rfl, _, rfl, itT (decide_eq_true (by omega)) ⟨_, rfl, fun d n => fin H (Evl.Ex.refl _) d n⟩⟩
    refine ⟨_, rfl, _, _, rfl, rfl, _, rfl, itF (decide_eq_false (by omega)) ?_⟩
    rw [if_neg h2] at hf
    by_cases h3 : 25 < blocks
    · rw [if_pos h3] at hf
      cases hf
      exact ⟨_, rfl, _, _, rfl, rfl, _, rfl, itT (decide_eq_true (by omega)) ⟨_, rfl, fun d n => fin H (Evl.Ex.refl _) d n⟩⟩
    refine ⟨_, rfl, _, _, rfl, rfl, _, rfl, itF (decide_eq_false (by omega)) ?_⟩
    rw [if_neg h3] at hf
    cases hs : isStm d loops with
    | true =>
      rw [hs, if_pos rfl] at hf
      cases hf
    | false =>
      rw [hs, if_neg (by decide)] at hf
      cases hf
      exact ⟨_, rfl, _, rfl, v, d, loops, rfl, hd, hc, hz, fun H' x => ⟨_, rfl, itT (by rw [hs] <;> rfl) ⟨_, rfl, _, rfl, fun d n => fin H' x d n⟩⟩⟩
theorem ok_Code___init__X (T : Tx w h K mg) : Ok P w K mg base 6 ("Code", some "__init__") ["self", "statement"] (sp_Code___init__X K) := by
  obtain ⟨fd, F⟩ := F_Code___init__ T
  refine ⟨fd, ?_, F.bindsN (fun _ _ _ _ _ _ us hl => match us, hl with | [_, _], _ => rfl), F.kp⟩
  obtain ⟨fd_parts_in, G_parts_in, bi_parts_in, kp_parts_in⟩ := ok_parts_in (P := P) (base := base) T
  obtain ⟨fd_Code_check, G_Code_check, bi_Code_check, kp_Code_check⟩ := ok_Code_checkX (P := P) (base := base) T
  obtain ⟨fd_Code_keep, G_Code_keep, bi_Code_keep, kp_Code_keep⟩ := ok_Code_keep (P := P) (base := base) T
  refine F.ok sc_Code___init__ (fun vs H Q E h => ?_) (fun cdv A outer s H vs Q E hr h => ?_)
  · obtain ⟨F0, p, dx, v, d, Gd, N, fin, rfl, hp, xF, Fp, hd, hG, hGd, hB, q⟩ := h
    rfl
  · obtain ⟨F0, p, dx, v, d, Gd, N, fin, rfl, hp, xF, Fp, hd, hG, hGd, hB, q⟩ := h
    refine ⟨_, (Evl.pss_cut (ps_asg (pe_tup (pa_cons (pe_lst pa_nil) (pa_cons (pe_lst pa_nil) (pa_cons (pe_lst pa_nil) pa_nil)))) (pg_tup rfl (pgs_cons (FcR.pg_fld (pv 0)) (pgs_cons (FcR.pg_fld (pv 0)) (pgs_cons (FcR.pg_fld (pv 0)) pgs_nil))))) (Evl.pss_cut (ps_asg (pe_tup (pa_cons (pe_lst pa_nil) (pa_cons (pe_lst pa_nil) pa_nil))) (pg_tup rfl (pgs_cons (FcR.pg_fld (pv 0)) (pgs_cons (FcR.pg_fld (pv 0)) pgs_nil)))) (pss_cons (ps_set (i := 2) sc_Code___init__.nd rfl (Or.inl rfl) (pe_lst (pa_cons (pe_tup (pa_cons (pv 1) (pa_cons pe_non (pa_cons pe_int (pa_cons pe_int (pa_cons pe_int pa_nil)))))) pa_nil))) (pss_one (ps_while (passes_of rfl) (pt_cmpR (op_neM hr) (pv 2) (pe_lst pa_nil) (nomark _)) (pss_cons (ps_asg (pe_bm0 PySem.F.plainAttrs_list PySem.F.slot_list_pop PySem.F.type_list_pop mt_pop (pv 2)) (pg_tup rfl (pgs_cons (pg_name (i := 3) sc_Code___init__.nd rfl (Or.inl rfl)) (pgs_cons (pg_name (i := 4) sc_Code___init__.nd rfl (Or.inl rfl)) (pgs_cons (pg_name (i := 5) sc_Code___init__.nd rfl (Or.inl rfl)) (pgs_cons (pg_name (i := 6) sc_Code___init__.nd rfl (Or.inl rfl)) (pgs_cons (pg_name (i := 7) sc_Code___init__.nd rfl (Or.inl rfl)) pgs_nil))))))) (pss_cons (ps_set (i := 8) sc_Code___init__.nd rfl (Or.inl rfl) (pe_callB call_len_seq rfl (fr_len T) b_len (pa_cons (pe_fld (pv 0) rfl) pa_nil))) (pss_cons (ps_expr (pe_meth (pv 0) (c_Code T) (me_Code_check T) G_Code_check (hr.mono (by decide)) bi_Code_check .nil (passes_call (takes_of rfl rfl rfl rfl) (fun _ _ _ _ h => h)) (pa_cons (pv 3) (pa_cons (pv 8) (pa_cons (pv 5) (pa_cons (pv 6) (pa_cons (pv 7) pa_nil))))))) (pss_cons (ps_expr (pe_meth (pv 0) (c_Code T) (me_Code_keep T) G_Code_keep (hr.mono (by decide)) bi_Code_keep .nil (passes_call (takes_of rfl rfl rfl rfl) (fun _ _ _ _ h => h)) (pa_cons (pv 3) (pa_cons (pv 4) pa_nil)))) (pss_one (ps_for (passes_of rfl) rfl (pi_reversed rfl (fr_reversed T) (pa_cons (FcR.pe_listEnum rfl (pe_call G_parts_in (hr.mono (by decide)) rfl (g_parts_in T) kp_parts_in bi_parts_in .nil (passes_call (takes_of rfl rfl rfl rfl) (fun _ _ _ _ h => h)) (pa_cons (pv 3) pa_nil)) rfl (fr_list T) b_list rfl (fr_enumerate T) b_enumerate) pa_nil)) (pg_tup rfl (pgs_cons (pg_name (i := 9) sc_Code___init__.nd rfl (Or.inl rfl)) (pgs_cons (pg_name (i := 10) sc_Code___init__.nd rfl (Or.inl rfl)) pgs_nil))) (Evl.pss_cut (ps_set (i := 11) sc_Code___init__.nd rfl (Or.inl rfl) (pe_op op_add (pv 7) (pe_callTy call_int1 rfl (fr_int T) b_int (pa_cons (pe_and (pe_cmpR op_eq (pe_ix ix_tup (pv 3) pe_int (fun _ _ => rfl)) pe_str (nomark _)) (pe_one (pe_cmpR op_eq (pv 9) pe_int (nomark _)))) pa_nil)))) (pss_one (ps_expr (pe_bm PySem.F.plainAttrs_list PySem.F.slot_list_append PySem.F.type_list_append mt_append (pv 2) (pa_cons (pe_tup (pa_cons (pv 10) (pa_cons (pv 8) (pa_cons (pe_op op_add (pv 5) pe_int) (pa_cons (pe_op op_add (pv 6) (pe_callTy call_int1 rfl (fr_int T) b_int (pa_cons (pe_cmpR op_eq (pe_ix ix_tup (pv 3) pe_int (fun _ _ => rfl)) pe_str (nomark _)) pa_nil))) (pa_cons (pv 11) pa_nil)))))) pa_nil)))))))))))))))), ?_⟩
    refine ⟨fun σ' H' => σ' = L2.start N_Code___init__ [.ref p, v] ∧ ∃ q1 q2 q3, H q1 = none ∧ H q2 = none ∧ H q3 = none ∧ q2 ≠ q1 ∧ q3 ≠ q1 ∧ q3 ≠ q2 ∧ H' q1 = some (.lst []) ∧ H' q2 = some (.lst []) ∧ H' q3 = some (.lst []) ∧
      H' p = some (.ins (He.ga K "Code") dx [("statements", .ref q1), ("kinds", .ref q2), ("labels", .ref q3)]) ∧ (∀ b o, H b = some o → b ≠ p → H' b = some o) ∧ (∀ b, H' b = none → H b = none), ?_, ?_⟩
    · refine ⟨sz (by simp), fun q1 f1 => ⟨sz (by simp), fun q2 f2 => ⟨sz (by simp), fun q3 f3 => ⟨sz (by simp), fun t1 g1 => ?_⟩⟩⟩⟩
      obtain ⟨n2a, f2⟩ := up_none f2
      obtain ⟨n3b, f3⟩ := up_none f3
      obtain ⟨n3a, f3⟩ := up_none f3
      obtain ⟨n1c, g1⟩ := up_none g1
      obtain ⟨n1b, g1⟩ := up_none g1
      obtain ⟨n1a, g1⟩ := up_none g1
      have p1 := nn_of f1 hp
      have p2 := nn_of f2 hp
      have p3 := nn_of f3 hp
      have p4 := nn_of g1 hp
      refine ⟨t1, _, rfl, Evl.st_of upd_same, rfl, _, _, rfl, _, rfl, p, _, dx, _, rfl, (by rw [upd_ne p4, upd_ne p3, upd_ne p2, upd_ne p1]; exact hp), c_Code T, na_Code_statements T, (by simp), ?_⟩
      rw [fi_Code_0]
      refine ⟨_, _, rfl, _, rfl, p, _, dx, _, rfl, upd_same, c_Code T, na_Code_kinds T, (by simp), ?_⟩
      rw [fi_Code_1, upd_upd]
      refine ⟨_, _, rfl, _, rfl, p, _, dx, _, rfl, upd_same, c_Code T, na_Code_labels T, (by simp), rfl, ?_⟩
      rw [fi_Code_2, upd_upd]
      refine ⟨rfl, q1, q2, q3, f1, f2, f3, n2a, n3a, n3b, ?_, ?_, ?_, upd_same, fun b o e hb => ?_, fun b e => ?_⟩
      · rw [upd_ne p1.symm, upd_ne n1a.symm, upd_ne n3a.symm, upd_ne n2a.symm, upd_same]
      · rw [upd_ne p2.symm, upd_ne n1b.symm, upd_ne n3b.symm, upd_same]
      · rw [upd_ne p3.symm, upd_ne n1c.symm, upd_same]
      · rw [upd_ne hb, upd_ne (nn_of g1 e), upd_ne (nn_of f3 e), upd_ne (nn_of f2 e), upd_ne (nn_of f1 e)]
        exact e
      · exact (up_none (up_none (up_none (up_none (up_none e).2).2).2).2).2
    rintro σ' H1 ⟨rfl, q1, q2, q3, f1, f2, f3, n21, n31, n32, h1, h2, h3, hp1, kp1, fr1⟩
    -- self.parents, self.children = ([], [])
    refine ⟨fun σ' H' => σ' = L2.start N_Code___init__ [.ref p, v] ∧ ∃ A : CAd, A.p = p ∧ A.dx = dx ∧ A.cs = [] ∧ CL K H' A [] [] [] [] [] ∧ (∀ b ∈ A.all, b = p ∨ H b = none) ∧ (∀ b o, H b = some o → b ≠ p → H' b = some o) ∧ (∀ b, H' b = none → H b = none), ?_, ?_⟩
    · refine ⟨sz (by simp), fun q4 f4 => ⟨sz (by simp), fun q5 f5 => ⟨sz (by simp), fun t2 g2 => ?_⟩⟩⟩
      obtain ⟨n54, f5⟩ := up_none f5
      obtain ⟨m5, g2⟩ := up_none g2
      obtain ⟨m4, g2⟩ := up_none g2
      have p4 := nn_of f4 hp1
      have p5 := nn_of f5 hp1
      have pt := nn_of g2 hp1
      refine ⟨t2, _, rfl, Evl.st_of upd_same, rfl, _, _, rfl, _, rfl, p, _, dx, _, rfl, (by rw [upd_ne pt, upd_ne p5, upd_ne p4]; exact hp1), c_Code T, na_Code_parents T, (by simp), ?_⟩
      rw [fi_Code_3]
      refine ⟨_, _, rfl, _, rfl, p, _, dx, _, rfl, upd_same, c_Code T, na_Code_children T, (by simp), rfl, ?_⟩
      rw [fi_Code_4, upd_upd]
      have a1 := nn_of f4 h1
      have a2 := nn_of f4 h2
      have a3 := nn_of f4 h3
      have b1 := nn_of f5 h1
      have b2 := nn_of f5 h2
      have b3 := nn_of f5 h3
      have c1 := nn_of g2 h1
      have c2 := nn_of g2 h2
      have c3 := nn_of g2 h3
      have pn1 : p ≠ q1 := nn_of f1 hp
      have pn2 : p ≠ q2 := nn_of f2 hp
      have pn3 : p ≠ q3 := nn_of f3 hp
      refine ⟨rfl, ⟨p, dx, q1, q2, q3, q4, q5, []⟩, rfl, rfl, rfl, ⟨upd_same, ?_, ?_, ?_, ?_, ?_, rfl, fun i c x e => by simp at e, ?_⟩, ?_, fun b o e hb => ?_, fun b e => ?_⟩
      · show upd _ p _ q1 = _
        rw [upd_ne pn1.symm, upd_ne c1, upd_ne b1, upd_ne a1]
        exact h1
      · show upd _ p _ q2 = _
        rw [upd_ne pn2.symm, upd_ne c2, upd_ne b2, upd_ne a2]
        exact h2
      · show upd _ p _ q3 = _
        rw [upd_ne pn3.symm, upd_ne c3, upd_ne b3, upd_ne a3]
        exact h3
      · show upd _ p _ q4 = _
        rw [upd_ne p4.symm, upd_ne m4.symm, upd_ne n54.symm, upd_same]
      · show upd _ p _ q5 = _
        rw [upd_ne p5.symm, upd_ne m5.symm, upd_same] <;> rfl
      · show [p, q1, q2, q3, q4, q5].Nodup
        simp only [List.nodup_cons, List.mem_cons, List.not_mem_nil, or_false, not_or, List.nodup_nil, and_true, not_false_eq_true]
        exact ⟨⟨pn1, pn2, pn3, p4, p5⟩, ⟨n21.symm, n31.symm, a1, b1⟩, ⟨n32.symm, a2, b2⟩, ⟨a3, b3⟩, n54.symm⟩
      · intro b hb
        have hb : b ∈ [p, q1, q2, q3, q4, q5] := hb
        simp only [List.mem_cons, List.not_mem_nil, or_false] at hb
        rcases hb with rfl | rfl | rfl | rfl | rfl | rfl
        · exact .inl rfl
        · exact .inr f1
        · exact .inr f2
        · exact .inr f3
        · exact .inr (fr1 _ f4)
        · exact .inr (fr1 _ f5)
      · have e1 := kp1 b o e hb
        rw [upd_ne hb, upd_ne (nn_of g2 e1), upd_ne (nn_of f5 e1), upd_ne (nn_of f4 e1)]
        exact e1
      · exact fr1 _ (up_none (up_none (up_none (up_none e).2).2).2).2
    rintro σ' H2 ⟨rfl, A, rfl, rfl, ac, C, nA, kp2, fr2⟩
    -- waiting = [(statement, None, 1, 0, 0)]
    refine ⟨_, rfl, sz (by simp), fun t3 g3 => ⟨sz (by simp), fun wq gw => ?_⟩⟩
    obtain ⟨nwt, gw⟩ := up_none gw
    have gt : H2 t3 = none := g3
    have ft : F0 t3 = none := Evl.fresh_back xF (fr2 t3 gt)
    have v0 : InW K F0 H A.p wq Gd [⟨d, none, 1, 0, 0⟩] [] A [t3] (upd F0 t3 (.tup [v, .non, .int 1, .int 0, .int 0])) (upd (upd H2 t3 (.tup [v, .non, .int 1, .int 0, .int 0])) wq (.lst [.ref t3])) := by
      have C1 := (C.off (o := .tup [v, .non, .int 1, .int 0, .int 0]) (C.fresh gt))
      have nwA : wq ∉ A.all := C.fresh gw
      have C2 := C1.off (o := .lst [.ref t3]) nwA
      have xx : Ex F0 (upd F0 t3 (.tup [v, .non, .int 1, .int 0, .int 0])) := exu (Evl.Ex.refl F0) ft
      have fA : ∀ b ∈ A.all, F0 b = none := fun b hb => by
        rcases nA b hb with rfl | e
        · exact Fp
        · exact Evl.fresh_back xF e
      have ntA : t3 ∉ A.all := C.fresh gt
      refine ⟨rfl, ⟨[], C2, .nil⟩, fun b hb => ?_, nwA, ?_, upd_same, .cons upd_same (dp_ex xx hd) .nil, xx, fun b o e => ?_, fun b e1 e2 => ?_, fun b o e hb => ?_, nA, fr2 wq gw, fun i hi => ?_, fun r hr => by cases hr⟩
      · rw [upd_ne (fun z => ntA (by rw [← z]; exact hb))]
        exact fA b hb
      · rw [upd_ne nwt]
        exact Evl.fresh_back xF (fr2 wq gw)
      · by_cases z : b = t3
        · rw [z, upd_same] at e
          cases e
          rw [z, upd_ne nwt.symm, upd_same]
        · rw [upd_ne z] at e
          have e2 := xF b o e
          have nb : b ≠ A.p := fun y => by rw [y, Fp] at e; cases e
          rw [upd_ne (nn_of (fr2 wq gw) e2), upd_ne z]
          exact kp2 b o e2 nb
      · rw [upd_ne (fun z => e1 (by rw [z]; exact fr2 t3 gt))]
        exact e2
      · rw [upd_ne (nn_of (fr2 wq gw) e), upd_ne (nn_of (fr2 t3 gt) e)]
        exact kp2 b o e hb
      · rw [List.mem_singleton.mp hi]
        exact ⟨hGd, fun j e => by cases e⟩
    refine ⟨fun m σ' H' => ∃ st rows B ts F' o3 o4 o5 o6 o7 o8 o9 o10 o11, Fails m st rows fin ∧ σ' = [some (.ref A.p), some v, some (.ref wq), o3, o4, o5, o6, o7, o8, o9, o10, o11] ∧ InW K F0 H A.p wq Gd st rows B ts F' H', ⟨N, _, _, _, _, _, _, _, _, _, _, _, _, _, _, hB, rfl, v0⟩, ?_⟩
    rintro m σ' H3 ⟨st, rows, B, ts, F3, o3, o4, o5, o6, o7, o8, o9, o10, o11, bd, rfl, I3⟩
    -- waiting != []
    have hcan : PyData.canLay0 (.list (st.map wD).reverse) = true := canAll fun e he => by
      obtain ⟨i, hi, rfl⟩ := List.mem_map.mp (List.mem_reverse.mp he)
      exact can_wD (hG _ (I3.it i hi).1).1
    refine ⟨_, rfl, sz (by simp), fun p4 g4 => ?_⟩
    obtain ⟨r1, r2, r3, r4⟩ := I3.fresh g4
    have hdl : Dp K (upd H3 p4 (.lst [])) (.ref wq) (.list (st.map wD).reverse) := .lst (Evl.sq_of (by rw [upd_ne r4.symm]; exact I3.wl)) (dpA_rev (dpA_ex (exu I3.fh g4) I3.wi.dp))
    refine ⟨_, _, hdl, .lst (Evl.sq_of upd_same) .nil, hcan, rfl, min_lnil _, _, rfl, ite_of (fun h4 => ?_) (fun h4 => ?_)⟩
    · obtain ⟨it, st', rfl, alt⟩ : ∃ it st', st = it :: st' ∧ ((fault it rows.length = some fin) ∨ (∃ n, m = n + 1 ∧ okIt it rows.length ∧ (newIts it rows.length ++ st').length ≤ 50000 ∧ Fails n (newIts it rows.length ++ st') (addRow rows it.d it.par) fin)) := by
        cases bd with
        | now hf => exact ⟨_, _, rfl, .inl hf⟩
        | step ok hl bd => exact ⟨_, _, rfl, .inr ⟨_, rfl, ok, hl, bd⟩⟩
      cases hts : I3.wi with
      | @cons t ts' _ _ v1 ht hv1 hr =>
      have I4 := (I3.new (o := .lst []) g4).pop
      refine ⟨fun σ' H' => ∃ n, n < m ∧ ∃ st rows B ts F' o3 o4 o5 o6 o7 o8 o9 o10 o11, Fails n st rows fin ∧ σ' = [some (.ref A.p), some v, some (.ref wq), o3, o4, o5, o6, o7, o8, o9, o10, o11] ∧ InW K F0 H A.p wq Gd st rows B ts F' H', fun σ' H' w => w, ?_⟩
      -- value, parent, deep, loops, blocks = waiting.pop()
      have wl4 : upd H3 p4 (.lst []) wq = some (.lst ((ts'.map V.ref).reverse ++ [.ref t])) := by
        rw [upd_ne r4.symm, I3.wl] <;> simp
      refine ⟨_, rfl, Or.inl ⟨rfl, _, Evl.sq_of wl4⟩, wq, _, .ref t, rfl, rfl, wl4, by simp, ?_⟩
      rw [List.dropLast_concat]
      refine ⟨t, wV v1 it, rfl, Evl.st_of (I4.fh _ _ ht), rfl, _, _, rfl, _, _, rfl, _, _, rfl, _, _, rfl, _, _, rfl, rfl, ?_⟩
      -- number = len(self.kinds)
      obtain ⟨L1, C4, dL4⟩ := id I4.code
      have ob4 : ∀ {H' : Hp} {L1 L2 L3 L4 : List V} {Cs : List (List V)}, CL K H' B L1 L2 L3 L4 Cs → H' A.p = some (.ins (He.ga K "Code") B.dx (cFs B)) := fun C => by rw [← I3.ap]; exact C.ob
      refine ⟨_, rfl, A.p, _, _, _, _, rfl, ob4 C4, c_Code T, na_Code_kinds T, fl_Code_kinds _ _ _ _ _, B.a2, _, rfl, .inl (Evl.sq_of C4.h2), ?_⟩
      have hgi := hG _ (I3.it it List.mem_cons_self).1
      have ln : (rows.map fun r => V.str (kindD r.d)).length = rows.length := List.length_map _
      -- self.check(..)
      refine ⟨_, rfl, A.p, _, _, rfl, ob4 C4, fm_Code_check _ _ _ _ _, _, rfl, _, rfl, _, rfl, _, rfl, _, rfl, .ref A.p, v1, it.d, _, _, _, _, rfl, dp_ex I4.fh hv1, hgi.1, hgi.2.1, ?_⟩
      rcases alt with hf | ⟨n, rfl, ok, hlen, bd⟩
      · refine .inr ⟨fin.1, fin.2.1, fin.2.2, ?_, fun H5 d5 x5 n5 h5 => q H5 d5 (fun b o hb hn => x5 _ _ (I4.kp b o hb hn)) (I4.fresh n5).1 h5⟩
        rw [ln]
        exact faultI_of hf
      obtain ⟨k1, k2, k3, k4⟩ := id ok
      refine .inl ⟨(by rw [ln]; omega), (by omega), (by omega), k4, fun H5 x5 => ?_⟩
      have I5 := I4.ext (Evl.Ex.refl _) (I4.fh.trans x5) x5 fun _ _ e => e
      obtain ⟨L1', C5, dL5⟩ := id I5.code
      -- self.keep(value, parent)
      refine ⟨_, rfl, A.p, _, _, rfl, ob4 C5, fm_Code_keep _ _ _ _ _, _, rfl, _, rfl, F3, B, rows, v1, it.d, _, it.par, (by rw [← I3.ap] <;> rfl), I5.fh, I5.code, I5.na, hv1, k4, (by omega), fun i e => ?_, fun c H6 hc6 cd6 kp6 => ?_⟩
      · have li := (I3.it it List.mem_cons_self).2 i e
        refine ⟨rows[i], List.getElem?_eq_getElem li, ?_⟩
        have := I3.ch rows[i] (List.getElem_mem li)
        omega
      have I6 := I5.kept hc6 cd6 kp6
      -- for at, part in reversed(list(enumerate(parts_in(value))))
      refine ⟨_, rfl, F3, v1, it.d, _, rfl, I6.fh, hv1, k4, fun pp H7 xs fp7 x7 hl7 dA7 => ?_⟩
      have I7 := I6.ext (Evl.Ex.refl _) (I6.fh.trans x7) x7 fun _ _ e => e
      refine ⟨pp, xs, rfl, Evl.sq_of hl7, fun H8 pe te k8 fpe fte npe nd8 lte hpe hte => ?_⟩
      have L8 : ∀ b ∈ pe :: te, H7 b = none := fun b hb => by
        rcases List.mem_cons.mp hb with e | hb
        · rw [e]; exact fpe
        · exact fte b hb
      have I8 : InW K F0 H A.p wq Gd st' (addRow rows it.d it.par) { B with cs := B.cs ++ [c] } ts' (frz F3 H8 (pe :: te)) H8 :=
        I7.ext (frz_ex fun b hb => (I7.fresh (L8 b hb)).2.1) (frz_le (I7.fh.trans k8)) k8 fun b h1 h2 => by rw [frz_out (fun z => h1 (L8 b z))]; exact h2
      have lx : xs.length = (partsD it.d).length := dpA_len dA7
      have x38 : Ex F3 (frz F3 H8 (pe :: te)) := frz_ex fun b hb => (I7.fresh (L8 b hb)).2.1
      obtain ⟨kk, rr, _, ek, _, _, _⟩ := isStm_shape k4
      obtain ⟨va, vxs, rfl, vS, vA⟩ := dp_tup (ek ▸ hv1)
      cases vA with
      | @cons vk vxr _ _ vk0 vA =>
      obtain rfl := dp_str vk0
      have ekd : kindD it.d = kk := by rw [ek] <;> rfl
      refine ⟨pe, _, rfl, Evl.sq_of hpe, for_it walk_rev (fun i σ' H' => ∃ ts'' F'' o9 o10 o11, σ' = [some (.ref A.p), some v, some (.ref wq), some (.ref va), some (parV it.par), some (.int (it.deep : Int)), some (.int (it.loops : Int)), some (.int (it.blocks : Int)), some (.int ((rows.map fun r => V.str (kindD r.d)).length : Int)), o9, o10, o11] ∧
        InW K F0 H A.p wq Gd ((newIts it rows.length).drop (te.length - i) ++ st') (addRow rows it.d it.par) { B with cs := B.cs ++ [c] } ts'' F'' H' ∧ Ex (frz F3 H8 (pe :: te)) F'') ?_ ?_ ?_ ?_⟩
      · refine ⟨ts', _, o9, o10, o11, rfl, ?_, Evl.Ex.refl _⟩
        rw [Nat.sub_zero, List.drop_eq_nil_of_le (by rw [newIts_len, lte, lx]; exact Nat.le_refl _)]
        exact I8
      · rintro i σ' H' _ ⟨ts'', F'', _, _, _, _, I9, x9⟩
        exact Evl.sq_of (I9.fh _ _ (x9 _ _ (by rw [frz_in List.mem_cons_self]; exact hpe)))
      · rintro i x σ' H9x H9 hi ⟨ts'', F'', u9, u10, u11, rfl, I9, x9⟩ ⟨rfl, hx⟩
        rw [List.length_map] at hi hx
        have lj : te.length - 1 - i < te.length := by omega
        have htj : te[te.length - 1 - i]? = some te[te.length - 1 - i] := List.getElem?_eq_getElem lj
        rw [List.getElem?_map, htj] at hx
        cases hx
        have lxj : te.length - 1 - i < xs.length := by rw [← lte]; exact lj
        have hxj : xs[te.length - 1 - i]? = some xs[te.length - 1 - i] := List.getElem?_eq_getElem lxj
        have lpj : te.length - 1 - i < (partsD it.d).length := by rw [← lx]; exact lxj
        have hpj : (partsD it.d)[te.length - 1 - i]? = some (partsD it.d)[te.length - 1 - i] := List.getElem?_eq_getElem lpj
        obtain ⟨u, hu, hdu⟩ := dpA_get dA7 hpj
        rw [hxj] at hu
        cases hu
        have htu := hte _ _ _ htj hxj
        have htF : H9 te[te.length - 1 - i] = some (.tup [.int ((te.length - 1 - i : Nat) : Int), xs[te.length - 1 - i]]) := I9.fh _ _ (x9 _ _ (by rw [frz_in (List.mem_cons_of_mem _ (List.getElem_mem lj))]; exact htu))
        have vS9 : SqT K H9 va (V.str kk :: vxr) := Evl.ex_t ((x38.trans x9).trans I9.fh) vS
        refine ⟨_, _, rfl, Evl.st_of htF, rfl, _, _, rfl, _, _, rfl, rfl, ?_⟩
        -- inside = ..
        refine ⟨fun σ' H' => H' = H9 ∧ σ' = [some (.ref A.p), some v, some (.ref wq), some (.ref va), some (parV it.par), some (.int (it.deep : Int)), some (.int (it.loops : Int)), some (.int (it.blocks : Int)), some (.int ((rows.map fun r => V.str (kindD r.d)).length : Int)), some (.int ((te.length - 1 - i : Nat) : Int)), some xs[te.length - 1 - i], some (.int ((it.blocks : Int) + (if kindD it.d = "final" ∧ te.length - 1 - i = 1 then 1 else 0)))], ?_, ?_⟩
        · refine ⟨_, rfl, _, rfl, va, _, _, _, rfl, rfl, vS9, at0, rfl, _, rfl, ite_of (fun h5 => ?_) (fun h5 => ?_)⟩
          · have e5 : kk = "final" := V.str.inj (of_decide_eq_true h5)
            refine ⟨_, rfl, rfl, .inr ⟨_, rfl, _, _, rfl, rfl, rfl, ?_⟩⟩
            by_cases z : te.length - 1 - i = 1
            · rw [if_pos (show kindD it.d = "final" ∧ te.length - 1 - i = 1 from ⟨by rw [ekd, e5], z⟩), if_pos (decide_eq_true (by rw [z] <;> rfl))] <;> rfl
            · rw [if_neg (show ¬ (kindD it.d = "final" ∧ te.length - 1 - i = 1) from fun y => z y.2), if_neg (fun y => z (by have := V.int.inj (of_decide_eq_true y); omega))] <;> rfl
          · have e5 : ¬ kk = "final" := fun e => by
              have y : decide (V.str kk = V.str "final") = true := decide_eq_true (by rw [e])
              rw [y] at h5
              cases h5
            refine .inr ⟨_, rfl, _, _, rfl, rfl, rfl, ?_⟩
            rw [if_neg (show ¬ (kindD it.d = "final" ∧ te.length - 1 - i = 1) from fun y => e5 (by rw [← ekd]; exact y.1))] <;> rfl
        rintro σ' H' ⟨rfl, rfl⟩
        -- waiting.append(..)
        refine ⟨_, rfl, Or.inl ⟨rfl, _, Evl.sq_of I9.wl⟩, _, rfl, _, rfl, _, rfl, _, _, rfl, rfl, _, rfl, _, rfl, va, _, _, _, rfl, rfl, vS9, at0, rfl, .inr ⟨_, rfl, _, _, rfl, rfl, _, rfl, sz (by simp), fun tn htn => ?_⟩⟩
        obtain ⟨z1, z2, z3, z4⟩ := I9.fresh htn
        refine ⟨wq, _, _, rfl, rfl, (by rw [upd_ne z4.symm]; exact I9.wl), szl ?_, ?_⟩
        · rw [List.length_append] at hlen
          rw [List.length_reverse, List.length_map, I9.wi.len, List.length_append, List.length_drop]
          omega
        have I10 := I9.push (it := newIt it rows.length (te.length - 1 - i) (partsD it.d)[te.length - 1 - i]) (v := xs[te.length - 1 - i]) htn (dp_ex (x38.trans x9) hdu) ⟨hgi.2.2 _ (List.getElem_mem lpj), fun j e => by cases e; rw [addRow_len]; omega⟩
        have e6 : (newIts it rows.length).drop (te.length - (i + 1)) = newIt it rows.length (te.length - 1 - i) (partsD it.d)[te.length - 1 - i] :: (newIts it rows.length).drop (te.length - i) := by
          have e7 : te.length - (i + 1) = te.length - 1 - i := by omega
          have l7 : te.length - 1 - i < (newIts it rows.length).length := by rw [newIts_len]; exact lpj
          have g7 : (newIts it rows.length)[te.length - 1 - i] = newIt it rows.length (te.length - 1 - i) (partsD it.d)[te.length - 1 - i] := by
            have y := newIts_get (n := rows.length) hpj
            rw [List.getElem?_eq_getElem l7] at y
            exact Option.some.inj y
          rw [e7, List.drop_eq_getElem_cons l7, g7]
          congr 2
          omega
        refine ⟨tn :: ts'', upd F'' tn (.tup (wV xs[te.length - 1 - i] (newIt it rows.length (te.length - 1 - i) (partsD it.d)[te.length - 1 - i]))), _, _, _, rfl, ?_, x9.trans (exu (Evl.Ex.refl _) z2)⟩
        rw [e6, List.cons_append]
        have eH : upd (upd H' tn (.tup (wV xs[te.length - 1 - i] (newIt it rows.length (te.length - 1 - i) (partsD it.d)[te.length - 1 - i])))) wq (.lst (((tn :: ts'').map V.ref).reverse)) =
            upd (upd H' tn (.tup [xs[te.length - 1 - i], .int ((rows.map fun r => V.str (kindD r.d)).length : Int), .int ((it.deep : Int) + 1), .int ((it.loops : Int) + (if decide (V.str kk = V.str "while") = true then 1 else 0)), .int ((it.blocks : Int) + (if kindD it.d = "final" ∧ te.length - 1 - i = 1 then 1 else 0))])) wq (.lst ((ts''.map V.ref).reverse ++ [.ref tn])) := by
          rw [wV_new, ln, ekd, List.map_cons, List.reverse_cons]
        rw [eH] at I10
        exact I10
      · rintro σ' H9 ⟨ts'', F'', u9, u10, u11, rfl, I9, x9⟩
        rw [List.length_map, Nat.sub_self, List.drop_zero] at I9
        exact ⟨n, Nat.lt_succ_self _, _, _, _, _, _, _, _, _, _, _, _, _, _, _, bd, rfl, I9⟩
    · rw [eqv_lnil] at h4
      cases bd <;> simp at h4
end

end Fc

set_option maxRecDepth 100000
set_option maxHeartbeats 4000000
/-! Runs over a table of statements: a law's way (by parts) and the walker's way (by steps). No program in sight. -/
namespace FcM
inductive Way where
  | nrm
  | ret
  | rai
  | brk (k : Nat)
  | cnt (k : Nat)
  deriving DecidableEq
inductive Node where
  | do_
  | call
  | ret
  | rai
  | brk (k : Nat)
  | cnt (k : Nat)
  | iff (a b : Nat)
  | whl (a : Nat)
  | seq (l : List Nat)
  | tr (a b : Nat)
  | fin (a b : Nat)
def Node.ch : Node → List Nat
  | .iff a b => [a, b]
  | .whl a => [a]
  | .seq l => l
  | .tr a b => [a, b]
  | .fin a b => [a, b]
  | _ => []
structure Tab where
  len : Nat
  nd : Nat → Node
  pr : Nat → Option Nat
structure Tab.WF (t : Tab) (lp : Nat → Nat) : Prop where
  ne : 0 < t.len
  root : t.pr 0 = none
  lp0 : lp 0 = 0
  dn : ∀ n, n < t.len → ∀ c ∈ (t.nd n).ch, n < c ∧ c < t.len ∧ t.pr c = some n ∧ lp c = lp n + (match t.nd n with | .whl _ => 1 | _ => 0)
  nd : ∀ n, n < t.len → (t.nd n).ch.Nodup
  pu : ∀ n p, n < t.len → t.pr n = some p → p < t.len
  sq : ∀ n l, n < t.len → t.nd n = .seq l → l ≠ []
  bk : ∀ n k, n < t.len → t.nd n = .brk k → 1 ≤ k ∧ k ≤ lp n
  ct : ∀ n k, n < t.len → t.nd n = .cnt k → 1 ≤ k ∧ k ≤ lp n
inductive Ent (t : Tab) : Nat → Nat → Nat → Prop
  | here {n : Nat} (h : ∀ l, t.nd n ≠ .seq l) (h2 : ∀ a b, t.nd n ≠ .tr a b) (h3 : ∀ a b, t.nd n ≠ .fin a b) : Ent t 0 n n
  | seq {k n c e : Nat} {l : List Nat} (h : t.nd n = .seq (c :: l)) (r : Ent t k c e) : Ent t (k + 1) n e
  | tr {k n a b e : Nat} (h : t.nd n = .tr a b) (r : Ent t k a e) : Ent t (k + 1) n e
  | fin {k n a b e : Nat} (h : t.nd n = .fin a b) (r : Ent t k a e) : Ent t (k + 1) n e
/-- the height of a part -/
inductive Hg (t : Tab) : Nat → Nat → Prop
  | mk {h n : Nat} (r : ∀ c ∈ (t.nd n).ch, Hg t h c) : Hg t (h + 1) n
def decW : Way → Way
  | .brk k => if k = 1 then .nrm else .brk (k - 1)
  | .cnt k => .cnt (k - 1)
  | w => w
def again (w : Way) : Bool := decide (w = .nrm) || decide (w = .cnt 1)
abbrev Pd := List (Nat × Way)
/-- a part is left in a way: the walker's next place, or the end -/
inductive Lv (t : Tab) : Nat → Way → Pd → Nat ⊕ Way → Pd → Prop
  | top {n : Nat} {w : Way} {P : Pd} (h : t.pr n = none) : Lv t n w P (.inr w) P
  | seqN {n p m k e : Nat} {l l1 l2 : List Nat} {P : Pd} (h : t.pr n = some p) (hd : t.nd p = .seq l) (hl : l = l1 ++ n :: m :: l2) (he : Ent t k m e) : Lv t n .nrm P (.inl e) P
  | seqU {n p : Nat} {w : Way} {l : List Nat} {P P' : Pd} {r : Nat ⊕ Way} (h : t.pr n = some p) (hd : t.nd p = .seq l) (hw : w ≠ .nrm ∨ l.getLast? = some n) (up : Lv t p w P r P') : Lv t n w P r P'
  | whlA {n p : Nat} {w : Way} {P : Pd} (h : t.pr n = some p) (hd : t.nd p = .whl n) (hw : again w = true) : Lv t n w P (.inl p) P
  | whlU {n p : Nat} {w : Way} {P P' : Pd} {r : Nat ⊕ Way} (h : t.pr n = some p) (hd : t.nd p = .whl n) (hw : again w = false) (up : Lv t p (decW w) P r P') : Lv t n w P r P'
  | tryH {n p b k e : Nat} {P : Pd} (h : t.pr n = some p) (hd : t.nd p = .tr n b) (he : Ent t k b e) : Lv t n .rai P (.inl e) P
  | tryU {n p a b : Nat} {w : Way} {P P' : Pd} {r : Nat ⊕ Way} (h : t.pr n = some p) (hd : t.nd p = .tr a b) (hw : w ≠ .rai ∨ n ≠ a) (up : Lv t p w P r P') : Lv t n w P r P'
  | iffU {n p a b : Nat} {w : Way} {P P' : Pd} {r : Nat ⊕ Way} (h : t.pr n = some p) (hd : t.nd p = .iff a b) (up : Lv t p w P r P') : Lv t n w P r P'
  | finB {n p b k e : Nat} {w : Way} {P : Pd} (h : t.pr n = some p) (hd : t.nd p = .fin n b) (he : Ent t k b e) : Lv t n w P (.inl e) (P ++ [(p, w)])
  | finE {n p a : Nat} {P : Pd} (h : t.pr n = some p) (hd : t.nd p = .fin a n) (hn : n ≠ a) : Lv t n .nrm P (.inl p) P
  | finO {n p a : Nat} {w : Way} {P P' : Pd} {x : Nat × Way} {r : Nat ⊕ Way} (h : t.pr n = some p) (hd : t.nd p = .fin a n) (hn : n ≠ a) (hw : w ≠ .nrm) (up : Lv t p w P r P') : Lv t n w (P ++ [x]) r P'
structure Cfg where
  at_ : Nat ⊕ Way
  pd : Pd
  us : Nat
  vs : List Nat
def asks : Node → Bool
  | .call => true
  | .iff _ _ => true
  | .whl _ => true
  | _ => false
/-- the way of a place that does not ask -/
def wayN : Node → Way
  | .ret => .ret
  | .rai => .rai
  | .brk k => .brk k
  | .cnt k => .cnt k
  | _ => .nrm
def quiet : Node → Prop
  | .do_ => True
  | .ret => True
  | .rai => True
  | .brk _ => True
  | .cnt _ => True
  | _ => False
/-- what a place does with an answer: where the walker stands then -/
inductive Dp1 (t : Tab) (s : Nat) (x : Bool) : Pd → Nat ⊕ Way → Pd → Prop
  | iff {a b k e : Nat} {P : Pd} (h : t.nd s = .iff a b) (he : Ent t k (if x then b else a) e) : Dp1 t s x P (.inl e) P
  | whlT {a k e : Nat} {P : Pd} (h : t.nd s = .whl a) (hx : x = true) (he : Ent t k a e) : Dp1 t s x P (.inl e) P
  | whlF {a : Nat} {P P' : Pd} {r : Nat ⊕ Way} (h : t.nd s = .whl a) (hx : x = false) (l : Lv t s .nrm P r P') : Dp1 t s x P r P'
  | call {P P' : Pd} {r : Nat ⊕ Way} (h : t.nd s = .call) (l : Lv t s (if x then .rai else .nrm) P r P') : Dp1 t s x P r P'
  | fin {a b q : Nat} {w : Way} {P P' : Pd} {r : Nat ⊕ Way} (h : t.nd s = .fin a b) (l : Lv t s w P r P') : Dp1 t s x (P ++ [(q, w)]) r P'
  | quiet {P P' : Pd} {r : Nat ⊕ Way} (h : quiet (t.nd s)) (l : Lv t s (wayN (t.nd s)) P r P') : Dp1 t s x P r P'
inductive Step (t : Tab) (bits : List Bool) : Cfg → Cfg → Prop
  | ask {s : Nat} {x : Bool} {P P' : Pd} {u : Nat} {v : List Nat} {r : Nat ⊕ Way} (h : asks (t.nd s) = true) (hu : bits[u]? = some x) (d : Dp1 t s x P r P') : Step t bits ⟨.inl s, P, u, v⟩ ⟨r, P', u + 1, v ++ [s]⟩
  | on {s : Nat} {P P' : Pd} {u : Nat} {v : List Nat} {r : Nat ⊕ Way} (h : asks (t.nd s) = false) (d : Dp1 t s false P r P') : Step t bits ⟨.inl s, P, u, v⟩ ⟨r, P', u, v ++ [s]⟩
inductive Stop (t : Tab) (bits : List Bool) : Cfg → Prop
  | fin {w : Way} {P : Pd} {u : Nat} {v : List Nat} : Stop t bits ⟨.inr w, P, u, v⟩
  | wait {s : Nat} {P : Pd} {u : Nat} {v : List Nat} (h : asks (t.nd s) = true) (hu : bits[u]? = none) : Stop t bits ⟨.inl s, P, u, v⟩
inductive Re (t : Tab) (bits : List Bool) (B : Nat) : Nat → Cfg → Cfg → Prop
  | stop {c : Cfg} (h : Stop t bits c) (hb : c.pd.length ≤ B) : Re t bits B 0 c c
  | step {n : Nat} {c d e : Cfg} (h : Step t bits c d) (hb : c.pd.length ≤ B) (r : Re t bits B n d e) : Re t bits B (n + 1) c e
/-! ### the law's way -/
abbrev Wt := (Nat × Pd) ⊕ Way
abbrev Rs := Wt × Nat × List Nat
def loopF (bits : List Bool) (n : Nat) (P : Pd) (body : Nat → List Nat → Rs) : Nat → Nat → List Nat → Rs
  | 0, u, v => (.inl (n, P), u, v)
  | f + 1, u, v => match bits[u]? with
    | none => (.inl (n, P), u, v)
    | some false => (.inr .nrm, u + 1, v ++ [n])
    | some true => match body (u + 1) (v ++ [n]) with
      | (.inl x, u', v') => (.inl x, u', v')
      | (.inr w, u', v') => if again w = true then loopF bits n P body f u' v' else (.inr (decW w), u', v')
def seqF (go : Nat → Nat → List Nat → Rs) : List Nat → Rs → Rs
  | [], r => r
  | c :: cs, (w, u, v) => if w = .inr .nrm then seqF go cs (go c u v) else seqF go cs (w, u, v)
def finF (n : Nat) (w : Way) : Rs → Rs
  | (.inl x, u, v) => (.inl x, u, v)
  | (.inr w2, u, v) => if w2 = .nrm then (.inr w, u, v ++ [n]) else (.inr w2, u, v)
def goF (t : Tab) (bits : List Bool) : Nat → Nat → Pd → Nat → List Nat → Rs
  | 0, n, P, u, v => (.inl (n, P), u, v)
  | h + 1, n, P, u, v => match t.nd n with
    | .whl a => loopF bits n P (goF t bits h a P) (bits.length + 1) u v
    | .fin a b => match goF t bits h a P u v with
      | (.inl x, u1, v1) => (.inl x, u1, v1)
      | (.inr w, u1, v1) => finF n w (goF t bits h b (P ++ [(n, w)]) u1 v1)
    | .call => match bits[u]? with
      | none => (.inl (n, P), u, v)
      | some x => (.inr (if x then .rai else .nrm), u + 1, v ++ [n])
    | .iff a b => match bits[u]? with
      | none => (.inl (n, P), u, v)
      | some x => goF t bits h (if x then b else a) P (u + 1) (v ++ [n])
    | .seq l => seqF (fun c => goF t bits h c P) l (.inr .nrm, u, v)
    | .tr a b => match goF t bits h a P u v with
      | (.inr .rai, u1, v1) => goF t bits h b P u1 v1
      | r => r
    | d => (.inr (wayN d), u, v ++ [n])
def WOk (l : Nat) : Way → Prop
  | .brk k => 1 ≤ k ∧ k ≤ l
  | .cnt k => 1 ≤ k ∧ k ≤ l
  | _ => True
section
variable {t : Tab} {lp : Nat → Nat} {bits : List Bool}
/-- behind leaving n in the way w the walker comes to cf -/
def After (t : Tab) (bits : List Bool) (B n : Nat) (w : Way) (P : Pd) (u : Nat) (v : List Nat) (cf : Cfg) : Prop := ∃ r P' N, Lv t n w P r P' ∧ Re t bits B N ⟨r, P', u, v⟩ cf
/-- from the entry of n the walker comes to cf -/
def From (t : Tab) (bits : List Bool) (B n : Nat) (P : Pd) (u : Nat) (v : List Nat) (cf : Cfg) : Prop := ∃ k e N, Ent t k n e ∧ Re t bits B N ⟨.inl e, P, u, v⟩ cf
/-- what the walker does of what the law reckons -/
def Good (t : Tab) (bits : List Bool) (B : Nat) (lp : Nat → Nat) (n : Nat) (P : Pd) (u : Nat) (v : List Nat) : Rs → Prop
  | (.inr w, u', v') => u ≤ u' ∧ u' ≤ bits.length ∧ WOk (lp n) w ∧ ∀ cf, After t bits B n w P u' v' cf → From t bits B n P u v cf
  | (.inl x, u', v') => u ≤ u' ∧ u' ≤ bits.length ∧ ∃ cf, From t bits B n P u v cf ∧ cf.vs = v' ∧ cf.us = u' ∧ cf.at_ = .inl x.1 ∧ cf.pd = x.2
end
end FcM

set_option maxRecDepth 100000
set_option maxHeartbeats 4000000
namespace FcM
section
variable {t : Tab} {lp : Nat → Nat} {bits : List Bool} {B : Nat}
theorem bit_lt {u : Nat} {x : Bool} (h : bits[u]? = some x) : u + 1 ≤ bits.length := (List.getElem?_eq_some_iff.mp h).1
theorem from_wait {n : Nat} {P : Pd} {u : Nat} {v : List Nat} (he : Ent t 0 n n) (ha : asks (t.nd n) = true) (hu : bits[u]? = none) (hB : P.length ≤ B) : From t bits B n P u v ⟨.inl n, P, u, v⟩ := ⟨0, n, 0, he, .stop (.wait ha hu) hB⟩
theorem Ent.self {k n e : Nat} (h : Ent t k n e) (h1 : ∀ l, t.nd n ≠ .seq l) (h2 : ∀ a b, t.nd n ≠ .tr a b) (h3 : ∀ a b, t.nd n ≠ .fin a b) : e = n := by
  cases h with
  | here => rfl
  | seq h _ => exact absurd h (h1 _)
  | tr h _ => exact absurd h (h2 _ _)
  | fin h _ => exact absurd h (h3 _ _)
theorem seqF_stop {go : Nat → Nat → List Nat → Rs} {w : Wt} {u : Nat} {v : List Nat} (hw : w ≠ .inr .nrm) : ∀ cs : List Nat, seqF go cs (w, u, v) = (w, u, v)
  | [] => rfl
  | c :: cs => by
    show (if w = .inr .nrm then _ else seqF go cs (w, u, v)) = _
    rw [if_neg hw, seqF_stop hw cs]
theorem dec_ok {l : Nat} {w : Way} (h : WOk (l + 1) w) (ha : again w = false) : WOk l (decW w) := by
  cases w with
  | nrm => trivial
  | ret => trivial
  | rai => trivial
  | brk k =>
    show WOk l (if k = 1 then .nrm else .brk (k - 1))
    by_cases hk : k = 1
    · rw [if_pos hk]; trivial
    · rw [if_neg hk]
      have h1 : 1 ≤ k ∧ k ≤ l + 1 := h
      show 1 ≤ k - 1 ∧ k - 1 ≤ l
      omega
  | cnt k =>
    have h1 : 1 ≤ k ∧ k ≤ l + 1 := h
    have hk : k ≠ 1 := fun z => by subst z; simp [again] at ha
    show 1 ≤ k - 1 ∧ k - 1 ≤ l
    omega
/-- the loop of a while at n with the part a -/
theorem loop_good (W : t.WF lp) {n a : Nat} (hn : n < t.len) (hd : t.nd n = .whl a) {body : Nat → List Nat → Rs} {P : Pd} (hB : P.length ≤ B) (hb : ∀ u v, u ≤ bits.length → Good t bits B lp a P u v (body u v)) :
    ∀ f u v, bits.length - u < f → u ≤ bits.length → Good t bits B lp n P u v (loopF bits n P body f u v) := by
  have he : Ent t 0 n n := .here (fun l => by rw [hd]; exact fun z => nomatch z) (fun a b => by rw [hd]; exact fun z => nomatch z) (fun a b => by rw [hd]; exact fun z => nomatch z)
  have ha : asks (t.nd n) = true := by rw [hd]; rfl
  obtain ⟨c1, c2, c3, c4⟩ := W.dn n hn a (by rw [hd]; exact List.mem_singleton.mpr rfl)
  rw [hd] at c4
  have c4 : lp a = lp n + 1 := c4
  intro f
  induction f with
  | zero => exact fun u v h => absurd h (Nat.not_lt_zero _)
  | succ f ih =>
    intro u v hf hu
    cases hx : bits[u]? with
    | none =>
      have e : loopF bits n P body (f + 1) u v = (.inl (n, P), u, v) := by simp only [loopF, hx]
      rw [e]
      exact ⟨Nat.le_refl _, hu, _, from_wait he ha hx hB, rfl, rfl, rfl, rfl⟩
    | some x =>
      have hl := bit_lt hx
      cases x with
      | false =>
        have e : loopF bits n P body (f + 1) u v = (.inr .nrm, u + 1, v ++ [n]) := by simp only [loopF, hx]
        rw [e]
        refine ⟨by omega, hl, trivial, fun cf h => ?_⟩
        obtain ⟨r, P', N, l, re⟩ := h
        exact ⟨0, n, N + 1, he, .step (.ask ha hx (.whlF hd rfl l)) hB re⟩
      | true =>
        have g := hb (u + 1) (v ++ [n]) hl
        have up : ∀ cf, From t bits B a P (u + 1) (v ++ [n]) cf → From t bits B n P u v cf := fun cf h => by
          obtain ⟨k, e, N, en, re⟩ := h
          exact ⟨0, n, N + 1, he, .step (.ask ha hx (.whlT hd rfl en)) hB re⟩
        rcases hr : body (u + 1) (v ++ [n]) with ⟨w, u', v'⟩
        rw [hr] at g
        cases w with
        | inl x =>
          have e : loopF bits n P body (f + 1) u v = (.inl x, u', v') := by simp only [loopF, hx, hr]
          rw [e]
          obtain ⟨g1, g2, cf, g3, g4⟩ := g
          exact ⟨by omega, g2, cf, up cf g3, g4⟩
        | inr w =>
          obtain ⟨g1, g2, g3, g4⟩ := g
          by_cases hw : again w = true
          · have e : loopF bits n P body (f + 1) u v = loopF bits n P body f u' v' := by simp only [loopF, hx, hr, hw, if_true]
            rw [e]
            have g := ih u' v' (by omega) g2
            have go : ∀ cf, From t bits B n P u' v' cf → From t bits B n P u v cf := fun cf h => by
              obtain ⟨k, e', N, en, re⟩ := h
              have z := en.self (fun l => by rw [hd]; exact fun z => nomatch z) (fun a b => by rw [hd]; exact fun z => nomatch z) (fun a b => by rw [hd]; exact fun z => nomatch z)
              subst z
              exact up cf (g4 cf ⟨_, _, _, .whlA c3 hd hw, re⟩)
            rcases hr2 : loopF bits n P body f u' v' with ⟨w2, u2, v2⟩
            rw [hr2] at g
            cases w2 with
            | inl x =>
              obtain ⟨k1, k2, cf, k3, k4⟩ := g
              exact ⟨by omega, k2, cf, go cf k3, k4⟩
            | inr w2 =>
              obtain ⟨k1, k2, k3, k4⟩ := g
              exact ⟨by omega, k2, k3, fun cf h => go cf (k4 cf h)⟩
          · have hw : again w = false := by simpa using hw
            have e : loopF bits n P body (f + 1) u v = (.inr (decW w), u', v') := by simp [loopF, hx, hr, hw]
            rw [e]
            refine ⟨by omega, g2, dec_ok (by rw [c4] at g3; exact g3) hw, fun cf h => ?_⟩
            obtain ⟨r, P', N, l, re⟩ := h
            exact up cf (g4 cf ⟨r, P', N, .whlU c3 hd hw l, re⟩)
theorem seq_good (W : t.WF lp) {n : Nat} {l : List Nat} (hn : n < t.len) (hd : t.nd n = .seq l) {go : Nat → Nat → List Nat → Rs} {P : Pd} (hb : ∀ c ∈ l, ∀ u v, u ≤ bits.length → Good t bits B lp c P u v (go c u v)) :
    ∀ (cs l1 : List Nat) (c u : Nat) (v : List Nat), l = l1 ++ c :: cs → u ≤ bits.length → (match seqF go (c :: cs) (.inr .nrm, u, v) with
      | (.inr w, u', v') => u ≤ u' ∧ u' ≤ bits.length ∧ WOk (lp n) w ∧ ∀ cf, After t bits B n w P u' v' cf → From t bits B c P u v cf
      | (.inl x, u', v') => u ≤ u' ∧ u' ≤ bits.length ∧ ∃ cf, From t bits B c P u v cf ∧ cf.vs = v' ∧ cf.us = u' ∧ cf.at_ = .inl x.1 ∧ cf.pd = x.2) := by
  intro cs
  induction cs with
  | nil =>
    intro l1 c u v hl hu
    have hc : c ∈ l := by rw [hl]; simp
    obtain ⟨c1, c2, c3, c4⟩ := W.dn n hn c (by rw [hd]; exact hc)
    rw [hd] at c4
    have c4 : lp c = lp n := c4
    have g := hb c hc u v hu
    have e : seqF go [c] (.inr .nrm, u, v) = go c u v := by simp [seqF]
    rw [e]
    rcases hr : go c u v with ⟨w, u', v'⟩
    rw [hr] at g
    cases w with
    | inl x => exact g
    | inr w =>
      obtain ⟨g1, g2, g3, g4⟩ := g
      refine ⟨g1, g2, by rw [← c4]; exact g3, fun cf h => ?_⟩
      obtain ⟨r, P', N, lv, re⟩ := h
      exact g4 cf ⟨r, P', N, .seqU c3 hd (.inr (by rw [hl]; simp)) lv, re⟩
  | cons m cs ih =>
    intro l1 c u v hl hu
    have hc : c ∈ l := by rw [hl]; simp
    obtain ⟨c1, c2, c3, c4⟩ := W.dn n hn c (by rw [hd]; exact hc)
    rw [hd] at c4
    have c4 : lp c = lp n := c4
    have g := hb c hc u v hu
    have e : seqF go (c :: m :: cs) (.inr .nrm, u, v) = seqF go (m :: cs) (go c u v) := by simp [seqF]
    rw [e]
    rcases hr : go c u v with ⟨w, u', v'⟩
    rw [hr] at g
    cases w with
    | inl x =>
      rw [seqF_stop (w := .inl x) (fun z => nomatch z)]
      exact g
    | inr w =>
      obtain ⟨g1, g2, g3, g4⟩ := g
      by_cases hw : w = .nrm
      · subst hw
        have i := ih (l1 ++ [c]) m u' v' (by rw [hl]; simp) g2
        rcases hr2 : seqF go (m :: cs) (.inr .nrm, u', v') with ⟨w2, u2, v2⟩
        rw [hr2] at i
        have go' : ∀ cf, From t bits B m P u' v' cf → From t bits B c P u v cf := fun cf h => by
          obtain ⟨k, e', N, en, re⟩ := h
          exact g4 cf ⟨_, _, _, .seqN c3 hd hl en, re⟩
        cases w2 with
        | inl x =>
          obtain ⟨k1, k2, cf, k3, k4⟩ := i
          exact ⟨by omega, k2, cf, go' cf k3, k4⟩
        | inr w2 =>
          obtain ⟨k1, k2, k3, k4⟩ := i
          exact ⟨by omega, k2, k3, fun cf h => go' cf (k4 cf h)⟩
      · rw [seqF_stop (fun z => hw (Sum.inr.inj z))]
        refine ⟨g1, g2, by rw [← c4]; exact g3, fun cf h => ?_⟩
        obtain ⟨r, P', N, lv, re⟩ := h
        exact g4 cf ⟨r, P', N, .seqU c3 hd (.inl hw) lv, re⟩
theorem quiet_good (W : t.WF lp) {n : Nat} (hn : n < t.len) (hq : quiet (t.nd n)) {P : Pd} {u : Nat} {v : List Nat} (hB : P.length ≤ B) (hu : u ≤ bits.length) : Good t bits B lp n P u v (.inr (wayN (t.nd n)), u, v ++ [n]) := by
  have he : Ent t 0 n n := .here (fun l e => by rw [e] at hq; exact hq) (fun a b e => by rw [e] at hq; exact hq) (fun a b e => by rw [e] at hq; exact hq)
  have ha : asks (t.nd n) = false := by
    cases e : t.nd n <;> rw [e] at hq <;> first | rfl | exact hq.elim
  refine ⟨Nat.le_refl _, hu, ?_, fun cf h => ?_⟩
  · cases e : t.nd n with
    | brk k => exact W.bk n k hn e
    | cnt k => exact W.ct n k hn e
    | do_ => trivial
    | ret => trivial
    | rai => trivial
    | call => trivial
    | iff a b => trivial
    | whl a => trivial
    | seq l => trivial
    | tr a b => trivial
    | fin a b => trivial
  · obtain ⟨r, P', N, lv, re⟩ := h
    exact ⟨0, n, N + 1, he, .step (.on ha (.quiet hq lv)) hB re⟩
theorem main (W : t.WF lp) : ∀ h n, Hg t h n → n < t.len → ∀ (P : Pd) (u : Nat) (v : List Nat), P.length + h ≤ B → u ≤ bits.length → Good t bits B lp n P u v (goF t bits h n P u v) := by
  intro h
  induction h with
  | zero => exact fun n hg => nomatch hg
  | succ h ih =>
    intro n hg hn P u v hPB hu
    have hB : P.length ≤ B := by omega
    have hP : P.length + h ≤ B := by omega
    cases hg with
    | mk hg =>
    have q : ∀ d, t.nd n = d → quiet d → goF t bits (h + 1) n P u v = (.inr (wayN d), u, v ++ [n]) → Good t bits B lp n P u v (goF t bits (h + 1) n P u v) := fun d e hq e2 => by
      rw [e2, ← e]
      exact quiet_good W hn (by rw [e]; exact hq) hB hu
    cases hd : t.nd n with
    | do_ => exact q _ hd trivial (by simp only [goF, hd])
    | ret => exact q _ hd trivial (by simp only [goF, hd])
    | rai => exact q _ hd trivial (by simp only [goF, hd])
    | brk k => exact q _ hd trivial (by simp only [goF, hd])
    | cnt k => exact q _ hd trivial (by simp only [goF, hd])
    | whl a =>
      have e : goF t bits (h + 1) n P u v = loopF bits n P (goF t bits h a P) (bits.length + 1) u v := by simp only [goF, hd]
      rw [e]
      have ma : a ∈ (t.nd n).ch := by rw [hd]; exact List.mem_singleton.mpr rfl
      obtain ⟨c1, c2, c3, c4⟩ := W.dn n hn a ma
      exact loop_good W hn hd hB (fun u v hu => ih a (hg a ma) c2 P u v hP hu) _ u v (by omega) hu
    | call =>
      have he : Ent t 0 n n := .here (fun l => by rw [hd]; exact fun z => nomatch z) (fun a b => by rw [hd]; exact fun z => nomatch z) (fun a b => by rw [hd]; exact fun z => nomatch z)
      have ha : asks (t.nd n) = true := by rw [hd]; rfl
      cases hx : bits[u]? with
      | none =>
        have e : goF t bits (h + 1) n P u v = (.inl (n, P), u, v) := by simp only [goF, hd, hx]
        rw [e]
        exact ⟨Nat.le_refl _, hu, _, from_wait he ha hx hB, rfl, rfl, rfl, rfl⟩
      | some x =>
        have e : goF t bits (h + 1) n P u v = (.inr (if x then .rai else .nrm), u + 1, v ++ [n]) := by simp only [goF, hd, hx]
        rw [e]
        refine ⟨by omega, bit_lt hx, by cases x <;> trivial, fun cf h => ?_⟩
        obtain ⟨r, P', N, lv, re⟩ := h
        exact ⟨0, n, N + 1, he, .step (.ask ha hx (.call hd lv)) hB re⟩
    | iff a b =>
      have he : Ent t 0 n n := .here (fun l => by rw [hd]; exact fun z => nomatch z) (fun a b => by rw [hd]; exact fun z => nomatch z) (fun a b => by rw [hd]; exact fun z => nomatch z)
      have ha : asks (t.nd n) = true := by rw [hd]; rfl
      cases hx : bits[u]? with
      | none =>
        have e : goF t bits (h + 1) n P u v = (.inl (n, P), u, v) := by simp only [goF, hd, hx]
        rw [e]
        exact ⟨Nat.le_refl _, hu, _, from_wait he ha hx hB, rfl, rfl, rfl, rfl⟩
      | some x =>
        have e : goF t bits (h + 1) n P u v = goF t bits h (if x then b else a) P (u + 1) (v ++ [n]) := by simp only [goF, hd, hx]
        rw [e]
        have mc : (if x then b else a) ∈ (t.nd n).ch := by rw [hd]; cases x <;> simp [Node.ch]
        obtain ⟨c1, c2, c3, c4⟩ := W.dn n hn _ mc
        rw [hd] at c4
        have c4 : lp (if x then b else a) = lp n := c4
        have g := ih _ (hg _ mc) c2 P (u + 1) (v ++ [n]) hP (bit_lt hx)
        have up : ∀ cf, From t bits B (if x then b else a) P (u + 1) (v ++ [n]) cf → From t bits B n P u v cf := fun cf h => by
          obtain ⟨k, e', N, en, re⟩ := h
          exact ⟨0, n, N + 1, he, .step (.ask ha hx (.iff hd en)) hB re⟩
        rcases hr : goF t bits h (if x then b else a) P (u + 1) (v ++ [n]) with ⟨w, u', v'⟩
        rw [hr] at g
        cases w with
        | inl x =>
          obtain ⟨g1, g2, cf, g3, g4⟩ := g
          exact ⟨by omega, g2, cf, up cf g3, g4⟩
        | inr w =>
          obtain ⟨g1, g2, g3, g4⟩ := g
          refine ⟨by omega, g2, by rw [← c4]; exact g3, fun cf h => ?_⟩
          obtain ⟨r, P', N, lv, re⟩ := h
          exact up cf (g4 cf ⟨r, P', N, .iffU c3 hd lv, re⟩)
    | seq l =>
      have e : goF t bits (h + 1) n P u v = seqF (fun c => goF t bits h c P) l (.inr .nrm, u, v) := by simp only [goF, hd]
      rw [e]
      have hne := W.sq n l hn hd
      obtain ⟨c, cs, rfl⟩ : ∃ c cs, l = c :: cs := by
        cases l with
        | nil => exact absurd rfl hne
        | cons c cs => exact ⟨c, cs, rfl⟩
      have mem : ∀ c' ∈ c :: cs, c' ∈ (t.nd n).ch := fun c' hc => by rw [hd]; exact hc
      have g := seq_good W hn hd (go := fun c => goF t bits h c P) (P := P) (fun c' hc u v hu => ih c' (hg c' (mem c' hc)) (W.dn n hn c' (mem c' hc)).2.1 P u v hP hu) cs [] c u v rfl hu
      have up : ∀ cf, From t bits B c P u v cf → From t bits B n P u v cf := fun cf h => by
        obtain ⟨k, e', N, en, re⟩ := h
        exact ⟨k + 1, e', N, .seq hd en, re⟩
      rcases hr : seqF (fun c => goF t bits h c P) (c :: cs) (.inr .nrm, u, v) with ⟨w, u', v'⟩
      rw [hr] at g
      cases w with
      | inl x =>
        obtain ⟨g1, g2, cf, g3, g4⟩ := g
        exact ⟨g1, g2, cf, up cf g3, g4⟩
      | inr w =>
        obtain ⟨g1, g2, g3, g4⟩ := g
        exact ⟨g1, g2, g3, fun cf h => up cf (g4 cf h)⟩
    | tr a b =>
      have ma : a ∈ (t.nd n).ch := by rw [hd]; simp [Node.ch]
      have mb : b ∈ (t.nd n).ch := by rw [hd]; simp [Node.ch]
      obtain ⟨c1, c2, c3, c4⟩ := W.dn n hn a ma
      obtain ⟨b1, b2, b3, b4⟩ := W.dn n hn b mb
      rw [hd] at c4 b4
      have c4 : lp a = lp n := c4
      have b4 : lp b = lp n := b4
      have nab : b ≠ a := by
        have z := W.nd n hn
        rw [hd] at z
        simp [Node.ch] at z
        exact fun y => z y.symm
      have g := ih a (hg a ma) c2 P u v hP hu
      have up : ∀ cf, From t bits B a P u v cf → From t bits B n P u v cf := fun cf h => by
        obtain ⟨k, e', N, en, re⟩ := h
        exact ⟨k + 1, e', N, .tr hd en, re⟩
      rcases hr : goF t bits h a P u v with ⟨w, u', v'⟩
      rw [hr] at g
      cases w with
      | inl x =>
        have e : goF t bits (h + 1) n P u v = (.inl x, u', v') := by simp only [goF, hd, hr]
        rw [e]
        obtain ⟨g1, g2, cf, g3, g4⟩ := g
        exact ⟨g1, g2, cf, up cf g3, g4⟩
      | inr w =>
        obtain ⟨g1, g2, g3, g4⟩ := g
        by_cases hw : w = .rai
        · subst hw
          have e : goF t bits (h + 1) n P u v = goF t bits h b P u' v' := by simp only [goF, hd, hr]
          rw [e]
          have i := ih b (hg b mb) b2 P u' v' hP g2
          have go' : ∀ cf, From t bits B b P u' v' cf → From t bits B n P u v cf := fun cf h => by
            obtain ⟨k, e', N, en, re⟩ := h
            exact up cf (g4 cf ⟨_, _, _, .tryH c3 hd en, re⟩)
          rcases hr2 : goF t bits h b P u' v' with ⟨w2, u2, v2⟩
          rw [hr2] at i
          cases w2 with
          | inl x =>
            obtain ⟨k1, k2, cf, k3, k4⟩ := i
            exact ⟨by omega, k2, cf, go' cf k3, k4⟩
          | inr w2 =>
            obtain ⟨k1, k2, k3, k4⟩ := i
            refine ⟨by omega, k2, by rw [← b4]; exact k3, fun cf h => ?_⟩
            obtain ⟨r, P', N, lv, re⟩ := h
            exact go' cf (k4 cf ⟨r, P', N, .tryU b3 hd (.inr nab) lv, re⟩)
        · have e : goF t bits (h + 1) n P u v = (.inr w, u', v') := by
            simp only [goF, hd, hr]
            cases w <;> first | rfl | exact absurd rfl hw
          rw [e]
          refine ⟨g1, g2, by rw [← c4]; exact g3, fun cf h => ?_⟩
          obtain ⟨r, P', N, lv, re⟩ := h
          exact up cf (g4 cf ⟨r, P', N, .tryU c3 hd (.inl hw) lv, re⟩)
    | fin a b =>
      have ma : a ∈ (t.nd n).ch := by rw [hd]; simp [Node.ch]
      have mb : b ∈ (t.nd n).ch := by rw [hd]; simp [Node.ch]
      obtain ⟨c1, c2, c3, c4⟩ := W.dn n hn a ma
      obtain ⟨b1, b2, b3, b4⟩ := W.dn n hn b mb
      rw [hd] at c4 b4
      have c4 : lp a = lp n := c4
      have b4 : lp b = lp n := b4
      have nab : b ≠ a := by
        have z := W.nd n hn
        rw [hd] at z
        simp [Node.ch] at z
        exact fun y => z y.symm
      have g := ih a (hg a ma) c2 P u v hP hu
      have up : ∀ cf, From t bits B a P u v cf → From t bits B n P u v cf := fun cf h => by
        obtain ⟨k, e', N, en, re⟩ := h
        exact ⟨k + 1, e', N, .fin hd en, re⟩
      rcases hr : goF t bits h a P u v with ⟨w, u', v'⟩
      rw [hr] at g
      cases w with
      | inl x =>
        have e : goF t bits (h + 1) n P u v = (.inl x, u', v') := by simp only [goF, hd, hr]
        rw [e]
        obtain ⟨g1, g2, cf, g3, g4⟩ := g
        exact ⟨g1, g2, cf, up cf g3, g4⟩
      | inr w =>
        obtain ⟨g1, g2, g3, g4⟩ := g
        have e : goF t bits (h + 1) n P u v = finF n w (goF t bits h b (P ++ [(n, w)]) u' v') := by simp only [goF, hd, hr]
        rw [e]
        have i := ih b (hg b mb) b2 (P ++ [(n, w)]) u' v' (by simp; omega) g2
        have go' : ∀ cf, From t bits B b (P ++ [(n, w)]) u' v' cf → From t bits B n P u v cf := fun cf h => by
          obtain ⟨k, e', N, en, re⟩ := h
          exact up cf (g4 cf ⟨_, _, _, .finB c3 hd en, re⟩)
        rcases hr2 : goF t bits h b (P ++ [(n, w)]) u' v' with ⟨w2, u2, v2⟩
        rw [hr2] at i
        cases w2 with
        | inl x =>
          obtain ⟨k1, k2, cf, k3, k4⟩ := i
          exact ⟨by omega, k2, cf, go' cf k3, k4⟩
        | inr w2 =>
          obtain ⟨k1, k2, k3, k4⟩ := i
          by_cases hw : w2 = .nrm
          · subst hw
            have e2 : finF n w (.inr .nrm, u2, v2) = (.inr w, u2, v2 ++ [n]) := by simp [finF]
            rw [e2]
            refine ⟨by omega, k2, by rw [← c4]; exact g3, fun cf h => ?_⟩
            obtain ⟨r, P', N, lv, re⟩ := h
            exact go' cf (k4 cf ⟨_, _, _, .finE b3 hd nab, .step (.on (by rw [hd]; rfl) (.fin hd lv)) (by simp; omega) re⟩)
          · have e2 : finF n w (.inr w2, u2, v2) = (.inr w2, u2, v2) := by simp [finF, hw]
            rw [e2]
            refine ⟨by omega, k2, by rw [← b4]; exact k3, fun cf h => ?_⟩
            obtain ⟨r, P', N, lv, re⟩ := h
            exact go' cf (k4 cf ⟨r, P', N, .finO b3 hd nab hw lv, re⟩)
/-- the whole: from the first entry the walker comes to where the law comes -/
theorem whole (W : t.WF lp) {h : Nat} (hg : Hg t h 0) (hB : h ≤ B) : ∃ k e N cf, Ent t k 0 e ∧ Re t bits B N ⟨.inl e, [], 0, []⟩ cf ∧ cf.vs = (goF t bits h 0 [] 0 []).2.2 ∧ cf.us = (goF t bits h 0 [] 0 []).2.1 ∧
    (match (goF t bits h 0 [] 0 []).1 with | .inl x => cf.at_ = .inl x.1 ∧ cf.pd = x.2 | .inr w => cf.at_ = .inr w ∧ WOk 0 w) := by
  have g := main (bits := bits) (B := B) W h 0 hg W.ne [] 0 [] (by simpa using hB) (Nat.zero_le _)
  rcases hr : goF t bits h 0 [] 0 [] with ⟨w, u', v'⟩
  rw [hr] at g
  cases w with
  | inl x =>
    obtain ⟨_, _, cf, ⟨k, e, N, en, re⟩, g4⟩ := g
    exact ⟨k, e, N, cf, en, re, g4.1, g4.2.1, g4.2.2⟩
  | inr w =>
    obtain ⟨_, _, g3, g4⟩ := g
    obtain ⟨k, e, N, en, re⟩ := g4 _ ⟨_, _, _, .top W.root, .stop .fin (Nat.zero_le _)⟩
    exact ⟨k, e, N, _, en, re, rfl, rfl, rfl, by rw [W.lp0] at g3; exact g3⟩
theorem ent_lt (W : t.WF lp) {k n e : Nat} (h : Ent t k n e) (hn : n < t.len) : e < t.len := by
  induction h with
  | here => exact hn
  | seq h r ih => exact ih (W.dn _ hn _ (by rw [h]; exact List.mem_cons_self)).2.1
  | tr h r ih => exact ih (W.dn _ hn _ (by rw [h]; exact List.mem_cons_self)).2.1
  | fin h r ih => exact ih (W.dn _ hn _ (by rw [h]; exact List.mem_cons_self)).2.1
theorem lv_lt (W : t.WF lp) {n : Nat} {w : Way} {P P' : Pd} {r : Nat ⊕ Way} (h : Lv t n w P r P') (hn : n < t.len) : ∀ e, r = .inl e → e < t.len := by
  induction h with
  | top => exact fun e z => nomatch z
  | seqN h hd hl he => intro e z; cases z; exact ent_lt W he (W.dn _ (W.pu _ _ hn h) _ (by rw [hd, hl]; exact List.mem_append_right _ (List.mem_cons_of_mem _ List.mem_cons_self))).2.1
  | seqU h hd hw up ih => exact ih (W.pu _ _ hn h)
  | whlA h hd hw => intro e z; cases z; exact W.pu _ _ hn h
  | whlU h hd hw up ih => exact ih (W.pu _ _ hn h)
  | tryH h hd he => intro e z; cases z; exact ent_lt W he (W.dn _ (W.pu _ _ hn h) _ (by rw [hd]; simp [Node.ch])).2.1
  | tryU h hd hw up ih => exact ih (W.pu _ _ hn h)
  | iffU h hd up ih => exact ih (W.pu _ _ hn h)
  | finB h hd he => intro e z; cases z; exact ent_lt W he (W.dn _ (W.pu _ _ hn h) _ (by rw [hd]; simp [Node.ch])).2.1
  | finE h hd => intro e z; cases z; exact W.pu _ _ hn h
  | finO h hd hn' hw up ih => exact ih (W.pu _ _ hn h)
theorem dp_lt (W : t.WF lp) {s : Nat} {x : Bool} {P P' : Pd} {r : Nat ⊕ Way} (h : Dp1 t s x P r P') (hs : s < t.len) : ∀ e, r = .inl e → e < t.len := by
  cases h with
  | iff h he => intro e z; cases z; exact ent_lt W he (W.dn _ hs _ (by rw [h]; cases x <;> simp [Node.ch])).2.1
  | whlT h hx he => intro e z; cases z; exact ent_lt W he (W.dn _ hs _ (by rw [h]; simp [Node.ch])).2.1
  | whlF h hx l => exact lv_lt W l hs
  | call h l => exact lv_lt W l hs
  | fin h l => exact lv_lt W l hs
  | quiet h l => exact lv_lt W l hs
theorem Re.vs {N : Nat} {c d : Cfg} (h : Re t bits B N c d) : c.vs.length ≤ d.vs.length := by
  induction h with
  | stop => exact Nat.le_refl _
  | step h hb r ih =>
    cases h with
    | ask _ _ _ => exact Nat.le_trans (by simp) ih
    | on _ _ => exact Nat.le_trans (by simp) ih
theorem Re.pdl {N : Nat} {c d : Cfg} (h : Re t bits B N c d) : c.pd.length ≤ B := by
  cases h with
  | stop _ hb => exact hb
  | step _ hb _ => exact hb
theorem Re.ended {N : Nat} {w : Way} {P : Pd} {u : Nat} {v : List Nat} {d : Cfg} (h : Re t bits B N ⟨.inr w, P, u, v⟩ d) : d = ⟨.inr w, P, u, v⟩ := by
  cases h with
  | stop => rfl
  | step h => cases h
theorem Re.quiet {N s : Nat} {P : Pd} {u : Nat} {v : List Nat} {d : Cfg} (h : Re t bits B N ⟨.inl s, P, u, v⟩ d) (ha : asks (t.nd s) = false) : ∃ M r P', N = M + 1 ∧ Dp1 t s false P r P' ∧ Re t bits B M ⟨r, P', u, v ++ [s]⟩ d := by
  cases h with
  | stop h =>
    cases h with
    | wait h _ => rw [ha] at h; cases h
  | step h _ r =>
    cases h with
    | ask h _ _ => rw [ha] at h; cases h
    | on _ d => exact ⟨_, _, _, rfl, d, r⟩
theorem Re.asked {N s : Nat} {P : Pd} {u : Nat} {v : List Nat} {d : Cfg} {x : Bool} (h : Re t bits B N ⟨.inl s, P, u, v⟩ d) (ha : asks (t.nd s) = true) (hu : bits[u]? = some x) : ∃ M r P', N = M + 1 ∧ Dp1 t s x P r P' ∧ Re t bits B M ⟨r, P', u + 1, v ++ [s]⟩ d := by
  cases h with
  | stop h =>
    cases h with
    | wait _ h => rw [hu] at h; cases h
  | step h _ r =>
    cases h with
    | ask _ h d =>
      rw [hu] at h
      cases h
      exact ⟨_, _, _, rfl, d, r⟩
    | on h _ => rw [ha] at h; cases h
theorem Re.waits {N s : Nat} {P : Pd} {u : Nat} {v : List Nat} {d : Cfg} (h : Re t bits B N ⟨.inl s, P, u, v⟩ d) (ha : asks (t.nd s) = true) (hu : bits[u]? = none) : d = ⟨.inl s, P, u, v⟩ := by
  cases h with
  | stop h => rfl
  | step h _ r =>
    cases h with
    | ask _ h d => rw [hu] at h; cases h
    | on h _ => rw [ha] at h; cases h
end
end FcM

set_option maxRecDepth 100000
set_option maxHeartbeats 4000000
namespace Fc
open PySem PySem.Spec PyProof.Rows L2 FcR
open Evl (Ex)
/-! ### statements by their kinds; the table of a code -/
open FcM (Way Node Tab)
inductive SV (l : Int) : PyData → Prop
  | do_ (x : Str) : SV l (.tuple [.str "do", .str x])
  | call (x : Str) : SV l (.tuple [.str "call", .str x])
  | iff (x : Str) (a b : PyData) : SV l (.tuple [.str "if", .str x, a, b])
  | whl (x : Str) (a : PyData) : SV l (.tuple [.str "while", .str x, a])
  | seq (p : PyData) (ps : List PyData) : SV l (.tuple [.str "seq", .tuple (p :: ps)])
  | brk (n : Int) (h1 : 1 ≤ n) (h2 : n ≤ l) : SV l (.tuple [.str "break", .int n])
  | cnt (n : Int) (h1 : 1 ≤ n) (h2 : n ≤ l) : SV l (.tuple [.str "continue", .int n])
  | ret : SV l (.tuple [.str "return"])
  | rai : SV l (.tuple [.str "raise"])
  | tr (a b : PyData) : SV l (.tuple [.str "try", a, b])
  | fin (a b : PyData) : SV l (.tuple [.str "final", a, b])
theorem lk_mem {l : List (Str × Int)} {k : Str} {n : Int} (h : l.lookup k = some n) : (k, n) ∈ l := by
  induction l with
  | nil => cases h
  | cons p l ih =>
    obtain ⟨a, b⟩ := p
    by_cases e : k == a
    · rw [List.lookup, e] at h
      cases h
      have z : k = a := by simpa using e
      rw [z]
      exact List.mem_cons_self
    · have e' : (k == a) = false := by simpa using e
      rw [List.lookup, e'] at h
      exact List.mem_cons_of_mem _ (ih h)
theorem isName_str {d : PyData} (h : isName d = true) : ∃ x, d = .str x := by
  cases d <;> first | exact ⟨_, rfl⟩ | cases h
theorem isNum_int {d : PyData} {a b : Int} (h : isNum a b d = true) : ∃ n, d = .int n ∧ a ≤ n ∧ n ≤ b := by
  cases d <;> first | (refine ⟨_, rfl, ?_⟩; simpa [isNum] using h) | cases h
theorem ne_tup {d : PyData} (h : nonEmptyT d = true) : ∃ p ps, d = .tuple (p :: ps) := by
  cases d with
  | tuple l => cases l with
    | nil => cases h
    | cons p ps => exact ⟨p, ps, rfl⟩
  | _ => cases h
theorem len_of {r : List PyData} {n : Int} {m : Nat} (h : (r.length : Int) + 1 = n) (e : n = (m : Int) + 1) : r.length = m := by omega
theorem sv_of {d : PyData} {l : Int} (h : isStm d l = true) : SV l d := by
  obtain ⟨k, r, n, rfl, hk, hl, h⟩ := isStm_shape h
  have hm := lk_mem hk
  simp only [kSizes, List.mem_cons, List.not_mem_nil, or_false, Prod.mk.injEq] at hm
  rcases hm with ⟨rfl, rfl⟩ | ⟨rfl, rfl⟩ | ⟨rfl, rfl⟩ | ⟨rfl, rfl⟩ | ⟨rfl, rfl⟩ | ⟨rfl, rfl⟩ | ⟨rfl, rfl⟩ | ⟨rfl, rfl⟩ | ⟨rfl, rfl⟩ | ⟨rfl, rfl⟩ | ⟨rfl, rfl⟩
  · rw [if_pos (by decide)] at h
    match r, len_of (m := 1) hl rfl, h with
    | [a], _, h => obtain ⟨x, rfl⟩ := isName_str h; exact .do_ x
  · rw [if_pos (by decide)] at h
    match r, len_of (m := 1) hl rfl, h with
    | [a], _, h => obtain ⟨x, rfl⟩ := isName_str h; exact .call x
  · rw [if_pos (by decide)] at h
    match r, len_of (m := 3) hl rfl, h with
    | [a, b, c], _, h => obtain ⟨x, rfl⟩ := isName_str h; exact .iff x b c
  · rw [if_pos (by decide)] at h
    match r, len_of (m := 2) hl rfl, h with
    | [a, b], _, h => obtain ⟨x, rfl⟩ := isName_str h; exact .whl x b
  · rw [if_neg (by decide), if_neg (by decide), if_neg (by decide)] at h
    match r, len_of (m := 1) hl rfl, h with
    | [a], _, h => obtain ⟨p, ps, rfl⟩ := ne_tup h; exact .seq p ps
  · rw [if_neg (by decide), if_pos (by decide)] at h
    match r, len_of (m := 1) hl rfl, h with
    | [a], _, h => obtain ⟨x, rfl, h1, h2⟩ := isNum_int h; exact .brk x h1 h2
  · rw [if_neg (by decide), if_pos (by decide)] at h
    match r, len_of (m := 1) hl rfl, h with
    | [a], _, h => obtain ⟨x, rfl, h1, h2⟩ := isNum_int h; exact .cnt x h1 h2
  · match r, len_of (m := 0) hl rfl with
    | [], _ => exact .ret
  · match r, len_of (m := 0) hl rfl with
    | [], _ => exact .rai
  · match r, len_of (m := 2) hl rfl with
    | [a, b], _ => exact .tr a b
  · match r, len_of (m := 2) hl rfl with
    | [a, b], _ => exact .fin a b
/-- the number of a jump -/
def numD : PyData → Nat
  | .tuple [_, .int n] => n.toNat
  | _ => 0
def ndOf (r : Row) : Node :=
  if kindD r.d = "do" then .do_ else if kindD r.d = "call" then .call else if kindD r.d = "return" then .ret else if kindD r.d = "raise" then .rai else
  if kindD r.d = "break" then .brk (numD r.d) else if kindD r.d = "continue" then .cnt (numD r.d) else if kindD r.d = "seq" then .seq r.ch else
  if kindD r.d = "while" then .whl (r.ch.getD 0 0) else if kindD r.d = "if" then .iff (r.ch.getD 0 0) (r.ch.getD 1 0) else
  if kindD r.d = "try" then .tr (r.ch.getD 0 0) (r.ch.getD 1 0) else .fin (r.ch.getD 0 0) (r.ch.getD 1 0)
def tabOf (rows : List Row) : Tab := ⟨rows.length, fun n => match rows[n]? with | some r => ndOf r | none => .do_, fun n => rows[n]?.bind Row.par⟩
def wl (d : PyData) : Nat := if kindD d = "while" then 1 else 0
/-- what is built so far -/
structure BI (st : List WIt) (rows : List Row) (ls : List Nat) : Prop where
  ll : ls.length = rows.length
  dn : ∀ (n : Nat) (r : Row) (l : Nat), rows[n]? = some r → ls[n]? = some l → ∀ c ∈ r.ch, n < c ∧ ∃ r' : Row, rows[c]? = some r' ∧ r'.par = some n ∧ ls[c]? = some (l + wl r.d)
  as : ∀ (n : Nat) (r : Row), rows[n]? = some r → r.ch.Pairwise (· < ·)
  pt : ∀ (n : Nat) (r : Row), rows[n]? = some r → (r.ch.map fun c => (rows[c]?.map Row.d).getD .none) ++ (st.filter fun i => decide (i.par = some n)).map WIt.d = partsD r.d
  sm : ∀ (n : Nat) (r : Row) (l : Nat), rows[n]? = some r → ls[n]? = some l → isStm r.d (l : Int) = true
  it : ∀ i ∈ st, (i.par = none → rows = [] ∧ i.loops = 0 ∧ st.length = 1) ∧ ∀ p : Nat, i.par = some p → ∃ (r : Row) (l : Nat), rows[p]? = some r ∧ ls[p]? = some l ∧ i.loops = l + wl r.d
  up : ∀ (n : Nat) (r : Row) (p : Nat), rows[n]? = some r → r.par = some p → p < n ∧ ∃ rp : Row, rows[p]? = some rp ∧ n ∈ rp.ch
  rt : ∀ r : Row, rows[0]? = some r → r.par = none
  l0 : ∀ l : Nat, ls[0]? = some l → l = 0
theorem addRow_get {rows : List Row} {d : PyData} {par : Option Nat} {n : Nat} {r : Row} (h : (addRow rows d par)[n]? = some r) :
    (n = rows.length ∧ r = ⟨d, par, []⟩) ∨ (∃ r0, rows[n]? = some r0 ∧ r.d = r0.d ∧ r.par = r0.par ∧ ((par = some n ∧ r.ch = r0.ch ++ [rows.length]) ∨ (par ≠ some n ∧ r = r0))) := by
  obtain ⟨bs, hb, hl, hg⟩ : ∃ bs : List Row, addRow rows d par = bs ++ [⟨d, par, []⟩] ∧ bs.length = rows.length ∧ ∀ (n : Nat) (r : Row), bs[n]? = some r → ∃ r0, rows[n]? = some r0 ∧ r.d = r0.d ∧ r.par = r0.par ∧ ((par = some n ∧ r.ch = r0.ch ++ [rows.length]) ∨ (par ≠ some n ∧ r = r0)) := by
    cases par with
    | none => exact ⟨rows, rfl, rfl, fun n r h => ⟨r, h, rfl, rfl, .inr ⟨(fun z => nomatch z), rfl⟩⟩⟩
    | some i =>
      refine ⟨addCh rows i rows.length, rfl, addCh_len _ _ _, fun n r h => ?_⟩
      rw [addCh_eq, List.getElem?_modify] at h
      cases e : rows[n]? with
      | none => rw [e] at h; simp at h
      | some r0 =>
        rw [e] at h
        by_cases z : i = n
        · subst z
          simp at h
          refine ⟨r0, rfl, ?_, ?_, .inl ⟨rfl, ?_⟩⟩ <;> rw [← h] <;> rfl
        · simp [z] at h
          exact ⟨r0, rfl, by rw [h], by rw [h], .inr ⟨fun y => z (Option.some.inj y), h.symm⟩⟩
  rw [hb] at h
  rcases Nat.lt_or_ge n rows.length with lt | ge
  · rw [List.getElem?_append_left (by rw [hl]; exact lt)] at h
    exact .inr (hg n r h)
  · rw [List.getElem?_append_right (by rw [hl]; exact ge), hl] at h
    have e : n - rows.length = 0 := by
      have := (List.getElem?_eq_some_iff.mp h).1
      simp at this
      omega
    rw [e] at h
    simp at h
    exact .inl ⟨by omega, h.symm⟩
theorem addRow_old {rows : List Row} {d : PyData} {par : Option Nat} {n : Nat} {r0 : Row} (h : rows[n]? = some r0) : ∃ r, (addRow rows d par)[n]? = some r ∧ r.d = r0.d ∧ r.par = r0.par := by
  have lt := (List.getElem?_eq_some_iff.mp h).1
  have lt2 : n < (addRow rows d par).length := by rw [addRow_len]; omega
  refine ⟨_, List.getElem?_eq_getElem lt2, ?_⟩
  rcases addRow_get (List.getElem?_eq_getElem lt2) with ⟨e, _⟩ | ⟨r1, h1, h2, h3, _⟩
  · omega
  · rw [h] at h1
    cases h1
    exact ⟨h2, h3⟩
theorem addRow_new {rows : List Row} {d : PyData} {par : Option Nat} : (addRow rows d par)[rows.length]? = some ⟨d, par, []⟩ := by
  have lt2 : rows.length < (addRow rows d par).length := by rw [addRow_len]; omega
  rw [List.getElem?_eq_getElem lt2]
  rcases addRow_get (List.getElem?_eq_getElem lt2) with ⟨_, e⟩ | ⟨r1, h1, _⟩
  · rw [e]
  · have := (List.getElem?_eq_some_iff.mp h1).1
    omega
theorem addRow_d {rows : List Row} {d : PyData} {par : Option Nat} {c : Nat} (hc : c < rows.length) : ((addRow rows d par)[c]?.map Row.d) = rows[c]?.map Row.d := by
  obtain ⟨r, h1, h2, _⟩ := addRow_old (d := d) (par := par) (List.getElem?_eq_getElem hc)
  rw [h1, List.getElem?_eq_getElem hc, Option.map_some, Option.map_some, h2]
theorem BI.step {it : WIt} {st : List WIt} {rows : List Row} {ls : List Nat} (b : BI (it :: st) rows ls) (ok : okIt it rows.length) : BI (newIts it rows.length ++ st) (addRow rows it.d it.par) (ls ++ [it.loops]) := by
  have lsl : ∀ {n l : Nat}, ls[n]? = some l → (ls ++ [it.loops])[n]? = some l := fun {n l} h => by
    rw [List.getElem?_append_left (List.getElem?_eq_some_iff.mp h).1]
    exact h
  have lsn : (ls ++ [it.loops])[rows.length]? = some it.loops := by rw [List.getElem?_append_right (by rw [b.ll]; exact Nat.le_refl _), b.ll, Nat.sub_self] <;> rfl
  have lso : ∀ {n l : Nat}, n < rows.length → (ls ++ [it.loops])[n]? = some l → ls[n]? = some l := fun {n l} hn h => by
    rw [List.getElem?_append_left (by rw [b.ll]; exact hn)] at h
    exact h
  obtain ⟨i1, i2⟩ := b.it it List.mem_cons_self
  have new_par : ∀ i ∈ newIts it rows.length, i.par = some rows.length ∧ i.loops = it.loops + wl it.d := fun i hi => by
    obtain ⟨j, hj, rfl⟩ := List.mem_mapIdx.mp hi
    exact ⟨rfl, rfl⟩
  refine ⟨by rw [List.length_append, addRow_len, b.ll] <;> rfl, fun n r l hr hl c hc => ?_, fun n r hr => ?_, fun n r hr => ?_, fun n r l hr hl => ?_, fun i hi => ?_, fun n r p hr hp => ?_, fun r hr => ?_, fun l hl => ?_⟩
  · rcases addRow_get hr with ⟨rfl, rfl⟩ | ⟨r0, h0, hd, hp, h⟩
    · cases hc
    · have lt := (List.getElem?_eq_some_iff.mp h0).1
      have hl0 := lso lt hl
      have old : ∀ c ∈ r0.ch, n < c ∧ ∃ r' : Row, (addRow rows it.d it.par)[c]? = some r' ∧ r'.par = some n ∧ (ls ++ [it.loops])[c]? = some (l + wl r.d) := fun c hc => by
        obtain ⟨x1, r', x2, x3, x4⟩ := b.dn n r0 l h0 hl0 c hc
        obtain ⟨r2, y1, y2, y3⟩ := addRow_old (d := it.d) (par := it.par) x2
        exact ⟨x1, r2, y1, y3.trans x3, by rw [hd]; exact lsl x4⟩
      rcases h with ⟨hp, hch⟩ | ⟨_, e⟩
      · rw [hch] at hc
        rcases List.mem_append.mp hc with hc | hc
        · exact old c hc
        · have e := List.mem_singleton.mp hc
          subst e
          refine ⟨lt, _, addRow_new, hp, ?_⟩
          obtain ⟨r1, l1, z1, z2, z3⟩ := i2 n hp
          rw [h0] at z1
          cases z1
          rw [hl0] at z2
          cases z2
          rw [lsn, z3, hd]
      · rw [e] at hc
        exact old c hc
  · rcases addRow_get hr with ⟨rfl, rfl⟩ | ⟨r0, h0, hd, hp, h⟩
    · exact .nil
    · rcases h with ⟨hp, hch⟩ | ⟨_, e⟩
      · rw [hch, List.pairwise_append]
        refine ⟨b.as n r0 h0, List.pairwise_singleton _ _, fun c hc y hy => ?_⟩
        rw [List.mem_singleton.mp hy]
        obtain ⟨l, hl⟩ : ∃ l, ls[n]? = some l := ⟨_, List.getElem?_eq_getElem (by rw [b.ll]; exact (List.getElem?_eq_some_iff.mp h0).1)⟩
        obtain ⟨_, r', x2, _⟩ := b.dn n r0 l h0 hl c hc
        exact (List.getElem?_eq_some_iff.mp x2).1
      · rw [e]
        exact b.as n r0 h0
  · rcases addRow_get hr with ⟨rfl, rfl⟩ | ⟨r0, h0, hd, hp, h⟩
    · show ([] : List Nat).map _ ++ _ = _
      rw [List.map_nil, List.nil_append, List.filter_append, List.map_append]
      have e1 : (newIts it rows.length).filter (fun i => decide (i.par = some rows.length)) = newIts it rows.length := List.filter_eq_self.mpr fun i hi => decide_eq_true (new_par i hi).1
      have e2 : st.filter (fun i => decide (i.par = some rows.length)) = [] := List.filter_eq_nil_iff.mpr fun i hi z => by
        obtain ⟨r1, l1, z1, _⟩ := (b.it i (List.mem_cons_of_mem _ hi)).2 _ (of_decide_eq_true z)
        have := (List.getElem?_eq_some_iff.mp z1).1
        omega
      rw [e1, e2, List.map_nil, List.append_nil]
      show (newIts it rows.length).map WIt.d = partsD it.d
      unfold newIts
      apply List.ext_getElem?
      intro j
      rw [List.getElem?_map, List.getElem?_mapIdx]
      cases (partsD it.d)[j]? <;> rfl
    · have lt := (List.getElem?_eq_some_iff.mp h0).1
      obtain ⟨l, hl⟩ : ∃ l, ls[n]? = some l := ⟨_, List.getElem?_eq_getElem (by rw [b.ll]; exact lt)⟩
      have p0 := b.pt n r0 h0
      have e1 : (newIts it rows.length).filter (fun i => decide (i.par = some n)) = [] := List.filter_eq_nil_iff.mpr fun i hi z => by
        have z1 := (new_par i hi).1
        rw [of_decide_eq_true z] at z1
        have := Option.some.inj z1
        omega
      have e3 : (r0.ch.map fun c => ((addRow rows it.d it.par)[c]?.map Row.d).getD .none) = r0.ch.map fun c => (rows[c]?.map Row.d).getD .none := List.map_congr_left fun c hc => by
        obtain ⟨_, r', x2, _⟩ := b.dn n r0 l h0 hl c hc
        rw [addRow_d (List.getElem?_eq_some_iff.mp x2).1]
      rw [List.filter_append, e1, List.nil_append, hd]
      rcases h with ⟨hp, hch⟩ | ⟨hp, e⟩
      · rw [hch, List.map_append, e3, ← p0, List.filter_cons, if_pos (decide_eq_true hp), List.map_cons, List.append_assoc]
        congr 1
        show [(((addRow rows it.d it.par)[rows.length]?).map Row.d).getD .none] ++ _ = _
        rw [addRow_new] <;> rfl
      · rw [e, e3, ← p0, List.filter_cons, if_neg (by simpa using hp)]
  · rcases addRow_get hr with ⟨rfl, rfl⟩ | ⟨r0, h0, hd, hp, h⟩
    · rw [lsn] at hl
      cases hl
      exact ok.2.2.2
    · rw [hd]
      exact b.sm n r0 l h0 (lso (List.getElem?_eq_some_iff.mp h0).1 hl)
  · rcases List.mem_append.mp hi with hi | hi
    · obtain ⟨z1, z2⟩ := new_par i hi
      refine ⟨(fun e => by rw [z1] at e; cases e), fun p hp => ?_⟩
      rw [z1] at hp
      cases hp
      exact ⟨_, _, addRow_new, lsn, z2⟩
    · obtain ⟨z1, z2⟩ := b.it i (List.mem_cons_of_mem _ hi)
      refine ⟨fun e => ?_, fun p hp => ?_⟩
      · have z3 := (z1 e).2.2
        have := List.length_pos_of_mem hi
        rw [List.length_cons] at z3
        omega
      · obtain ⟨r, l, y1, y2, y3⟩ := z2 p hp
        obtain ⟨r2, x1, x2, _⟩ := addRow_old (d := it.d) (par := it.par) y1
        exact ⟨r2, l, x1, lsl y2, by rw [x2]; exact y3⟩
  · have keep : ∀ {rp : Row} {x : Nat}, rows[p]? = some rp → x ∈ rp.ch → ∃ rp' : Row, (addRow rows it.d it.par)[p]? = some rp' ∧ x ∈ rp'.ch := fun {rp x} h1 h2 => by
      obtain ⟨r2, y1, _⟩ := addRow_old (d := it.d) (par := it.par) h1
      refine ⟨r2, y1, ?_⟩
      rcases addRow_get y1 with ⟨e, _⟩ | ⟨r3, z1, _, _, z4⟩
      · have := (List.getElem?_eq_some_iff.mp h1).1
        omega
      · rw [h1] at z1
        cases z1
        rcases z4 with ⟨_, e⟩ | ⟨_, e⟩
        · rw [e]; exact List.mem_append_left _ h2
        · rw [e]; exact h2
    rcases addRow_get hr with ⟨e, rfl⟩ | ⟨r0, h0, hd, hp2, h⟩
    · obtain ⟨rp, l, y1, _⟩ := i2 p hp
      have lt := (List.getElem?_eq_some_iff.mp y1).1
      obtain ⟨r2, y2, _⟩ := addRow_old (d := it.d) (par := it.par) y1
      refine ⟨by omega, r2, y2, ?_⟩
      rcases addRow_get y2 with ⟨e2, _⟩ | ⟨r3, z1, _, _, z4⟩
      · omega
      · rcases z4 with ⟨_, e2⟩ | ⟨e2, _⟩
        · rw [e2, e]; exact List.mem_append_right _ (List.mem_singleton.mpr rfl)
        · exact absurd hp e2
    · rw [hp2] at hp
      obtain ⟨y1, rp, y2, y3⟩ := b.up n r0 p h0 hp
      exact ⟨y1, keep y2 y3⟩
  · rcases addRow_get hr with ⟨e, rfl⟩ | ⟨r0, h0, hd, hp, h⟩
    · show it.par = none
      cases e2 : it.par with
      | none => rfl
      | some p =>
        obtain ⟨r, l, y1, _⟩ := i2 p e2
        have := (List.getElem?_eq_some_iff.mp y1).1
        omega
    · rw [hp]
      exact b.rt r0 h0
  · by_cases hz : rows.length = 0
    · have e : ls = [] := List.eq_nil_of_length_eq_zero (by rw [b.ll]; exact hz)
      subst e
      simp at hl
      cases e2 : it.par with
      | none => rw [← hl]; exact (i1 e2).2.1
      | some p =>
        obtain ⟨r, l, y1, _⟩ := i2 p e2
        have := (List.getElem?_eq_some_iff.mp y1).1
        omega
    · exact b.l0 l (lso (by omega) hl)

theorem BI.all : ∀ {m : Nat} {st : List WIt} {rows fin : List Row}, Builds m st rows fin → ∀ {ls : List Nat}, BI st rows ls → ∃ ls', BI [] fin ls'
  | _, _, _, _, .done _, ls, b => ⟨ls, b⟩
  | _, _, _, _, .step ok h, _, b => BI.all h (b.step ok)
theorem BI.start (d : PyData) : BI [⟨d, none, 1, 0, 0⟩] [] [] :=
  ⟨rfl, fun n r l h => by simp at h, fun n r h => by simp at h, fun n r h => by simp at h, fun n r l h => by simp at h, fun i hi => by
    rw [List.mem_singleton.mp hi]
    exact ⟨fun _ => ⟨rfl, rfl, rfl⟩, fun p hp => nomatch hp⟩, fun n r p h => by simp at h, fun r h => by simp at h, fun l h => by simp at h⟩
theorem Builds.fin_ne {m : Nat} {st : List WIt} {rows fin : List Row} (b : Builds m st rows fin) : rows.length ≤ fin.length := by
  induction b with
  | done => exact Nat.le_refl _
  | step ok h ih =>
    rw [addRow_len] at ih
    omega
/-- the rows of a code: what its runs rest on -/
structure TW (rows : List Row) (lp : Nat → Nat) : Prop where
  wf : (tabOf rows).WF lp
  sv : ∀ (n : Nat) (r : Row), rows[n]? = some r → SV (lp n : Int) r.d ∧ r.ch.length = (partsD r.d).length ∧ r.ch = (ndOf r).ch
  pu : ∀ (n : Nat) (r : Row) (p : Nat), rows[n]? = some r → r.par = some p → p < n ∧ p < rows.length ∧ n ∈ ((tabOf rows).nd p).ch
  pr : ∀ (n : Nat) (r : Row), rows[n]? = some r → ∀ (j c : Nat), r.ch[j]? = some c → ∃ r' : Row, rows[c]? = some r' ∧ (partsD r.d)[j]? = some r'.d
theorem len_two {α : Type} {l : List α} (h : l.length = 2) : ∃ a b, l = [a, b] := by
  match l, h with
  | [a, b], _ => exact ⟨a, b, rfl⟩
theorem len_one {α : Type} {l : List α} (h : l.length = 1) : ∃ a, l = [a] := by
  match l, h with
  | [a], _ => exact ⟨a, rfl⟩
theorem nd_ch {r : Row} {l : Int} (h : SV l r.d) (hl : r.ch.length = (partsD r.d).length) : r.ch = (ndOf r).ch := by
  obtain ⟨d, par, ch⟩ := r
  cases h with
  | do_ x => exact List.eq_nil_of_length_eq_zero (hl.trans rfl)
  | call x => exact List.eq_nil_of_length_eq_zero (hl.trans rfl)
  | ret => exact List.eq_nil_of_length_eq_zero (hl.trans rfl)
  | rai => exact List.eq_nil_of_length_eq_zero (hl.trans rfl)
  | brk n h1 h2 => exact List.eq_nil_of_length_eq_zero (hl.trans rfl)
  | cnt n h1 h2 => exact List.eq_nil_of_length_eq_zero (hl.trans rfl)
  | iff x a b =>
    obtain ⟨a, b, rfl⟩ := len_two (hl.trans rfl)
    rfl
  | whl x a =>
    obtain ⟨a, rfl⟩ := len_one (hl.trans rfl)
    rfl
  | seq p ps => rfl
  | tr a b =>
    obtain ⟨a, b, rfl⟩ := len_two (hl.trans rfl)
    rfl
  | fin a b =>
    obtain ⟨a, b, rfl⟩ := len_two (hl.trans rfl)
    rfl
theorem nd_wl {r : Row} {l : Int} (h : SV l r.d) : wl r.d = (match ndOf r with | .whl _ => 1 | _ => 0) := by
  obtain ⟨d, par, ch⟩ := r
  cases h <;> rfl
theorem tab_nd {rows : List Row} {n : Nat} {r : Row} (h : rows[n]? = some r) : (tabOf rows).nd n = ndOf r := by
  show (match rows[n]? with | some r => ndOf r | none => .do_) = ndOf r
  rw [h]
theorem nd_seq {r : Row} {l : Int} {cs : List Nat} (h : SV l r.d) (hl : r.ch.length = (partsD r.d).length) (e : ndOf r = .seq cs) : cs ≠ [] := by
  obtain ⟨d, par, ch⟩ := r
  cases h with
  | seq p ps =>
    cases e
    intro z
    rw [show ch = [] from z] at hl
    cases hl
  | _ => cases e
theorem nd_brk {r : Row} {l : Nat} {k : Nat} (h : SV (l : Int) r.d) (e : ndOf r = .brk k) : 1 ≤ k ∧ k ≤ l := by
  obtain ⟨d, par, ch⟩ := r
  cases h with
  | brk n h1 h2 =>
    cases e
    show 1 ≤ n.toNat ∧ n.toNat ≤ l
    omega
  | _ => cases e
theorem nd_cnt {r : Row} {l : Nat} {k : Nat} (h : SV (l : Int) r.d) (e : ndOf r = .cnt k) : 1 ≤ k ∧ k ≤ l := by
  obtain ⟨d, par, ch⟩ := r
  cases h with
  | cnt n h1 h2 =>
    cases e
    show 1 ≤ n.toNat ∧ n.toNat ≤ l
    omega
  | _ => cases e
theorem tw_of {fin : List Row} {ls : List Nat} (b : BI [] fin ls) (hne : 0 < fin.length) : TW fin (fun n => ls.getD n 0) := by
  have lpn : ∀ {n l : Nat}, ls[n]? = some l → ls.getD n 0 = l := fun h => by rw [List.getD_eq_getElem?_getD, h] <;> rfl
  have lex : ∀ {n : Nat} {r : Row}, fin[n]? = some r → ∃ l, ls[n]? = some l := fun {n r} h => ⟨_, List.getElem?_eq_getElem (by rw [b.ll]; exact (List.getElem?_eq_some_iff.mp h).1)⟩
  have pt : ∀ (n : Nat) (r : Row), fin[n]? = some r → (r.ch.map fun c => (fin[c]?.map Row.d).getD .none) = partsD r.d := fun n r h => by
    have z := b.pt n r h
    rw [List.filter_nil, List.map_nil, List.append_nil] at z
    exact z
  have sv : ∀ (n : Nat) (r : Row), fin[n]? = some r → SV (ls.getD n 0 : Int) r.d ∧ r.ch.length = (partsD r.d).length ∧ r.ch = (ndOf r).ch := fun n r h => by
    obtain ⟨l, hl⟩ := lex h
    rw [lpn hl]
    have s := sv_of (b.sm n r l h hl)
    have e : r.ch.length = (partsD r.d).length := by rw [← pt n r h, List.length_map]
    exact ⟨s, e, nd_ch s e⟩
  have at_ : ∀ n, n < fin.length → ∃ r, fin[n]? = some r ∧ (tabOf fin).nd n = ndOf r := fun n hn => ⟨_, List.getElem?_eq_getElem hn, tab_nd (List.getElem?_eq_getElem hn)⟩
  refine ⟨⟨hne, ?_, ?_, fun n hn c hc => ?_, fun n hn => ?_, fun n p hn hp => ?_, fun n l hn hd => ?_, fun n k hn hd => ?_, fun n k hn hd => ?_⟩, sv, fun n r p h hp => ?_, fun n r h j c hj => ?_⟩
  · show fin[0]?.bind Row.par = none
    rw [List.getElem?_eq_getElem hne]
    exact b.rt _ (List.getElem?_eq_getElem hne)
  · obtain ⟨l, hl⟩ := lex (List.getElem?_eq_getElem hne)
    rw [lpn hl]
    exact b.l0 l hl
  · obtain ⟨r, hr, e⟩ := at_ n hn
    obtain ⟨s1, s2, s3⟩ := sv n r hr
    rw [e, ← s3] at hc
    obtain ⟨l, hl⟩ := lex hr
    obtain ⟨x1, r', x2, x3, x4⟩ := b.dn n r l hr hl c hc
    refine ⟨x1, (List.getElem?_eq_some_iff.mp x2).1, ?_, ?_⟩
    · show fin[c]?.bind Row.par = some n
      rw [x2]
      exact x3
    · rw [e, lpn x4, lpn hl, nd_wl s1]
      try (cases ndOf r <;> rfl)
  · obtain ⟨r, hr, e⟩ := at_ n hn
    rw [e, ← (sv n r hr).2.2]
    exact (b.as n r hr).imp fun h => Nat.ne_of_lt h
  · obtain ⟨r, hr, e⟩ := at_ n hn
    have hp : fin[n]?.bind Row.par = some p := hp
    rw [hr] at hp
    obtain ⟨_, rp, y2, _⟩ := b.up n r p hr hp
    exact (List.getElem?_eq_some_iff.mp y2).1
  · obtain ⟨r, hr, e⟩ := at_ n hn
    rw [e] at hd
    exact nd_seq (sv n r hr).1 (sv n r hr).2.1 hd
  · obtain ⟨r, hr, e⟩ := at_ n hn
    rw [e] at hd
    exact nd_brk (sv n r hr).1 hd
  · obtain ⟨r, hr, e⟩ := at_ n hn
    rw [e] at hd
    exact nd_cnt (sv n r hr).1 hd
  · obtain ⟨y1, rp, y2, y3⟩ := b.up n r p h hp
    exact ⟨y1, (List.getElem?_eq_some_iff.mp y2).1, by rw [tab_nd y2, ← (sv p rp y2).2.2]; exact y3⟩
  · obtain ⟨l, hl⟩ := lex h
    obtain ⟨_, r', x2, _⟩ := b.dn n r l h hl c (List.mem_of_getElem? hj)
    refine ⟨r', x2, ?_⟩
    rw [← pt n r h, List.getElem?_map, hj, Option.map_some, x2] <;> rfl
/-- the height of a statement -/
inductive HD : Nat → PyData → Prop
  | mk {h : Nat} {d : PyData} (r : ∀ p ∈ partsD d, HD h p) : HD (h + 1) d
theorem hg_of {rows : List Row} {lp : Nat → Nat} (W : TW rows lp) : ∀ {h : Nat} {d : PyData}, HD h d → ∀ {n : Nat} {r : Row}, rows[n]? = some r → r.d = d → FcM.Hg (tabOf rows) h n := by
  intro h d hd
  induction hd with
  | mk r ih =>
    intro n r hr e
    refine .mk fun c hc => ?_
    rw [tab_nd hr, ← (W.sv n r hr).2.2] at hc
    obtain ⟨j, hj⟩ := List.mem_iff_getElem?.mp hc
    obtain ⟨r', x1, x2⟩ := W.pr n r hr j c hj
    exact ih r'.d (by rw [← e]; exact List.mem_of_getElem? x2) x1 rfl

end Fc

set_option maxRecDepth 100000
set_option maxHeartbeats 4000000
namespace Fc
open PySem PySem.Spec PyProof.Rows L2 FcR
open Evl (Ex)
/-! ### drawn statements: their weights, heights, and that Code takes them -/
inductive OkS : Nat → Nat → Nat → Nat → PyData → Prop
  | mk {loops deep blocks : Nat} {d : PyData} (wt : Nat → Nat) (st : isStm d (loops : Int) = true) (hd : deep ≤ 100) (hb : blocks ≤ 25) (ps : ∀ i p, (partsD d)[i]? = some p → OkS (loops + wl d) (deep + 1) (blocks + (if kindD d = "final" ∧ i = 1 then 1 else 0)) (wt i) p) : OkS loops deep blocks (1 + ((List.range (partsD d).length).map wt).sum) d
inductive OkL : List WIt → Nat → Prop
  | nil : OkL [] 0
  | cons {it : WIt} {st : List WIt} {w n : Nat} (h : OkS it.loops it.deep it.blocks w it.d) (r : OkL st n) : OkL (it :: st) (w + n)
theorem OkL.app {b : List WIt} {y : Nat} (hb : OkL b y) : ∀ {a : List WIt} {x : Nat}, OkL a x → OkL (a ++ b) (x + y)
  | _, _, .nil => by rw [Nat.zero_add]; exact hb
  | _, _, .cons h r => by rw [Nat.add_assoc]; exact .cons h (OkL.app hb r)
theorem okL_parts {it : WIt} {n : Nat} : ∀ (ps : List PyData) (k : Nat) (wt : Nat → Nat), (∀ i p, ps[i]? = some p → OkS (it.loops + wl it.d) (it.deep + 1) (it.blocks + (if kindD it.d = "final" ∧ k + i = 1 then 1 else 0)) (wt i) p) → OkL (ps.mapIdx fun i p => newIt it n (k + i) p) (((List.range ps.length).map wt).sum)
  | [], _, _, _ => .nil
  | p :: ps, k, wt, h => by
    rw [List.mapIdx_cons, List.length_cons, List.range_succ_eq_map, List.map_cons, List.sum_cons, List.map_map]
    refine .cons (h 0 p rfl) ?_
    have z := okL_parts (it := it) (n := n) ps (k + 1) (fun i => wt (i + 1)) fun i q hq => by
      have y := h (i + 1) q (by simpa using hq)
      have e : k + (i + 1) = k + 1 + i := by omega
      rw [e] at y
      exact y
    have e2 : (ps.mapIdx fun i p => newIt it n (k + (i + 1)) p) = ps.mapIdx fun i p => newIt it n (k + 1 + i) p := by
      congr 1
      funext i p
      rw [show k + (i + 1) = k + 1 + i by omega]
    rw [e2]
    exact z
theorem builds_of : ∀ (N : Nat) (st : List WIt) (rows : List Row), OkL st N → rows.length + N ≤ 400 → ∃ fin, Builds N st rows fin ∧ fin.length = rows.length + N := by
  intro N
  induction N with
  | zero =>
    intro st rows h _
    have : st = [] := by
      generalize e : 0 = z at h
      cases h with
      | nil => rfl
      | cons h r => cases h; omega
    subst this
    exact ⟨rows, .done rows, rfl⟩
  | succ N ih =>
    intro st rows h hl
    generalize e : N + 1 = z at h
    cases h with
    | nil => cases e
    | @cons it st w n h r =>
      obtain ⟨d, par, deep, loops, blocks⟩ := it
      dsimp only at h
      cases h with
      | mk wt s1 s2 s3 s4 =>
        have nw : OkL (newIts ⟨d, par, deep, loops, blocks⟩ rows.length) (((List.range (partsD d).length).map wt).sum) := by
          have z := okL_parts (it := ⟨d, par, deep, loops, blocks⟩) (n := rows.length) (partsD d) 0 wt fun i p hp => by
            rw [Nat.zero_add]
            exact s4 i p hp
          have e2 : ((partsD d).mapIdx fun i p => newIt ⟨d, par, deep, loops, blocks⟩ rows.length (0 + i) p) = newIts ⟨d, par, deep, loops, blocks⟩ rows.length := by
            unfold newIts
            congr 1
            funext i p
            rw [Nat.zero_add]
          rw [e2] at z
          exact z
        have eN : ((List.range (partsD d).length).map wt).sum + n = N := by omega
        have nw2 := OkL.app r nw
        rw [eN] at nw2
        obtain ⟨fin, b, l⟩ := ih _ (addRow rows d par) nw2 (by rw [addRow_len]; omega)
        have eZ : 1 + ((List.range (partsD d).length).map wt).sum + n = N + 1 := by omega
        rw [eZ]
        exact ⟨fin, .step ⟨by omega, s2, s3, s1⟩ b, by rw [l, addRow_len]; omega⟩

end Fc

set_option maxRecDepth 100000
set_option maxHeartbeats 4000000
namespace Fc
open PySem PySem.Spec PyProof.Rows L2 FcR
open Evl (Ex)
/-! ### statements that Code refuses, by what stands before -/
def FailsL (st : List WIt) (n : Nat) (f : Str × Str × Int) : Prop := ∀ rows : List Row, rows.length = n → ∃ N, Fails N st rows f
theorem fail_now {it : WIt} {st : List WIt} {n : Nat} {f : Str × Str × Int} (h : fault it n = some f) : FailsL (it :: st) n f := fun rows e => ⟨0, .now (by rw [e]; exact h)⟩
theorem fail_step {it : WIt} {st : List WIt} {n : Nat} {f : Str × Str × Int} (ok : okIt it n) (hl : (newIts it n ++ st).length ≤ 50000) (h : FailsL (newIts it n ++ st) (n + 1) f) : FailsL (it :: st) n f := fun rows e => by
  subst e
  obtain ⟨N, z⟩ := h (addRow rows it.d it.par) (addRow_len _ _ _)
  exact ⟨N + 1, .step ok hl z⟩
theorem okL_len {st : List WIt} {w : Nat} (h : OkL st w) : st.length ≤ w := by
  induction h with
  | nil => exact Nat.le_refl _
  | cons h r ih =>
    cases h
    rw [List.length_cons]
    omega
theorem okL_news {d : PyData} {par : Option Nat} {deep loops blocks n : Nat} {wt : Nat → Nat} (s4 : ∀ i p, (partsD d)[i]? = some p → OkS (loops + wl d) (deep + 1) (blocks + (if kindD d = "final" ∧ i = 1 then 1 else 0)) (wt i) p) : OkL (newIts ⟨d, par, deep, loops, blocks⟩ n) (((List.range (partsD d).length).map wt).sum) := by
  have z := okL_parts (it := ⟨d, par, deep, loops, blocks⟩) (n := n) (partsD d) 0 wt fun i p hp => by
    rw [Nat.zero_add]
    exact s4 i p hp
  have e2 : ((partsD d).mapIdx fun i p => newIt ⟨d, par, deep, loops, blocks⟩ n (0 + i) p) = newIts ⟨d, par, deep, loops, blocks⟩ n := by
    unfold newIts
    congr 1
    funext i p
    rw [Nat.zero_add]
  rw [e2] at z
  exact z
theorem fail_pass : ∀ (w : Nat) (a st : List WIt) (n : Nat) (f : Str × Str × Int), OkL a w → n + w ≤ 400 → st.length ≤ 40000 → FailsL st (n + w) f → FailsL (a ++ st) n f := by
  intro w
  induction w with
  | zero =>
    intro a st n f h _ _ hf
    cases a with
    | nil => exact hf
    | cons x a => have := okL_len h; simp at this
  | succ N ih =>
    intro a st n f h hn hs hf
    generalize e : N + 1 = z at h
    cases h with
    | nil => cases e
    | @cons it a w m h r =>
      obtain ⟨d, par, deep, loops, blocks⟩ := it
      dsimp only at h
      cases h with
      | mk wt s1 s2 s3 s4 =>
        have nw := okL_news (par := par) (n := n) s4
        have eN : ((List.range (partsD d).length).map wt).sum + m = N := by omega
        have nw2 := OkL.app r nw
        rw [eN] at nw2
        have ll := okL_len nw2
        rw [List.length_append] at ll
        show FailsL (⟨d, par, deep, loops, blocks⟩ :: (a ++ st)) n f
        refine fail_step ⟨by omega, s2, s3, s1⟩ (by simp only [List.length_append]; omega) ?_
        rw [← List.append_assoc]
        refine ih _ st (n + 1) f nw2 (by omega) hs ?_
        rw [show n + 1 + N = n + (N + 1) by omega]
        exact hf
/-- whatever waits behind it, the statement is refused so -/
def BadS (B loops deep blocks n : Nat) (f : Str × Str × Int) (d : PyData) : Prop := ∀ (st : List WIt) (par : Option Nat), st.length ≤ B + n → FailsL (⟨d, par, deep, loops, blocks⟩ :: st) n f
theorem bad_now {B loops deep blocks n : Nat} {f : Str × Str × Int} {d : PyData} (h : faultI (n : Int) (deep : Int) (loops : Int) (blocks : Int) d = some f) : BadS B loops deep blocks n f d := fun st par _ => fail_now h
/-- a statement that is fine itself: some of its parts are taken, the next is refused -/
theorem bad_part {B loops deep blocks n w : Nat} {f : Str × Str × Int} {d p : PyData} {pre post : List PyData} (hn : n < 400) (hd : deep ≤ 100) (hb : blocks ≤ 25) (hs : isStm d (loops : Int) = true) (e : partsD d = pre ++ p :: post)
    (wt : Nat → Nat) (hp : ∀ i q, pre[i]? = some q → OkS (loops + wl d) (deep + 1) (blocks + (if kindD d = "final" ∧ i = 1 then 1 else 0)) (wt i) q) (hw : ((List.range pre.length).map wt).sum = w) (hnw : n + 1 + w ≤ 400) (hq : B + post.length ≤ 20000)
    (h : BadS (B + post.length) (loops + wl d) (deep + 1) (blocks + (if kindD d = "final" ∧ pre.length = 1 then 1 else 0)) (n + 1 + w) f p) : BadS B loops deep blocks n f d := by
  intro st par hst
  have el : newIts ⟨d, par, deep, loops, blocks⟩ n = (pre.mapIdx fun i q => newIt ⟨d, par, deep, loops, blocks⟩ n i q) ++ newIt ⟨d, par, deep, loops, blocks⟩ n pre.length p :: (post.mapIdx fun i q => newIt ⟨d, par, deep, loops, blocks⟩ n (pre.length + 1 + i) q) := by
    unfold newIts
    rw [show (WIt.mk d par deep loops blocks).d = d from rfl, e, List.mapIdx_append, List.mapIdx_cons]
    congr 2
    · rw [Nat.zero_add]
    · congr 1
      funext i q
      rw [show i + 1 + pre.length = pre.length + 1 + i by omega]
  have op : OkL (pre.mapIdx fun i q => newIt ⟨d, par, deep, loops, blocks⟩ n i q) w := by
    have z := okL_parts (it := ⟨d, par, deep, loops, blocks⟩) (n := n) pre 0 wt fun i q hq => by
      rw [Nat.zero_add]
      exact hp i q hq
    rw [hw] at z
    have e2 : (pre.mapIdx fun i p => newIt ⟨d, par, deep, loops, blocks⟩ n (0 + i) p) = pre.mapIdx fun i q => newIt ⟨d, par, deep, loops, blocks⟩ n i q := by
      congr 1
      funext i p
      rw [Nat.zero_add]
    rw [e2] at z
    exact z
  have lo := okL_len op
  rw [List.length_mapIdx] at lo
  refine fail_step ⟨hn, hd, hb, hs⟩ ?_ ?_
  · rw [el]
    simp only [List.length_append, List.length_mapIdx, List.length_cons]
    omega
  · rw [el, List.append_assoc, List.cons_append]
    refine fail_pass w _ _ (n + 1) f op hnw ?_ (h _ _ ?_)
    · simp only [List.length_append, List.length_mapIdx, List.length_cons]
      omega
    · simp only [List.length_append, List.length_mapIdx]
      omega
theorem fails_of {f : Str × Str × Int} {d : PyData} (h : BadS 0 0 1 0 0 f d) : ∃ N, Fails N [⟨d, none, 1, 0, 0⟩] [] f := h [] none (by simp) [] rfl

end Fc

set_option maxRecDepth 100000
set_option maxHeartbeats 4000000
namespace Fc
open PySem PySem.Spec PyProof.Rows L2 FcR
open Evl (Ex)
/-! ### statements around statements (k04) -/
inductive GS : PyData → Prop
  | mk {e : PyData} (can : PyData.canLay0 e = true) (sz : szD e) (ps : ∀ x ∈ partsD e, GS x) (ns : ∀ x, e = .str x → x.length ≤ 100000) : GS e
theorem gs_parts {e : PyData} (h : GS e) : PyData.canLay0 e = true ∧ szD e ∧ ∀ x ∈ partsD e, GS x := by
  cases h with
  | mk a b c _ => exact ⟨a, b, c⟩
def W1 (e : PyData) : List PyData := [.tuple [.str "seq", .tuple [e]], .tuple [.str "while", .str "w", e], .tuple [.str "try", e, .tuple [.str "do", .str "h"]], .tuple [.str "final", e, .tuple [.str "do", .str "f"]], .tuple [.str "if", .str "i", e, .tuple [.str "raise"]]]
inductive Wr (d : PyData) : Nat → PyData → Prop
  | zero : Wr d 0 d
  | succ {k : Nat} {e e' : PyData} (h : Wr d k e) (m : e' ∈ W1 e) : Wr d (k + 1) e'
def blkD (d : PyData) : Nat → PyData
  | 0 => d
  | k + 1 => .tuple [.str "final", .tuple [.str "call", .str "x"], blkD d k]
def Fine (k b lo hi : Nat) (d : PyData) : Prop := ∀ loops deep blocks, deep + k ≤ 101 → blocks + b ≤ 25 → ∃ w, lo ≤ w ∧ w ≤ hi ∧ OkS loops deep blocks w d
theorem okS_one {loops deep blocks wa : Nat} {d a : PyData} (e : partsD d = [a]) (hs : isStm d (loops : Int) = true) (ha : OkS (loops + wl d) (deep + 1) blocks wa a) (hd : deep ≤ 100) (hk : blocks ≤ 25) : OkS loops deep blocks (1 + wa) d := by
  have z := OkS.mk (loops := loops) (deep := deep) (blocks := blocks) (d := d) (fun _ => wa) hs hd hk fun i p hp => by
    rw [e] at hp
    match i, hp with
    | 0, hp => cases hp; simpa using ha
  rw [e] at z
  simpa using z
theorem okS_two {loops deep blocks wa wb : Nat} {d a b : PyData} (e : partsD d = [a, b]) (hs : isStm d (loops : Int) = true) (ha : OkS (loops + wl d) (deep + 1) blocks wa a) (hb : OkS (loops + wl d) (deep + 1) (blocks + (if kindD d = "final" then 1 else 0)) wb b) (hd : deep ≤ 100) (hk : blocks ≤ 25) : OkS loops deep blocks (1 + (wa + wb)) d := by
  have z := OkS.mk (loops := loops) (deep := deep) (blocks := blocks) (d := d) (fun i => if i = 0 then wa else wb) hs hd hk fun i p hp => by
    rw [e] at hp
    match i, hp with
    | 0, hp => cases hp; simpa using ha
    | 1, hp => cases hp; simpa using hb
  rw [e] at z
  simpa [List.range_succ] using z
theorem okS_lf {loops deep blocks : Nat} {d : PyData} (e : partsD d = []) (hs : isStm d (loops : Int) = true) (hd : deep ≤ 100) (hk : blocks ≤ 25) : OkS loops deep blocks 1 d := by
  have z := OkS.mk (loops := loops) (deep := deep) (blocks := blocks) (d := d) (fun _ => 0) hs hd hk fun i p hp => by
    rw [e] at hp
    simp at hp
  rw [e] at z
  simpa using z
theorem fine_leaf {d : PyData} (e : partsD d = []) (hs : ∀ loops : Nat, isStm d (loops : Int) = true) : Fine 1 0 1 1 d := fun loops deep blocks h1 h2 => ⟨1, by omega, by omega, okS_lf e (hs loops) (by omega) (by omega)⟩
theorem fine_w1 {k b lo hi : Nat} {d e : PyData} (h : Fine k b lo hi d) (hk : 0 < k) (hb : 0 < b) (m : e ∈ W1 d) : Fine (k + 1) b (lo + 1) (hi + 2) e := by
  intro loops deep blocks h1 h2
  have lf : ∀ (x : PyData) (blocks' : Nat), partsD x = [] → isStm x (loops : Int) = true → blocks' ≤ 25 → OkS loops (deep + 1) blocks' 1 x := fun x b' e1 e2 e3 => okS_lf e1 e2 (by omega) (by omega)
  have le1 : ∀ (p : Prop) [Decidable p], blocks + (if p then 1 else 0) ≤ 25 := fun p _ => by split <;> omega
  simp only [W1, List.mem_cons, List.not_mem_nil, or_false] at m
  rcases m with rfl | rfl | rfl | rfl | rfl
  · obtain ⟨w, l1, l2, ok⟩ := h loops (deep + 1) blocks (by omega) h2
    exact ⟨_, by omega, by omega, okS_one rfl rfl ok (by omega) (by omega)⟩
  · obtain ⟨w, l1, l2, ok⟩ := h (loops + 1) (deep + 1) blocks (by omega) h2
    exact ⟨_, by omega, by omega, okS_one rfl (show nameOk "w" = true by decide +kernel) ok (by omega) (by omega)⟩
  · obtain ⟨w, l1, l2, ok⟩ := h loops (deep + 1) blocks (by omega) h2
    exact ⟨_, by omega, by omega, okS_two rfl rfl ok (lf _ _ rfl (show nameOk "h" = true by decide +kernel) (le1 _)) (by omega) (by omega)⟩
  · obtain ⟨w, l1, l2, ok⟩ := h loops (deep + 1) blocks (by omega) h2
    exact ⟨_, by omega, by omega, okS_two rfl rfl ok (lf _ _ rfl (show nameOk "f" = true by decide +kernel) (le1 _)) (by omega) (by omega)⟩
  · obtain ⟨w, l1, l2, ok⟩ := h loops (deep + 1) blocks (by omega) h2
    exact ⟨_, by omega, by omega, okS_two rfl (show nameOk "i" = true by decide +kernel) ok (lf _ _ rfl rfl (le1 _)) (by omega) (by omega)⟩
theorem Fine.mono {k b lo hi b' : Nat} {d : PyData} (h : Fine k b lo hi d) (e : b ≤ b') : Fine k b' lo hi d := fun l d' bl h1 h2 => h l d' bl h1 (by omega)
theorem fine_wr {k b lo hi : Nat} {d : PyData} (h : Fine k b lo hi d) (hk : 0 < k) (hb : 0 < b) {m : Nat} {e : PyData} (w : Wr d m e) : Fine (k + m) b (lo + m) (hi + 2 * m) e := by
  induction w with
  | zero => exact h
  | succ w' me ih => exact fine_w1 ih (Nat.lt_of_lt_of_le hk (Nat.le_add_right ..)) hb me
theorem fine_blk {k b lo hi : Nat} {d : PyData} (h : Fine k b lo hi d) (hk : 0 < k) : ∀ m : Nat, Fine (k + m) (b + m) (lo + 2 * m) (hi + 2 * m) (blkD d m)
  | 0 => h
  | m + 1 => fun loops deep blocks h1 h2 => by
    obtain ⟨w, l1, l2, ok⟩ := fine_blk h hk m loops (deep + 1) (blocks + 1) (by omega) (by omega)
    refine ⟨_, ?_, ?_, okS_two (d := blkD d (m + 1)) rfl rfl (okS_lf (d := .tuple [.str "call", .str "x"]) rfl (show nameOk "x" = true by decide +kernel) (by omega) (by omega)) ok (by omega) (by omega)⟩ <;> omega
/-! .. and what is refused -/
theorem BadS.mono {B B' loops deep blocks n : Nat} {f : Str × Str × Int} {d : PyData} (h : BadS B loops deep blocks n f d) (e : B' ≤ B) : BadS B' loops deep blocks n f d := fun st par hs => h st par (by omega)
theorem bad_head {B loops deep blocks n : Nat} {f : Str × Str × Int} {d p : PyData} {post : List PyData} (hn : n < 400) (hd : deep ≤ 100) (hb : blocks ≤ 25) (hs : isStm d (loops : Int) = true) (e : partsD d = p :: post) (hq : B + post.length ≤ 20000)
    (h : BadS (B + post.length) (loops + wl d) (deep + 1) blocks (n + 1) f p) : BadS B loops deep blocks n f d := by
  refine bad_part (pre := []) (w := 0) hn hd hb hs e (fun _ => 0) (fun i q z => by simp at z) rfl (by omega) hq ?_
  rw [if_neg (by simp)]
  exact h
theorem bad_w1 {B deep blocks n : Nat} {f : Str × Str × Int} {d e : PyData} (hn : n < 400) (hd : deep ≤ 100) (hb : blocks ≤ 25) (hB : B ≤ 10000) (h : ∀ loops, BadS (B + 1) loops (deep + 1) blocks (n + 1) f d) (m : e ∈ W1 d) (loops : Nat) : BadS B loops deep blocks n f e := by
  simp only [W1, List.mem_cons, List.not_mem_nil, or_false] at m
  rcases m with rfl | rfl | rfl | rfl | rfl
  · exact bad_head (post := []) hn hd hb rfl rfl (by simp; omega) ((h _).mono (by simp))
  · exact bad_head (post := []) hn hd hb (show nameOk "w" = true by decide +kernel) rfl (by simp; omega) ((h _).mono (by simp))
  · exact bad_head (post := [_]) hn hd hb rfl rfl (by simp; omega) (h _)
  · exact bad_head (post := [_]) hn hd hb rfl rfl (by simp; omega) (h _)
  · exact bad_head (post := [_]) hn hd hb (show nameOk "i" = true by decide +kernel) rfl (by simp; omega) (h _)
theorem bad_wr {deep blocks n m B : Nat} {f : Str × Str × Int} {d e : PyData} (w : Wr d m e) (hn : n + m ≤ 400) (hd : deep + m ≤ 101) (hb : blocks ≤ 25) (hB : B + m ≤ 10000) (h : ∀ loops, BadS (B + m) loops (deep + m) blocks (n + m) f d) : ∀ loops, BadS B loops deep blocks n f e := by
  induction w generalizing B deep n with
  | zero => exact h
  | @succ k e1 e2 w' me ih =>
    intro loops
    refine bad_w1 (by omega) (by omega) hb (by omega) (ih (by omega) (by omega) (by omega) fun l => ?_) me loops
    have z := h l
    rw [show B + 1 + k = B + (k + 1) by omega, show deep + 1 + k = deep + (k + 1) by omega, show n + 1 + k = n + (k + 1) by omega]
    exact z
theorem bad_blk {B deep blocks n m : Nat} {f : Str × Str × Int} {d : PyData} (hn : n + 2 * m ≤ 400) (hd : deep + m ≤ 100) (hb : blocks + m ≤ 26) (hB : B ≤ 10000) (h : ∀ loops, BadS B loops (deep + m) (blocks + m) (n + 2 * m) f d) : ∀ loops, BadS B loops deep blocks n f (blkD d m) := by
  induction m generalizing deep blocks n with
  | zero => exact h
  | succ k ih =>
    intro loops
    refine bad_part (d := blkD d (k + 1)) (pre := [.tuple [.str "call", .str "x"]]) (p := blkD d k) (post := []) (w := 1) (by omega) (by omega) (by omega) rfl rfl (fun _ => 1) (fun i q z => ?_) rfl (by omega) (by simp; omega) ?_
    · match i, z with
      | 0, z =>
        cases z
        exact okS_lf rfl (show nameOk "x" = true by decide +kernel) (by omega) (by simp; omega)
    · have z := ih (deep := deep + 1) (blocks := blocks + 1) (n := n + 2) (by omega) (by omega) (by omega) (fun l => by
        have y := h l
        rw [show deep + 1 + k = deep + (k + 1) by omega, show blocks + 1 + k = blocks + (k + 1) by omega, show n + 2 + 2 * k = n + 2 * (k + 1) by omega]
        exact y) (loops + 0)
      exact z
theorem blk_add (d : PyData) (a : Nat) : ∀ b, blkD (blkD d a) b = blkD d (b + a)
  | 0 => by rw [Nat.zero_add] <;> rfl
  | b + 1 => by
    rw [show b + 1 + a = (b + a) + 1 by omega]
    show PyData.tuple [.str "final", .tuple [.str "call", .str "x"], blkD (blkD d a) b] = PyData.tuple [.str "final", .tuple [.str "call", .str "x"], blkD d (b + a)]
    rw [blk_add d a b]

end Fc

set_option maxRecDepth 100000
set_option maxHeartbeats 4000000
namespace Fc
open PySem PySem.Spec PyProof.Rows L2 FcR
open Evl (Ex)
/-! ### what is said of a statement (k04) -/
inductive Says (d : PyData) : PyData → Prop
  | made {N : Nat} {fin : List Row} (b : Builds N [⟨d, none, 1, 0, 0⟩] [] fin) : Says d (.list [.str "made", .int (fin.length : Int)])
  | lim {N : Nat} {n : Int} (b : Fails N [⟨d, none, 1, 0, 0⟩] [] ("LimitExceeded", "limit", n)) : Says d (.int n)
  | inv {N : Nat} {n : Int} (b : Fails N [⟨d, none, 1, 0, 0⟩] [] ("InvalidCode", "number", n)) : Says d (.list [.int n])
theorem says_ok {w : Nat} {d : PyData} (ok : OkS 0 1 0 w d) (hw : w ≤ 400) : Says d (.list [.str "made", .int (w : Int)]) := by
  obtain ⟨fin, b, l⟩ := builds_of w [⟨d, none, 1, 0, 0⟩] [] (by have := OkL.cons (it := ⟨d, none, 1, 0, 0⟩) ok .nil; simpa using this) (by simp; omega)
  have e : fin.length = w := by rw [l]; simp
  have z := Says.made b
  rw [e] at z
  exact z
theorem says_lim {d : PyData} {n : Int} (h : BadS 0 0 1 0 0 ("LimitExceeded", "limit", n) d) : Says d (.int n) := by
  obtain ⟨N, f⟩ := fails_of h
  exact .lim f
theorem says_inv {d : PyData} {n : Int} (h : BadS 0 0 1 0 0 ("InvalidCode", "number", n) d) : Says d (.list [.int n]) := by
  obtain ⟨N, f⟩ := fails_of h
  exact .inv f
/-! seqs -/
theorem parts_seq (l : List PyData) : partsD (.tuple [.str "seq", .tuple l]) = l.take 401 := rfl
theorem ok_seq {loops deep blocks : Nat} {l : List PyData} (h0 : l ≠ []) (hl : l.length ≤ 401) (hd : deep ≤ 100) (hb : blocks ≤ 25) (h : ∀ q ∈ l, OkS loops (deep + 1) blocks 1 q) : OkS loops deep blocks (1 + l.length) (.tuple [.str "seq", .tuple l]) := by
  have hs : isStm (.tuple [.str "seq", .tuple l]) (loops : Int) = true := by
    cases l with
    | nil => exact absurd rfl h0
    | cons a l => rfl
  have z := OkS.mk (loops := loops) (deep := deep) (blocks := blocks) (d := .tuple [.str "seq", .tuple l]) (fun _ => 1) hs hd hb fun i p hp => by
    have hp : (l.take 401)[i]? = some p := hp
    exact h p (List.mem_of_mem_take (List.mem_of_getElem? hp))
  rw [parts_seq, List.take_of_length_le hl] at z
  have e : ((List.range l.length).map fun _ => 1).sum = l.length := by
    generalize l.length = n
    induction n with
    | zero => rfl
    | succ n ih => rw [List.range_succ, List.map_append, List.sum_append, ih]; rfl
  rw [e] at z
  exact z
theorem bad_seq {pre post : List PyData} {p : PyData} {f : Str × Str × Int} (hp : ∀ q ∈ pre, partsD q = [] ∧ isStm q (0 : Int) = true) (hl : pre.length ≤ 399) (h : BadS 400 0 2 0 (1 + pre.length) f p) : BadS 0 0 1 0 0 f (.tuple [.str "seq", .tuple (pre ++ p :: post)]) := by
  have e : partsD (.tuple [.str "seq", .tuple (pre ++ p :: post)]) = pre ++ p :: post.take (400 - pre.length) := by
    rw [parts_seq, List.take_append, List.take_of_length_le (by omega), show 401 - pre.length = (400 - pre.length) + 1 by omega, List.take_succ_cons]
  have hs : isStm (.tuple [.str "seq", .tuple (pre ++ p :: post)]) ((0 : Nat) : Int) = true := by
    cases pre with
    | nil => rfl
    | cons a l => rfl
  refine bad_part (w := pre.length) (by omega) (by omega) (by omega) hs e (fun _ => 1) (fun i q hq => ?_) ?_ (by omega) (by rw [List.length_take]; omega) ?_
  · obtain ⟨e1, e2⟩ := hp q (List.mem_of_getElem? hq)
    exact okS_lf (loops := 0) (deep := 2) (blocks := 0) e1 e2 (by omega) (by omega)
  · generalize pre.length = n
    induction n with
    | zero => rfl
    | succ n ih => rw [List.range_succ, List.map_append, List.sum_append, ih]; rfl
  · have z := h.mono (B' := 0 + (post.take (400 - pre.length)).length) (by rw [List.length_take]; omega)
    rw [show 0 + 1 + pre.length = 1 + pre.length by omega]
    exact z
/-! what can be laid -/
theorem gs_leaf {d : PyData} (c : PyData.canLay0 d = true) (s : szD d) (e : partsD d = []) (ns : ∀ x, d = .str x → x.length ≤ 100000 := by intro x e; cases e) : GS d := .mk c s (fun x hx => by rw [e] at hx; cases hx) ns
theorem gs_can {d : PyData} (h : GS d) : PyData.canLay0 d = true := (gs_parts h).1
theorem gs_nm {k x : Str} (hk : PyData.canLay0 (.str k) = true) (hx : PyData.canLay0 (.str x) = true) (l : x.length ≤ 100000) (e : partsD (.tuple [.str k, .str x]) = []) : GS (.tuple [.str k, .str x]) :=
  gs_leaf (by show (PyData.canLay0 (.str k) && (PyData.canLay0 (.str x) && true)) = true; rw [hk, hx] <;> rfl) (fun k' y r z => by cases z; exact l) e
theorem gs_str {d : PyData} (h : GS d) : ∀ x, d = .str x → x.length ≤ 100000 := by
  cases h with
  | mk a b c ns => exact ns
theorem gs_w1 {d e : PyData} (h : GS d) (m : e ∈ W1 d) : GS e := by
  have c := gs_can h
  have gh : GS (.tuple [.str "do", .str "h"]) := gs_nm (by decide +kernel) (by decide +kernel) (by decide +kernel) rfl
  have gf : GS (.tuple [.str "do", .str "f"]) := gs_nm (by decide +kernel) (by decide +kernel) (by decide +kernel) rfl
  have gr : GS (.tuple [.str "raise"]) := gs_leaf (by kernel_rfl) (fun k y r e => by cases e) rfl
  simp only [W1, List.mem_cons, List.not_mem_nil, or_false] at m
  rcases m with rfl | rfl | rfl | rfl | rfl
  · refine .mk ?_ (fun k y r e => by cases e) (fun x hx => ?_) (fun x e => by cases e)
    · show (PyData.canLay0 (.str "seq") && ((PyData.canLay0 d && true) && true)) = true
      rw [c]
      kernel_rfl
    · have hx : x ∈ [d] := hx
      rw [List.mem_singleton.mp hx]
      exact h
  · refine .mk ?_ (fun k y r e => by cases e; decide +kernel) (fun x hx => ?_) (fun x e => by cases e)
    · show (PyData.canLay0 (.str "while") && (PyData.canLay0 (.str "w") && (PyData.canLay0 d && true))) = true
      rw [c]
      kernel_rfl
    · have hx : x ∈ [d] := hx
      rw [List.mem_singleton.mp hx]
      exact h
  · refine .mk ?_ (fun k y r e => ?_) (fun x hx => ?_) (fun x e => by cases e)
    · show (PyData.canLay0 (.str "try") && (PyData.canLay0 d && (PyData.canLay0 (.tuple [.str "do", .str "h"]) && true))) = true
      rw [c, gs_can gh]
      kernel_rfl
    · cases e; exact (gs_str h) _ rfl
    · have hx : x ∈ [d, .tuple [.str "do", .str "h"]] := hx
      simp only [List.mem_cons, List.not_mem_nil, or_false] at hx
      rcases hx with rfl | rfl
      · exact h
      · exact gh
  · refine .mk ?_ (fun k y r e => ?_) (fun x hx => ?_) (fun x e => by cases e)
    · show (PyData.canLay0 (.str "final") && (PyData.canLay0 d && (PyData.canLay0 (.tuple [.str "do", .str "f"]) && true))) = true
      rw [c, gs_can gf]
      kernel_rfl
    · cases e; exact (gs_str h) _ rfl
    · have hx : x ∈ [d, .tuple [.str "do", .str "f"]] := hx
      simp only [List.mem_cons, List.not_mem_nil, or_false] at hx
      rcases hx with rfl | rfl
      · exact h
      · exact gf
  · refine .mk ?_ (fun k y r e => by cases e; decide +kernel) (fun x hx => ?_) (fun x e => by cases e)
    · show (PyData.canLay0 (.str "if") && (PyData.canLay0 (.str "i") && (PyData.canLay0 d && (PyData.canLay0 (.tuple [.str "raise"]) && true)))) = true
      rw [c, gs_can gr]
      kernel_rfl
    · have hx : x ∈ [d, .tuple [.str "raise"]] := hx
      simp only [List.mem_cons, List.not_mem_nil, or_false] at hx
      rcases hx with rfl | rfl
      · exact h
      · exact gr
theorem gs_wr {d e : PyData} {m : Nat} (h : GS d) (w : Wr d m e) : GS e := by
  induction w with
  | zero => exact h
  | succ _ me ih => exact gs_w1 ih me
theorem gs_blk {d : PyData} (h : GS d) : ∀ m, GS (blkD d m)
  | 0 => h
  | m + 1 => by
    have gc : GS (.tuple [.str "call", .str "x"]) := gs_nm (by decide +kernel) (by decide +kernel) (by decide +kernel) rfl
    refine .mk ?_ (fun k y r e => by cases e) (fun x hx => ?_) (fun x e => by cases e)
    · show (PyData.canLay0 (.str "final") && (PyData.canLay0 (.tuple [.str "call", .str "x"]) && (PyData.canLay0 (blkD d m) && true))) = true
      rw [gs_can gc, gs_can (gs_blk h m)]
      kernel_rfl
    · have hx : x ∈ [.tuple [.str "call", .str "x"], blkD d m] := hx
      simp only [List.mem_cons, List.not_mem_nil, or_false] at hx
      rcases hx with rfl | rfl
      · exact gc
      · exact gs_blk h m
theorem gs_seq {l : List PyData} (h : ∀ x ∈ l, GS x) : GS (.tuple [.str "seq", .tuple l]) := by
  refine .mk ?_ (fun k y r e => by cases e) (fun x hx => ?_) (fun x e => by cases e)
  · have c : PyData.canLayAll0 l = true := canAll fun d hd => gs_can (h d hd)
    show (PyData.canLay0 (.str "seq") && (PyData.canLayAll0 l && true)) = true
    rw [c]
    kernel_rfl
  · have hx : x ∈ l.take 401 := hx
    exact h x (List.mem_of_mem_take hx)

end Fc

set_option maxRecDepth 100000
set_option maxHeartbeats 4000000
namespace Fc
open PySem PySem.Spec PyProof.Rows L2 FcR
open Evl (Ex)
def sp_len (K : PySem.W.Frag) : Sp := fun vs H Q _ => ∃ (F : Hp) (A : CAd) (rows : List Row), vs = [.ref A.p] ∧ CodeH K F F A rows ∧ Ex F H ∧ Q (.int (rows.length : Int)) H
section
variable {P : Program} {w : World} {h : Heap} {K : PySem.W.Frag} {mg : Str → Option Value} {base : Heap}
abbrev N_Code___len__ : List Str := ["self"]
theorem sc_Code___len__ : FnScope N_Code___len__ ["self"] (defScope sd_Code___len__) := ⟨rfl, rfl, rfl, by decide +kernel, rfl, by decide +kernel, by decide +kernel⟩
theorem ok_Code___len__ (T : Tx w h K mg) : Ok P w K mg base 1 ("Code", some "__len__") ["self"] (sp_len K) := by
  obtain ⟨fd, F⟩ := F_Code___len__ T
  refine ⟨fd, ?_, F.bindsN (fun _ _ _ _ _ _ us hl => match us, hl with | [_], _ => rfl), F.kp⟩
  refine F.ok sc_Code___len__ (fun vs H Q E h => ?_) (fun cdv A outer s H vs Q E hr h => ?_)
  · obtain ⟨F, A, rows, rfl, C, xF, q⟩ := h
    rfl
  · obtain ⟨F, A, rows, rfl, C, xF, q⟩ := h
    refine ⟨_, PSs.nox (pss_one (ps_ret (pe_callB call_len_seq rfl (fr_len T) b_len (pa_cons (pe_fld (pv 0) rfl) pa_nil)))), ?_⟩
    obtain ⟨vs, C1, _⟩ := C.ex (Evl.Ex.refl _) xF
    refine ⟨_, rfl, A.p, _, _, _, _, rfl, C1.ob, c_Code T, na_Code_kinds T, fl_Code_kinds _ _ _ _ _, A.a2, _, rfl, .inl (Evl.sq_of C1.h2), ?_⟩
    rw [List.length_map]
    exact q
end

end Fc

set_option maxRecDepth 100000
set_option maxHeartbeats 4000000
namespace Fc
open PySem PySem.Spec PyProof.Rows L2 FcR
open Evl (Ex)
/-! ### what all laws draw by -/
def sp_cell (K : PySem.W.Frag) : Sp := fun vs H Q _ => ∃ (a : Addr) (ns : List Int) (k : Nat), vs = [.ref a, .int (k : Int)] ∧ SqL K H a (ns.map V.int) ∧ Q (.int (ns.getD k 0)) H
def sp_source : Sp := fun vs H Q _ => ∃ c : Int, vs = [.int c] ∧ ∀ (p : Addr) (x y : Int), H p = none → Q (.ref p) (upd H p (.lst [.int x, .int y, .int 0]))
def sp_draw : Sp := fun vs H Q _ => ∃ (p : Addr) (x y z m : Int), vs = [.ref p, .int m] ∧ H p = some (.lst [.int x, .int y, .int z]) ∧ 0 < m ∧ m < 1073741824 ∧
  ∀ x' y' z' v : Int, 0 ≤ v → v < m → Q (.int v) (upd H p (.lst [.int x', .int y', .int z']))
section
variable {P : Program} {w : World} {h : Heap} {K : PySem.W.Frag} {mg : Str → Option Value} {base : Heap}
abbrev N_law_cell_at : List Str := ["_law_script", "_law_k"]
theorem sc_law_cell_at : FnScope N_law_cell_at ["_law_script", "_law_k"] (defScope sd_law_cell_at) := ⟨rfl, rfl, rfl, by decide +kernel, rfl, by decide +kernel, by decide +kernel⟩
theorem ok_law_cell_at (T : Tx w h K mg) : Ok P w K mg base 1 ("_law_cell_at", none) ["_law_script", "_law_k"] (sp_cell K) := by
  obtain ⟨fd, F⟩ := F_law_cell_at T
  refine ⟨fd, ?_, F.bindsN (fun _ _ _ _ _ _ us hl => match us, hl with | [_, _], _ => rfl), F.kp⟩
  refine F.ok sc_law_cell_at (fun vs H Q E h => ?_) (fun cdv A outer s H vs Q E hr h => ?_)
  · obtain ⟨a, ns, k, rfl, hs, q⟩ := h
    rfl
  · obtain ⟨a, ns, k, rfl, hs, q⟩ := h
    refine ⟨_, PSs.nox (pss_one (ps_ret (pe_ifExp (pt_cmpR op_lt (pv 1) (pe_callB call_len_seq rfl (fr_len T) b_len (pa_cons (pv 0) pa_nil)) (nomark _)) (pe_ix ix_list (pv 0) (pv 1) (fun _ _ => rfl)) pe_int))), ?_⟩
    refine ⟨_, rfl, _, rfl, a, _, rfl, .inl hs, _, _, rfl, rfl, _, rfl, ite_of (fun h1 => ?_) (fun h1 => ?_)⟩
    · have hk : k < ns.length := by
        have := of_decide_eq_true h1
        rw [List.length_map] at this
        omega
      refine ⟨_, rfl, _, rfl, a, _, _, .int (ns.getD k 0), rfl, rfl, hs, atI_nat ?_, q⟩
      rw [List.getElem?_map, List.getD_eq_getElem?_getD, List.getElem?_eq_getElem hk] <;> rfl
    · have hk : ns.length ≤ k := by
        have := of_decide_eq_false h1
        rw [List.length_map] at this
        omega
      have e : ns.getD k 0 = 0 := by rw [List.getD_eq_getElem?_getD, List.getElem?_eq_none hk] <;> rfl
      rw [e] at q
      exact q
abbrev N_law_source_of : List Str := ["_law_cell"]
theorem sc_law_source_of : FnScope N_law_source_of ["_law_cell"] (defScope sd_law_source_of) := ⟨rfl, rfl, rfl, by decide +kernel, rfl, by decide +kernel, by decide +kernel⟩
theorem ok_law_source_of (T : Tx w h K mg) : Ok P w K mg base 1 ("_law_source_of", none) ["_law_cell"] (sp_source) := by
  obtain ⟨fd, F⟩ := F_law_source_of T
  refine ⟨fd, ?_, F.bindsN (fun _ _ _ _ _ _ us hl => match us, hl with | [_], _ => rfl), F.kp⟩
  refine F.ok sc_law_source_of (fun vs H Q E h => ?_) (fun cdv A outer s H vs Q E hr h => ?_)
  · obtain ⟨c, rfl, q⟩ := h
    rfl
  · obtain ⟨c, rfl, q⟩ := h
    refine ⟨_, PSs.nox (pss_one (ps_ret (pe_lst (pa_cons (pe_op op_mul (pv 0) (pe_callTy call_int1 rfl (fr_int T) b_int (pa_cons (pe_cmpR op_ge (pv 0) (pe_op op_pow pe_int pe_int) (nomark _)) pa_nil))) (pa_cons (pe_op op_add (pe_op op_mod (pe_callTy call_int1 rfl (fr_int T) b_int (pa_cons (pv 0) pa_nil)) pe_int) pe_int) (pa_cons pe_int pa_nil)))))), ?_⟩
    refine ⟨_, rfl, _, rfl, _, _, rfl, rfl, (by unfold CPow; decide), _, _, rfl, rfl, .inr ⟨_, rfl, _, _, rfl, rfl, ?_, _, rfl, .inl ⟨_, rfl, _, _, rfl, rfl, (by first | (show (0 : Int) < _; decide) | (show (0 : Int) < _ ∧ _ < (1073741824 : Int); decide)), _, _, rfl, rfl, sz (by simp), fun p hp => q p _ _ hp⟩⟩⟩
    refine .inr ?_
    by_cases h1 : decide ((10 : Int) ^ (18 : Int).toNat ≤ c) = true
    · rw [if_pos h1] <;> decide
    · rw [if_neg h1] <;> decide
abbrev N_law_draw : List Str := ["_law_source", "_law_many", "_law_found", "_law_mixed"]
theorem sc_law_draw : FnScope N_law_draw ["_law_source", "_law_many"] (defScope sd_law_draw) := ⟨rfl, rfl, rfl, by decide +kernel, rfl, by decide +kernel, by decide +kernel⟩
theorem ok_law_draw (T : Tx w h K mg) : Ok P w K mg base 1 ("_law_draw", none) ["_law_source", "_law_many"] (sp_draw) := by
  obtain ⟨fd, F⟩ := F_law_draw T
  refine ⟨fd, ?_, F.bindsN (fun _ _ _ _ _ _ us hl => match us, hl with | [_, _], _ => rfl), F.kp⟩
  refine F.ok sc_law_draw (fun vs H Q E h => ?_) (fun cdv A outer s H vs Q E hr h => ?_)
  · obtain ⟨p, x, y, z, m, rfl, hp, h1, h2, q⟩ := h
    rfl
  · obtain ⟨p, x, y, z, m, rfl, hp, h1, h2, q⟩ := h
    refine ⟨_, PSs.nox (pss_cons (ps_if (pt_cmpR op_gt (pe_ix ix_list (pv 0) pe_int (fun _ _ => rfl)) pe_int (nomark _)) (pss_cons (ps_set (i := 2) sc_law_draw.nd rfl (Or.inl rfl) (pe_op op_mod (pe_callTy call_int1 rfl (fr_int T) b_int (pa_cons (pe_ix ix_list (pv 0) pe_int (fun _ _ => rfl)) pa_nil)) (pv 1))) (pss_cons (ps_asg (pe_op op_fdiv (pe_ix ix_list (pv 0) pe_int (fun _ _ => rfl)) (pv 1)) (pg_sub (pv 0) pe_int set_list)) (pss_one (ps_ret (pv 2))))) pss_nil) (pss_cons (ps_asg (pe_op op_add (pe_ix ix_list (pv 0) pe_int (fun _ _ => rfl)) pe_int) (pg_sub (pv 0) pe_int set_list)) (pss_cons (ps_set (i := 3) sc_law_draw.nd rfl (Or.inl rfl) (pe_op op_mod (pe_callTy call_int1 rfl (fr_int T) b_int (pa_cons (pe_op op_mul (pe_op op_add (pe_ix ix_list (pv 0) pe_int (fun _ _ => rfl)) (pe_op op_mul pe_int (pe_ix ix_list (pv 0) pe_int (fun _ _ => rfl)))) pe_int) pa_nil)) pe_int)) (pss_cons (ps_set (i := 3) sc_law_draw.nd rfl (Or.inl rfl) (pe_op op_mod (pe_callTy call_int1 rfl (fr_int T) b_int (pa_cons (pe_op op_mul (pv 3) (pe_op op_add (pe_op op_add (pe_op op_fdiv (pv 3) pe_int) pe_int) (pe_ix ix_list (pv 0) pe_int (fun _ _ => rfl)))) pa_nil)) pe_int)) (pss_one (ps_ret (pe_op op_mod (pe_callTy call_int1 rfl (fr_int T) b_int (pa_cons (pe_op op_fdiv (pe_op op_mod (pe_callTy call_int1 rfl (fr_int T) b_int (pa_cons (pe_op op_mul (pv 3) (pe_op op_add (pe_op op_fdiv (pv 3) pe_int) pe_int)) pa_nil)) pe_int) pe_int) pa_nil)) (pv 1)))))))), ?_⟩
    have hs := Evl.sq_of (K := K) hp
    refine ⟨_, rfl, p, _, _, _, rfl, rfl, hs, rfl, _, _, rfl, rfl, _, rfl, ite_of (fun h3 => ?_) (fun h3 => ?_)⟩
    · refine ⟨_, rfl, p, _, _, _, rfl, rfl, hs, rfl, .inl ⟨_, rfl, _, rfl, _, _, rfl, rfl, h1, ?_⟩⟩
      refine ⟨_, rfl, p, _, _, _, rfl, rfl, hs, rfl, _, rfl, _, _, rfl, rfl, ⟨h1, h2⟩, _, rfl, p, _, _, 0, rfl, rfl, hp, rfl, ?_⟩
      exact ⟨_, rfl, q _ _ _ _ (Int.emod_nonneg _ (by omega)) (Int.emod_lt_of_pos _ h1)⟩
    · refine ⟨_, rfl, p, _, _, _, rfl, rfl, hs, rfl, _, _, rfl, rfl, _, rfl, p, _, _, 2, rfl, rfl, hp, rfl, ?_⟩
      have hs2 := Evl.sq_of (K := K) (upd_same (H := H) (a := p) (o := .lst [.int x, .int y, .int (z + 1)]))
      refine ⟨_, rfl, p, _, _, _, rfl, rfl, hs2, rfl, _, rfl, p, _, _, _, rfl, rfl, hs2, rfl, _, _, rfl, rfl, .inl (by show (-(2 ^ 64) < (8191 : Int) ∧ (8191 : Int) < 2 ^ 64); decide), _, _, rfl, rfl, _, _, rfl, rfl, .inr (by show (-(2 ^ 64) < (48271 : Int) ∧ (48271 : Int) < 2 ^ 64); decide), .inl ⟨_, rfl, _, _, rfl, rfl, (by first | (show (0 : Int) < _; decide) | (show (0 : Int) < _ ∧ _ < (1073741824 : Int); decide)), ?_⟩⟩
      generalize (y + 8191 * (z + 1)) * 48271 = r1
      have b1 := Int.emod_nonneg r1 (show (2147483647 : Int) ≠ 0 by decide)
      have b2 := Int.emod_lt_of_pos r1 (show (0 : Int) < 2147483647 by decide)
      refine ⟨_, rfl, _, rfl, _, _, rfl, rfl, (by first | (show (0 : Int) < _; decide) | (show (0 : Int) < _ ∧ _ < (1073741824 : Int); decide)), _, _, rfl, rfl, _, rfl, p, _, _, _, rfl, rfl, hs2, rfl, _, _, rfl, rfl, _, _, rfl, rfl, .inl (by omega), .inl ⟨_, rfl, _, _, rfl, rfl, (by first | (show (0 : Int) < _; decide) | (show (0 : Int) < _ ∧ _ < (1073741824 : Int); decide)), ?_⟩⟩
      generalize r1 % 2147483647 * (r1 % 2147483647 / 1021 + 69621 + (z + 1)) = r2
      have b3 := Int.emod_nonneg r2 (show (2147483587 : Int) ≠ 0 by decide)
      have b4 := Int.emod_lt_of_pos r2 (show (0 : Int) < 2147483587 by decide)
      refine ⟨_, rfl, _, rfl, _, _, rfl, rfl, (by first | (show (0 : Int) < _; decide) | (show (0 : Int) < _ ∧ _ < (1073741824 : Int); decide)), _, _, rfl, rfl, _, _, rfl, rfl, .inl (by omega), .inl ⟨_, rfl, _, _, rfl, rfl, (by first | (show (0 : Int) < _; decide) | (show (0 : Int) < _ ∧ _ < (1073741824 : Int); decide)), _, _, rfl, rfl, (by first | (show (0 : Int) < _; decide) | (show (0 : Int) < _ ∧ _ < (1073741824 : Int); decide)), .inl ⟨_, rfl, _, rfl, _, _, rfl, rfl, h1, ?_⟩⟩⟩
      exact q _ _ _ _ (Int.emod_nonneg _ (by omega)) (Int.emod_lt_of_pos _ h1)
end
def Src (H : Hp) (p : Addr) : Prop := ∃ x y z : Int, H p = some (.lst [.int x, .int y, .int z])

end Fc

set_option maxRecDepth 100000
set_option maxHeartbeats 4000000
namespace Fc
open PySem PySem.Spec PyProof.Rows L2 FcR
open Evl (Ex)
def S_Code (K : PySem.W.Frag) : Sp → Prop := fun sp => sp = sp_Code___init__ K ∨ sp = sp_Code___init__X K
def sp_said4 (K : PySem.W.Frag) : Sp := fun vs H Q _ => ∃ (F : Hp) (v : V) (d r : PyData), vs = [v] ∧ Dp K F v d ∧ Ex F H ∧ GS d ∧ Says d r ∧ ∀ (H' : Hp) (u : V), Ex H H' → Dp K H' u r → Q u H'
theorem Builds.fin_len {m : Nat} {st : List WIt} {rows fin : List Row} (b : Builds m st rows fin) : fin.length = rows.length + m := by
  induction b with
  | done => rfl
  | step ok h ih => rw [ih, addRow_len]; omega
section
variable {P : Program} {w : World} {h : Heap} {K : PySem.W.Frag} {mg : Str → Option Value} {base : Heap}
theorem heldCode (T : Tx w h K mg) : ∀ sp, S_Code K sp → FcX.HeldX P w K mg base 6 (He.fAd K ("Code", some "__init__")) sp := by
  rintro sp (rfl | rfl)
  · obtain ⟨fd, G, b, k⟩ := ok_Code___init__ (P := P) (base := base) T
    exact ⟨fd, _, G, k, b⟩
  · obtain ⟨fd, G, b, k⟩ := ok_Code___init__X (P := P) (base := base) T
    exact ⟨fd, _, G, k, b⟩
abbrev N_law_said : List Str := ["_law_statement", "_law_found", "e"]
theorem sc_law_said : FnScope N_law_said ["_law_statement"] (defScope sd_law_said) := ⟨rfl, rfl, rfl, by decide +kernel, rfl, by decide +kernel, by decide +kernel⟩
theorem ok_law_said (T : Tx w h K mg) : Ok P w K mg base 8 ("_law_said", none) ["_law_statement"] (sp_said4 K) := by
  obtain ⟨fd, F⟩ := F_law_said T
  refine ⟨fd, ?_, F.bindsN (fun _ _ _ _ _ _ us hl => match us, hl with | [_], _ => rfl), F.kp⟩
  obtain ⟨fd_Code___len__, G_Code___len__, bi_Code___len__, kp_Code___len__⟩ := ok_Code___len__ (P := P) (base := base) T
  refine F.ok sc_law_said (fun vs H Q E h => ?_) (fun cdv A outer s H vs Q E hr h => ?_)
  · obtain ⟨F, v, d, r, rfl, dv, xF, gs, sy, Qq⟩ := h
    rfl
  · obtain ⟨F, v, d, r, rfl, dv, xF, gs, sy, Qq⟩ := h
    refine ⟨_, PSs.nox (pss_cons (ps_set (i := 1) sc_law_said.nd rfl (Or.inl rfl) pe_str) (pss_cons (FcX.ps_try_mix rfl rfl sc_law_said.nd takes_none5 (fun W pn xe tk pw => (pss_one (ps_set (i := 1) sc_law_said.nd rfl (Or.inl rfl) (pe_lst (pa_cons pe_str (pa_cons (pe_callB (FcO.call_lenO G_Code___len__ (hr.mono (by decide)) (me_Code___len__ T) bi_Code___len__ passF) rfl (fr_len T) b_len (pa_cons (FcX.pe_makeS (heldCode (P := P) (base := base) T) (mk_Code T) (hr.mono (by decide)) rfl (g_Code T) tk (pa_cons (pv 0) pa_nil)) pa_nil)) pa_nil)))))) (.as (i := 2) rfl rfl ⟨rfl, by decide, .inl (g_InvalidCode T)⟩ (fun a oe cls d pn hz hf => (pss_one (ps_set (i := 1) sc_law_said.nd rfl (Or.inl rfl) (pe_lst (pa_cons (pe_xf (FcX.XC.xf (x_InvalidCode T)) (xi_InvalidCode T).no hz hf (pv 2)) pa_nil))))) (.as (i := 2) rfl rfl ⟨rfl, by decide, .inl (g_LimitExceeded T)⟩ (fun a oe cls d pn hz hf => (pss_one (ps_set (i := 1) sc_law_said.nd rfl (Or.inl rfl) (pe_xf (FcX.XC.xf (x_LimitExceeded T)) (xi_LimitExceeded T).no hz hf (pv 2))))) (.cons ⟨rfl, by decide, .inl (g_CopyError T)⟩ (fun a oe cls d pn hz hf => (pss_one (ps_set (i := 1) sc_law_said.nd rfl (Or.inl rfl) pe_str))) .nil)))) (pss_one (ps_ret (pv 1))))), ?_⟩
    cases sy with
    | @made N fin bd =>
      refine ⟨_, rfl, _, .inl rfl, fun p dx np nd ne => ?_⟩
      generalize e1 : upd (upd _ dx _) p _ = H1
      obtain ⟨x1, hq1⟩ := make_of e1 np nd
      clear e1
      refine ⟨F, p, dx, v, d, GS, N, fin, rfl, hq1, xF.trans x1, ex_none xF np, dv, fun e he => gs_parts he, gs, bd, fun A F2 H2 eA g2 C2 => ⟨rfl, ?_⟩⟩
      subst eA
      have C2' := C2
      obtain ⟨ws, cl, _⟩ := C2'
      have fl : fin.length ≤ 100000 := by
        rcases Builds.bd bd with z | z
        · subst z
          cases bd
        · have := Builds.fin_len bd
          omega
      refine ⟨A.p, _, _, rfl, g2.fh _ _ cl.ob, F2, A, fin, rfl, C2, g2.fh, ?_⟩
      refine ⟨_, rfl, by omega, sz (by simp), ?_⟩
      intro p3 n3
      generalize e3 : upd _ p3 _ = H3
      obtain ⟨x3, s3, o3⟩ := new_of e3 n3
      clear e3
      refine ⟨_, rfl, Qq H3 _ ?_ (.lst (Evl.sq_of s3) (.cons (.str _) (.cons (.int _) .nil)))⟩
      intro b o hb
      exact x3 _ _ (g2.kp b o (x1 _ _ hb) (fun z => by rw [z, np] at hb; cases hb))
    | @lim N n bd =>
      refine ⟨_, rfl, _, .inr rfl, fun p dx np nd ne => ?_⟩
      generalize e1 : upd (upd _ dx _) p _ = H1
      obtain ⟨x1, hq1⟩ := make_of e1 np nd
      clear e1
      refine ⟨F, p, dx, v, d, GS, N, _, rfl, hq1, xF.trans x1, ex_none xF np, dv, fun e he => gs_parts he, gs, bd, fun H2 dd k2 nd2 hd2 => ?_⟩
      have x2 : Ex H H2 := fun b o hb => k2 b o (x1 _ _ hb) (fun z => by rw [z, np] at hb; cases hb)
      refine ⟨false, FcX.xh_own (xh T) (c := "LimitExceeded") (d := "InvalidCode") (by decide) (by decide), fun z => (by cases z), fun _ => ?_⟩
      refine ⟨true, FcX.xh_own (xh T) (c := "LimitExceeded") (d := "LimitExceeded") (by decide) (by decide), fun _ a na => ?_, fun z => by cases z⟩
      refine ⟨_, rfl, rfl, rfl, dd, _, _, rfl, hd2, rfl, ?_⟩
      exact ⟨_, rfl, Qq H2 _ x2 (.int _)⟩
    | @inv N n bd =>
      refine ⟨_, rfl, _, .inr rfl, fun p dx np nd ne => ?_⟩
      generalize e1 : upd (upd _ dx _) p _ = H1
      obtain ⟨x1, hq1⟩ := make_of e1 np nd
      clear e1
      refine ⟨F, p, dx, v, d, GS, N, _, rfl, hq1, xF.trans x1, ex_none xF np, dv, fun e he => gs_parts he, gs, bd, fun H2 dd k2 nd2 hd2 => ?_⟩
      have x2 : Ex H H2 := fun b o hb => k2 b o (x1 _ _ hb) (fun z => by rw [z, np] at hb; cases hb)
      refine ⟨true, FcX.xh_own (xh T) (c := "InvalidCode") (d := "InvalidCode") (by decide) (by decide), fun _ a na => ?_, fun z => by cases z⟩
      refine ⟨_, rfl, rfl, rfl, dd, _, _, rfl, hd2, rfl, sz (by simp), ?_⟩
      intro p3 n3
      generalize e3 : upd _ p3 _ = H3
      obtain ⟨x3, s3, o3⟩ := new_of e3 n3
      clear e3
      exact ⟨_, rfl, Qq H3 _ (x2.trans x3) (.lst (Evl.sq_of s3) (.cons (.int _) .nil))⟩
end

end Fc

set_option maxRecDepth 100000
set_option maxHeartbeats 4000000
namespace Fc
open PySem PySem.Spec PyProof.Rows L2 FcR
open Evl (Ex)
def sp_oneV (K : PySem.W.Frag) : Sp := fun vs H Q _ => ∃ (p a : Addr) (xs : List V), vs = [.ref p, .ref a] ∧ Src H p ∧ H a = some (.lst xs) ∧ a ≠ p ∧ xs ≠ [] ∧ xs.length < 1000 ∧
  ∀ (H' : Hp) (x : V), x ∈ xs → Src H' p → (∀ b, b ≠ p → H' b = H b) → Q x H'
def sp_law (K : PySem.W.Frag) : Sp := fun vs H Q _ => ∃ (a : Addr) (ns : List Int), vs = [.ref a] ∧ ns.length ≤ 63 ∧ SqL K H a (ns.map V.int) ∧ ∀ H', Q (.bl true) H'
theorem cut_mem {xs : List V} {lo hi : Option Int} {x : V} (h : x ∈ cutV xs lo hi) : x ∈ xs := by
  unfold cutV at h
  exact List.mem_of_mem_drop (List.mem_of_mem_take h)
theorem src_kp {H H' : Hp} {p : Addr} (h : Src H p) (e : ∀ o, H p = some o → H' p = some o) : Src H' p := by
  obtain ⟨x, y, z, h⟩ := h
  exact ⟨x, y, z, e _ h⟩
section
variable {P : Program} {w : World} {h : Heap} {K : PySem.W.Frag} {mg : Str → Option Value} {base : Heap}
abbrev N_law_one : List Str := ["_law_source", "_law_some"]
theorem sc_law_one : FnScope N_law_one ["_law_source", "_law_some"] (defScope sd_law_one) := ⟨rfl, rfl, rfl, by decide +kernel, rfl, by decide +kernel, by decide +kernel⟩
theorem ok_law_oneV (T : Tx w h K mg) : Ok P w K mg base 2 ("_law_one", none) ["_law_source", "_law_some"] (sp_oneV K) := by
  obtain ⟨fd, F⟩ := F_law_one T
  refine ⟨fd, ?_, F.bindsN (fun _ _ _ _ _ _ us hl => match us, hl with | [_, _], _ => rfl), F.kp⟩
  obtain ⟨fd_law_draw, G_law_draw, bi_law_draw, kp_law_draw⟩ := ok_law_draw (P := P) (base := base) T
  refine F.ok sc_law_one (fun vs H Q E h => ?_) (fun cdv A outer s H vs Q E hr h => ?_)
  · obtain ⟨p, a, xs, rfl, ⟨x, y, z, hp⟩, ha, hne, hk, hl, q⟩ := h
    rfl
  · obtain ⟨p, a, xs, rfl, ⟨x, y, z, hp⟩, ha, hne, hk, hl, q⟩ := h
    refine ⟨_, PSs.nox (pss_one (ps_ret (pe_ix ix_list (pv 1) (pe_call G_law_draw (hr.mono (by decide)) rfl (g_law_draw T) kp_law_draw bi_law_draw .nil passF (pa_cons (pv 0) (pa_cons (pe_callB call_len_seq rfl (fr_len T) b_len (pa_cons (pv 1) pa_nil)) pa_nil))) (fun _ _ => rfl)))), ?_⟩
    have lk : 0 < xs.length := List.length_pos_iff.mpr hk
    refine ⟨_, rfl, _, rfl, _, rfl, a, _, rfl, .inl (Evl.sq_of ha), ?_⟩
    refine ⟨p, x, y, z, _, rfl, hp, (by omega), (by omega), fun x' y' z' v v0 v1 => ?_⟩
    generalize e1 : upd _ p _ = H1
    obtain ⟨s1, o1⟩ := set_of e1
    clear e1
    obtain ⟨j, rfl⟩ : ∃ j : Nat, v = (j : Int) := ⟨v.toNat, by omega⟩
    have hj : j < xs.length := by omega
    have ha1 : H1 a = some (.lst xs) := by rw [o1 a hne]; exact ha
    refine ⟨a, _, _, xs[j], rfl, rfl, Evl.sq_of ha1, atI_nat (List.getElem?_eq_getElem hj), ?_⟩
    exact q H1 _ (List.getElem_mem hj) ⟨x', y', z', s1⟩ o1
end

end Fc

set_option maxRecDepth 100000
set_option maxHeartbeats 4000000
namespace Fc
open PySem PySem.Spec PyProof.Rows L2 FcR
open Evl (Ex)
/-! ### statements around statements, made by the law -/
def sp_wrapped (K : PySem.W.Frag) : Sp := fun vs H Q _ => ∃ (F : Hp) (p : Addr) (v : V) (d : PyData) (m : Nat), vs = [.ref p, v, .int (m : Int)] ∧ Ex F H ∧ F p = none ∧ Src H p ∧ m < 1000 ∧ Dp K F v d ∧
  ∀ (F' H' : Hp) (v' : V) (d' : PyData), Gr (fun b => b = p) F H F' H' → F' p = none → Src H' p → Dp K F' v' d' → Wr d m d' → Q v' H'
def sp_blocks (K : PySem.W.Frag) : Sp := fun vs H Q _ => ∃ (F : Hp) (v : V) (d : PyData) (m : Nat), vs = [v, .int (m : Int)] ∧ Ex F H ∧ m < 1000 ∧ Dp K F v d ∧
  ∀ (F' H' : Hp) (v' : V), Gr (fun _ => False) F H F' H' → Dp K F' v' (blkD d m) → Q v' H'
section
variable {P : Program} {w : World} {h : Heap} {K : PySem.W.Frag} {mg : Str → Option Value} {base : Heap}
abbrev N_law_blocks : List Str := ["_law_inner", "_law_amount", "_law_k"]
theorem sc_law_blocks : FnScope N_law_blocks ["_law_inner", "_law_amount"] (defScope sd_law_blocks) := ⟨rfl, rfl, rfl, by decide +kernel, rfl, by decide +kernel, by decide +kernel⟩
theorem ok_law_blocks (T : Tx w h K mg) : Ok P w K mg base 1 ("_law_blocks", none) ["_law_inner", "_law_amount"] (sp_blocks K) := by
  obtain ⟨fd, F⟩ := F_law_blocks T
  refine ⟨fd, ?_, F.bindsN (fun _ _ _ _ _ _ us hl => match us, hl with | [_, _], _ => rfl), F.kp⟩
  refine F.ok sc_law_blocks (fun vs H Q E h => ?_) (fun cdv A outer s H vs Q E hr h => ?_)
  · obtain ⟨F, v, d, m, rfl, xF, hm, dv, Qq⟩ := h
    rfl
  · obtain ⟨F, v, d, m, rfl, xF, hm, dv, Qq⟩ := h
    refine ⟨_, PSs.nox (pss_cons (ps_for PassesOwn.never rfl (pi_range1 rfl (fr_range T) (pa_cons (pv 1) pa_nil)) (pg_name (i := 2) sc_law_blocks.nd rfl (Or.inl rfl)) (pss_one (ps_set (i := 0) sc_law_blocks.nd rfl (Or.inl rfl) (pe_tup (pa_cons pe_str (pa_cons (pe_tup (pa_cons pe_str (pa_cons pe_str pa_nil))) (pa_cons (pv 0) pa_nil))))))) (pss_one (ps_ret (pv 0)))), ?_⟩
    refine ⟨_, rfl, _, rfl, by omega, by omega, ?_⟩
    refine for_it (walk_range (lo := 0) (n := m)) (fun j σ' H' => ∃ (F' : Hp) (v' : V) (o : Option V), σ' = [some v', some (.int (m : Int)), o] ∧ Gr (fun _ => False) F H F' H' ∧ Dp K F' v' (blkD d j)) ?_ ?_ ?_ ?_
    · exact ⟨F, v, _, rfl, Gr.refl xF, dv⟩
    · exact fun _ _ _ _ _ => True.intro
    · rintro j vj σ' Hc H1 hj ⟨F1, v1, o1, rfl, g1, d1⟩ ⟨rfl, rfl⟩
      refine ⟨sz (by simp), ?_⟩
      intro p2 n2
      generalize e2 : upd _ p2 _ = H2
      obtain ⟨x2, s2, o2⟩ := new_of e2 n2
      clear e2
      refine ⟨_, rfl, sz (by simp), ?_⟩
      intro p3 n3
      generalize e3 : upd _ p3 _ = H3
      obtain ⟨x3, s3, o3⟩ := new_of e3 n3
      clear e3
      have g2 := g1.trans (Gr.frz g1.fh n2 s2 o2)
      have g3 := g2.trans (Gr.frz g2.fh n3 s3 o3)
      have e2 := (Gr.frz (M := fun _ => False) g1.fh n2 s2 o2).ff
      have e3 := (Gr.frz (M := fun _ => False) g2.fh n3 s3 o3).ff
      exact ⟨_, _, _, rfl, g3, .tup (Evl.st_of upd_same) (.cons (.str _) (.cons (.tup (Evl.st_of (e3 _ _ upd_same)) (.cons (.str _) (.cons (.str _) .nil))) (.cons (dp_ex (e2.trans e3) d1) .nil)))⟩
    · rintro σ' H1 ⟨F1, v1, o1, rfl, g1, d1⟩
      exact ⟨_, rfl, Qq F1 H1 v1 g1 d1⟩
abbrev N_law_wrapped : List Str := ["_law_source", "_law_inner", "_law_amount", "_law_k", "_law_some"]
theorem sc_law_wrapped : FnScope N_law_wrapped ["_law_source", "_law_inner", "_law_amount"] (defScope sd_law_wrapped) := ⟨rfl, rfl, rfl, by decide +kernel, rfl, by decide +kernel, by decide +kernel⟩
theorem ok_law_wrapped (T : Tx w h K mg) : Ok P w K mg base 3 ("_law_wrapped", none) ["_law_source", "_law_inner", "_law_amount"] (sp_wrapped K) := by
  obtain ⟨fd, F⟩ := F_law_wrapped T
  refine ⟨fd, ?_, F.bindsN (fun _ _ _ _ _ _ us hl => match us, hl with | [_, _, _], _ => rfl), F.kp⟩
  obtain ⟨fd_law_one, G_law_one, bi_law_one, kp_law_one⟩ := ok_law_oneV (P := P) (base := base) T
  refine F.ok sc_law_wrapped (fun vs H Q E h => ?_) (fun cdv A outer s H vs Q E hr h => ?_)
  · obtain ⟨F, p, v, d, m, rfl, xF, fp, sr, hm, dv, Qq⟩ := h
    rfl
  · obtain ⟨F, p, v, d, m, rfl, xF, fp, sr, hm, dv, Qq⟩ := h
    refine ⟨_, PSs.nox (pss_cons (ps_for PassesOwn.never rfl (pi_range1 rfl (fr_range T) (pa_cons (pv 2) pa_nil)) (pg_name (i := 3) sc_law_wrapped.nd rfl (Or.inl rfl)) (pss_cons (ps_set (i := 4) sc_law_wrapped.nd rfl (Or.inl rfl) (pe_lst (pa_cons (pe_tup (pa_cons pe_str (pa_cons (pe_tup (pa_cons (pv 1) pa_nil)) pa_nil))) (pa_cons (pe_tup (pa_cons pe_str (pa_cons pe_str (pa_cons (pv 1) pa_nil)))) (pa_cons (pe_tup (pa_cons pe_str (pa_cons (pv 1) (pa_cons (pe_tup (pa_cons pe_str (pa_cons pe_str pa_nil))) pa_nil)))) (pa_cons (pe_tup (pa_cons pe_str (pa_cons (pv 1) (pa_cons (pe_tup (pa_cons pe_str (pa_cons pe_str pa_nil))) pa_nil)))) pa_nil)))))) (pss_one (ps_set (i := 1) sc_law_wrapped.nd rfl (Or.inl rfl) (pe_call G_law_one (hr.mono (by decide)) rfl (g_law_one T) kp_law_one bi_law_one .nil passF (pa_cons (pv 0) (pa_cons (pe_op op_cat (pv 4) (pe_lst (pa_cons (pe_tup (pa_cons pe_str (pa_cons pe_str (pa_cons (pv 1) (pa_cons (pe_tup (pa_cons pe_str pa_nil)) pa_nil))))) pa_nil))) pa_nil))))))) (pss_one (ps_ret (pv 1)))), ?_⟩
    refine ⟨_, rfl, _, rfl, by omega, by omega, ?_⟩
    refine for_it (walk_range (lo := 0) (n := m)) (fun j σ' H' => ∃ (F' : Hp) (v' : V) (d' : PyData) (o3 o4 : Option V), σ' = [some (.ref p), some v', some (.int (m : Int)), o3, o4] ∧ Gr (fun b => b = p) F H F' H' ∧ F' p = none ∧ Src H' p ∧ Dp K F' v' d' ∧ Wr d j d') ?_ ?_ ?_ ?_
    · exact ⟨F, v, d, _, _, rfl, Gr.refl xF, fp, sr, dv, .zero⟩
    · exact fun _ _ _ _ _ => True.intro
    · rintro j vj σ' Hc H1 hj ⟨F1, v1, d1, o3, o4, rfl, g1, f1, sr1, dv1, w1⟩ ⟨rfl, rfl⟩
      -- ("seq", (inner,))
      refine ⟨_, rfl, sz (by simp), ?_⟩
      intro p2 n2
      generalize e2 : upd _ p2 _ = H2
      obtain ⟨x2, s2, o2⟩ := new_of e2 n2
      clear e2
      refine ⟨sz (by simp), ?_⟩
      intro p3 n3
      generalize e3 : upd _ p3 _ = H3
      obtain ⟨x3, s3, o3⟩ := new_of e3 n3
      clear e3
      refine ⟨_, rfl, sz (by simp), ?_⟩
      intro p4 n4
      generalize e4 : upd _ p4 _ = H4
      obtain ⟨x4, s4, o4⟩ := new_of e4 n4
      clear e4
      refine ⟨_, rfl, sz (by simp), ?_⟩
      intro p5 n5
      generalize e5 : upd _ p5 _ = H5
      obtain ⟨x5, s5, o5⟩ := new_of e5 n5
      clear e5
      refine ⟨sz (by simp), ?_⟩
      intro p6 n6
      generalize e6 : upd _ p6 _ = H6
      obtain ⟨x6, s6, o6⟩ := new_of e6 n6
      clear e6
      refine ⟨_, rfl, sz (by simp), ?_⟩
      intro p7 n7
      generalize e7 : upd _ p7 _ = H7
      obtain ⟨x7, s7, o7⟩ := new_of e7 n7
      clear e7
      refine ⟨sz (by simp), ?_⟩
      intro p8 n8
      generalize e8 : upd _ p8 _ = H8
      obtain ⟨x8, s8, o8⟩ := new_of e8 n8
      clear e8
      refine ⟨sz (by simp), ?_⟩
      intro p9 n9
      generalize e9 : upd _ p9 _ = H9
      obtain ⟨x9, s9, o9⟩ := new_of e9 n9
      clear e9
      refine ⟨_, rfl, _, rfl, _, rfl, sz (by simp), ?_⟩
      intro p10 n10
      generalize e10 : upd _ p10 _ = H10
      obtain ⟨x10, s10, o10⟩ := new_of e10 n10
      clear e10
      refine ⟨sz (by simp), ?_⟩
      intro p11 n11
      generalize e11 : upd _ p11 _ = H11
      obtain ⟨x11, s11, o11⟩ := new_of e11 n11
      clear e11
      refine ⟨sz (by simp), ?_⟩
      intro p12 n12
      generalize e12 : upd _ p12 _ = H12
      obtain ⟨x12, s12, o12⟩ := new_of e12 n12
      clear e12
      refine ⟨p9, p12, _, _, rfl, rfl, x12 _ _ (x11 _ _ (x10 _ _ s9)), s12, sz (by simp), ?_⟩
      intro p13 n13
      generalize e13 : upd _ p13 _ = H13
      obtain ⟨x13, s13, o13⟩ := new_of e13 n13
      clear e13
      have pn : ∀ {H : Hp} {q : Addr}, Src H p → H q = none → q ≠ p := fun s n z => by obtain ⟨_, _, _, y⟩ := s; rw [z, y] at n; cases n
      have kp : ∀ {H H' : Hp}, Src H p → Ex H H' → Src H' p := fun s e => by obtain ⟨x, y, z, h⟩ := s; exact ⟨x, y, z, e _ _ h⟩
      have nf : ∀ {F H : Hp} {q : Addr} {o : HO}, Src H p → F p = none → H q = none → upd F q o p = none := fun {F H q o} s f n => by
        rw [upd_ne (fun z => pn s n z.symm)]
        exact f
      have sr2 := kp sr1 x2
      have sr3 := kp sr2 x3
      have sr4 := kp sr3 x4
      have sr5 := kp sr4 x5
      have sr6 := kp sr5 x6
      have sr7 := kp sr6 x7
      have sr8 := kp sr7 x8
      have sr9 := kp sr8 x9
      have sr10 := kp sr9 x10
      have sr11 := kp sr10 x11
      have sr12 := kp sr11 x12
      have sr13 := kp sr12 x13
      have z2 : Gr (fun b => b = p) F1 H1 _ H2 := Gr.frz g1.fh n2 s2 o2
      have z3 : Gr (fun b => b = p) _ H2 _ H3 := Gr.frz z2.fh n3 s3 o3
      have z4 : Gr (fun b => b = p) _ H3 _ H4 := Gr.frz z3.fh n4 s4 o4
      have z5 : Gr (fun b => b = p) _ H4 _ H5 := Gr.frz z4.fh n5 s5 o5
      have z6 : Gr (fun b => b = p) _ H5 _ H6 := Gr.frz z5.fh n6 s6 o6
      have z7 : Gr (fun b => b = p) _ H6 _ H7 := Gr.frz z6.fh n7 s7 o7
      have z8 : Gr (fun b => b = p) _ H7 _ H8 := Gr.frz z7.fh n8 s8 o8
      have z9 := Gr.new (M := fun b => b = p) z8.fh x9
      have z10 : Gr (fun b => b = p) _ H9 _ H10 := Gr.frz z9.fh n10 s10 o10
      have z11 : Gr (fun b => b = p) _ H10 _ H11 := Gr.frz z10.fh n11 s11 o11
      have f2 := nf sr1 f1 n2 (o := .tup [v1])
      have f3 := nf sr2 f2 n3 (o := .tup [.str "seq", .ref p2])
      have f4 := nf sr3 f3 n4 (o := .tup [.str "while", .str "w", v1])
      have f5 := nf sr4 f4 n5 (o := .tup [.str "do", .str "h"])
      have f6 := nf sr5 f5 n6 (o := .tup [.str "try", v1, .ref p5])
      have f7 := nf sr6 f6 n7 (o := .tup [.str "do", .str "f"])
      have f8 := nf sr7 f7 n8 (o := .tup [.str "final", v1, .ref p7])
      have f10 := nf sr9 f8 n10 (o := .tup [.str "raise"])
      have f11 := nf sr10 f10 n11 (o := .tup [.str "if", .str "i", v1, .ref p10])
      have e11 := z11.ff
      have e10 := z10.ff.trans e11
      have e8 := z8.ff.trans e10
      have e7 := z7.ff.trans e8
      have e6 := z6.ff.trans e7
      have e5 := z5.ff.trans e6
      have e4 := z4.ff.trans e5
      have e3 := z3.ff.trans e4
      have e2 := z2.ff.trans e3
      have k2 := e3 _ _ (upd_same (H := F1) (a := p2) (o := .tup [v1]))
      have k3 := e4 _ _ (upd_same (a := p3) (o := .tup [.str "seq", .ref p2]))
      have k4 := e5 _ _ (upd_same (a := p4) (o := .tup [.str "while", .str "w", v1]))
      have k5 := e6 _ _ (upd_same (a := p5) (o := .tup [.str "do", .str "h"]))
      have k6 := e7 _ _ (upd_same (a := p6) (o := .tup [.str "try", v1, .ref p5]))
      have k7 := e8 _ _ (upd_same (a := p7) (o := .tup [.str "do", .str "f"]))
      have k8 := e10 _ _ (upd_same (a := p8) (o := .tup [.str "final", v1, .ref p7]))
      have k10 := e11 _ _ (upd_same (a := p10) (o := .tup [.str "raise"]))
      have k11 : upd (upd (upd (upd (upd (upd (upd (upd (upd F1 p2 (.tup [v1])) p3 (.tup [.str "seq", .ref p2])) p4 (.tup [.str "while", .str "w", v1])) p5 (.tup [.str "do", .str "h"])) p6 (.tup [.str "try", v1, .ref p5])) p7 (.tup [.str "do", .str "f"])) p8 (.tup [.str "final", v1, .ref p7])) p10 (.tup [.str "raise"])) p11 (.tup [.str "if", .str "i", v1, .ref p10]) p11 = some (.tup [.str "if", .str "i", v1, .ref p10]) := upd_same
      have gz := ((((((((((g1.trans z2).trans z3).trans z4).trans z5).trans z6).trans z7).trans z8).trans z9).trans z10).trans z11)
      have dv2 := dp_ex e2 dv1
      generalize upd (upd (upd (upd (upd (upd (upd (upd (upd F1 p2 (.tup [v1])) p3 (.tup [.str "seq", .ref p2])) p4 (.tup [.str "while", .str "w", v1])) p5 (.tup [.str "do", .str "h"])) p6 (.tup [.str "try", v1, .ref p5])) p7 (.tup [.str "do", .str "f"])) p8 (.tup [.str "final", v1, .ref p7])) p10 (.tup [.str "raise"])) p11 (.tup [.str "if", .str "i", v1, .ref p10]) = F11 at *
      refine ⟨p, p13, _, rfl, sr13, s13, pn sr12 n13, (by simp), (by simp), fun H14 vs hvs sr14 o14 => ?_⟩
      have g13 := (gz.trans (Gr.new gz.fh x12)).trans (Gr.new (Gr.new (M := fun b => b = p) gz.fh x12).fh x13)
      have g14 := g13.trans (Gr.set g13.fh rfl f11 o14)
      obtain ⟨d', dv', m'⟩ : ∃ d', Dp K F11 vs d' ∧ d' ∈ W1 d1 := by
        have hvs : vs ∈ [V.ref p3, .ref p4, .ref p6, .ref p8, .ref p11] := hvs
        simp only [List.mem_cons, List.not_mem_nil, or_false] at hvs
        rcases hvs with rfl | rfl | rfl | rfl | rfl
        · exact ⟨_, .tup (Evl.st_of k3) (.cons (.str _) (.cons (.tup (Evl.st_of k2) (.cons dv2 .nil)) .nil)), by simp [W1]⟩
        · exact ⟨_, .tup (Evl.st_of k4) (.cons (.str _) (.cons (.str _) (.cons dv2 .nil))), by simp [W1]⟩
        · exact ⟨_, .tup (Evl.st_of k6) (.cons (.str _) (.cons dv2 (.cons (.tup (Evl.st_of k5) (.cons (.str _) (.cons (.str _) .nil))) .nil))), by simp [W1]⟩
        · exact ⟨_, .tup (Evl.st_of k8) (.cons (.str _) (.cons dv2 (.cons (.tup (Evl.st_of k7) (.cons (.str _) (.cons (.str _) .nil))) .nil))), by simp [W1]⟩
        · exact ⟨_, .tup (Evl.st_of k11) (.cons (.str _) (.cons (.str _) (.cons dv2 (.cons (.tup (Evl.st_of k10) (.cons (.str _) .nil)) .nil)))), by simp [W1]⟩
      exact ⟨F11, vs, d', _, _, rfl, g14, f11, sr14, dv', .succ w1 m'⟩
    · rintro σ' H1 ⟨F1, v1, d1, o3, o4, rfl, g1, f1, sr1, dv1, w1⟩
      exact ⟨_, rfl, Qq F1 H1 v1 d1 g1 f1 sr1 dv1 w1⟩
end

end Fc

set_option maxRecDepth 100000
set_option maxHeartbeats 4000000
namespace Fc
open PySem PySem.Spec PyProof.Rows L2 FcR
open Evl (Ex)
/-! ### the three parts of k04 -/
def sp_r4 (K : PySem.W.Frag) : Sp := fun vs H Q _ => ∃ (F : Hp) (p : Addr), vs = [.ref p] ∧ Ex F H ∧ F p = none ∧ Src H p ∧ ∀ (F' H' : Hp), Gr (fun b => b = p) F H F' H' → F' p = none → Src H' p → Q (.bl true) H'
def doA : PyData := .tuple [.str "do", .str "a"]
theorem dpA_rep {K : PySem.W.Frag} {H : Hp} {v : V} {d : PyData} (h : Dp K H v d) : ∀ n, DpAll K H (List.replicate n v) (List.replicate n d)
  | 0 => .nil
  | n + 1 => .cons h (dpA_rep h n)
theorem doA_fine : partsD doA = [] ∧ isStm doA (0 : Int) = true := ⟨rfl, (show nameOk "a" = true by decide +kernel)⟩
theorem says_A : Says (.tuple [.str "seq", .tuple (List.replicate 399 doA)]) (.list [.str "made", .int 400]) := by
  have z := ok_seq (loops := 0) (deep := 1) (blocks := 0) (l := List.replicate 399 doA) (fun z => by cases z) (by simp) (by omega) (by omega) fun q hq => by
    rw [List.eq_of_mem_replicate hq]
    exact okS_lf doA_fine.1 doA_fine.2 (by omega) (by omega)
  rw [List.length_replicate] at z
  exact says_ok z (by decide)
theorem says_B {p : PyData} {post : List PyData} : Says (.tuple [.str "seq", .tuple (List.replicate 399 doA ++ p :: post)]) (.int 400) :=
  says_lim (bad_seq (pre := List.replicate 399 doA) (fun q hq => by rw [List.eq_of_mem_replicate hq]; exact doA_fine) (by simp) (bad_now (by rw [List.length_replicate] <;> rfl)))
theorem says_E {n : Nat} {post : List PyData} (h : n < 399) : Says (.tuple [.str "seq", .tuple (List.replicate n doA ++ .none :: post)]) (.list [.int ((n : Int) + 1)]) := by
  refine says_inv (bad_seq (pre := List.replicate n doA) (fun q hq => by rw [List.eq_of_mem_replicate hq]; exact doA_fine) (by simp; omega) (bad_now ?_))
  rw [List.length_replicate]
  unfold faultI
  rw [if_neg (by omega), if_neg (by omega), if_neg (by omega), if_neg (show ¬ isStm .none ((0 : Nat) : Int) = true from fun z => by cases z)]
  rw [show ((1 + n : Nat) : Int) = (n : Int) + 1 by omega]
section
variable {P : Program} {w : World} {h : Heap} {K : PySem.W.Frag} {mg : Str → Option Value} {base : Heap}
abbrev N_law_many_right : List Str := ["_law_source", "_law_first", "_law_row", "_law_deep"]
theorem sc_law_many_right : FnScope N_law_many_right ["_law_source"] (defScope sd_law_many_right) := ⟨rfl, rfl, rfl, by decide +kernel, rfl, by decide +kernel, by decide +kernel⟩
theorem ok_law_many_right (T : Tx w h K mg) : Ok P w K mg base 9 ("_law_many_right", none) ["_law_source"] (sp_r4 K) := by
  obtain ⟨fd, F⟩ := F_law_many_right T
  refine ⟨fd, ?_, F.bindsN (fun _ _ _ _ _ _ us hl => match us, hl with | [_], _ => rfl), F.kp⟩
  obtain ⟨fd_law_draw, G_law_draw, bi_law_draw, kp_law_draw⟩ := ok_law_draw (P := P) (base := base) T
  obtain ⟨fd_law_said, G_law_said, bi_law_said, kp_law_said⟩ := ok_law_said (P := P) (base := base) T
  obtain ⟨fd_law_wrapped, G_law_wrapped, bi_law_wrapped, kp_law_wrapped⟩ := ok_law_wrapped (P := P) (base := base) T
  refine F.ok sc_law_many_right (fun vs H Q E h => ?_) (fun cdv A outer s H vs Q E hr h => ?_)
  · obtain ⟨F, p, rfl, xF, fp, ⟨sx, sy, sz0, hsr⟩, Qq⟩ := h
    rfl
  · obtain ⟨F, p, rfl, xF, fp, ⟨sx, sy, sz0, hsr⟩, Qq⟩ := h
    refine ⟨_, PSs.nox (pss_cons (ps_set (i := 1) sc_law_many_right.nd rfl (Or.inl rfl) (pe_call G_law_draw (hr.mono (by decide)) rfl (g_law_draw T) kp_law_draw bi_law_draw .nil passF (pa_cons (pv 0) (pa_cons pe_int pa_nil)))) (pss_cons (ps_set (i := 2) sc_law_many_right.nd rfl (Or.inl rfl) (pe_op op_rep (pe_lst (pa_cons (pe_tup (pa_cons pe_str (pa_cons pe_str pa_nil))) pa_nil)) pe_int)) (pss_cons (ps_if (PW.pt (pw_or (pt_cmpR (op_neM hr) (pe_call G_law_said (hr.mono (by decide)) rfl (g_law_said T) kp_law_said bi_law_said .nil passF (pa_cons (pe_tup (pa_cons pe_str (pa_cons (pe_callTy call_tuple_of rfl (fr_tuple T) b_tuple (pa_cons (pv 2) pa_nil)) pa_nil))) pa_nil)) (pe_lst (pa_cons pe_str (pa_cons pe_int pa_nil))) (nomark _)) (pw_or1 (pt_cmpR op_ne (pe_call G_law_said (hr.mono (by decide)) rfl (g_law_said T) kp_law_said bi_law_said .nil passF (pa_cons (pe_tup (pa_cons pe_str (pa_cons (pe_callTy call_tuple_of rfl (fr_tuple T) b_tuple (pa_cons (pe_op op_cat (pv 2) (pe_lst (pa_cons (pe_tup (pa_cons pe_str (pa_cons pe_str pa_nil))) pa_nil))) pa_nil)) pa_nil))) pa_nil)) pe_int (nomark _))))) (pss_one (ps_ret pe_bl)) pss_nil) (pss_cons (ps_if (PW.pt (pw_or (pt_cmpR op_ne (pe_call G_law_said (hr.mono (by decide)) rfl (g_law_said T) kp_law_said bi_law_said .nil passF (pa_cons (pe_tup (pa_cons pe_str (pa_cons (pe_callTy call_tuple_of rfl (fr_tuple T) b_tuple (pa_cons (pe_op op_cat (pv 2) (pe_lst (pa_cons pe_non pa_nil))) pa_nil)) pa_nil))) pa_nil)) pe_int (nomark _)) (pw_or1 (pt_cmpR op_ne (pe_call G_law_said (hr.mono (by decide)) rfl (g_law_said T) kp_law_said bi_law_said .nil passF (pa_cons (pe_tup (pa_cons pe_str (pa_cons (pe_callTy call_tuple_of rfl (fr_tuple T) b_tuple (pa_cons (pe_op op_rep (pv 2) pe_int) pa_nil)) pa_nil))) pa_nil)) pe_int (nomark _))))) (pss_one (ps_ret pe_bl)) pss_nil) (pss_cons (ps_if (pt_cmpR (op_neM hr) (pe_call G_law_said (hr.mono (by decide)) rfl (g_law_said T) kp_law_said bi_law_said .nil passF (pa_cons (pe_tup (pa_cons pe_str (pa_cons (pe_callTy call_tuple_of rfl (fr_tuple T) b_tuple (pa_cons (pe_op op_cat (pe_op op_cat (pe_slice sl_list (pv 2) po_none (po_some (pv 1))) (pe_lst (pa_cons pe_non pa_nil))) (pv 2)) pa_nil)) pa_nil))) pa_nil)) (pe_lst (pa_cons (pe_op op_add (pv 1) pe_int) pa_nil)) (nomark _)) (pss_one (ps_ret pe_bl)) pss_nil) (pss_cons (ps_set (i := 3) sc_law_many_right.nd rfl (Or.inl rfl) (pe_call G_law_wrapped (hr.mono (by decide)) rfl (g_law_wrapped T) kp_law_wrapped bi_law_wrapped .nil passF (pa_cons (pv 0) (pa_cons (pe_tup (pa_cons pe_str (pa_cons pe_str pa_nil))) (pa_cons pe_int pa_nil))))) (pss_one (ps_ret (pe_cmpR op_eq (pe_call G_law_said (hr.mono (by decide)) rfl (g_law_said T) kp_law_said bi_law_said .nil passF (pa_cons (pe_tup (pa_cons pe_str (pa_cons (pe_callTy call_tuple_of rfl (fr_tuple T) b_tuple (pa_cons (pe_op op_cat (pv 2) (pe_lst (pa_cons (pv 3) pa_nil))) pa_nil)) pa_nil))) pa_nil)) pe_int (nomark _)))))))))), ?_⟩
    refine ⟨_, rfl, p, sx, sy, sz0, 398, rfl, hsr, by decide, by decide, fun sx' sy' sz' v v0 v1 => ?_⟩
    generalize e1 : upd _ p _ = H1
    obtain ⟨s1, o1⟩ := set_of e1
    clear e1
    obtain ⟨n, rfl⟩ : ∃ n : Nat, v = (n : Int) := ⟨v.toNat, by omega⟩
    have g1 : Gr (fun b => b = p) F H F H1 := (Gr.refl xF).trans (Gr.set xF rfl fp o1)
    refine ⟨sz (by simp), ?_⟩
    intro p2 n2
    generalize e2 : upd _ p2 _ = H2
    obtain ⟨x2, s2, o2⟩ := new_of e2 n2
    clear e2
    refine ⟨sz (by simp), ?_⟩
    intro p3 n3
    generalize e3 : upd _ p3 _ = H3
    obtain ⟨x3, s3, o3⟩ := new_of e3 n3
    clear e3
    refine ⟨p3, 399, _, rfl, rfl, s3, by decide, by decide, sz (by simp), ?_⟩
    intro p4 n4
    generalize e4 : upd _ p4 _ = H4
    obtain ⟨x4, s4, o4⟩ := new_of e4 n4
    clear e4
    have er : (List.replicate (399 : Int).toNat [V.ref p2]).flatten = List.replicate 399 (V.ref p2) := List.flatten_replicate_singleton
    rw [er] at s4
    have dA : ∀ {H' : Hp}, Ex H4 H' → Dp K H' (.ref p2) doA := fun e => .tup (Evl.st_of (e _ _ (x4 _ _ (x3 _ _ s2)))) (.cons (.str _) (.cons (.str _) .nil))
    have gA : GS doA := gs_nm (by decide +kernel) (by decide +kernel) (by decide +kernel) rfl
    have gB : GS (.tuple [.str "do", .str "b"]) := gs_nm (by decide +kernel) (by decide +kernel) (by decide +kernel) rfl
    have gN : GS .none := gs_leaf rfl (fun k y r e => by cases e) rfl
    have gR : ∀ n, ∀ x ∈ List.replicate n doA, GS x := fun n x hx => by rw [List.eq_of_mem_replicate hx]; exact gA
    -- ("seq", tuple(row)) != ["made", 400]
    refine ⟨_, rfl, p4, _, rfl, .inl ⟨Evl.sq_of s4, ?_⟩⟩
    intro p5 n5
    generalize e5 : upd _ p5 _ = H5
    obtain ⟨x5, s5, o5⟩ := new_of e5 n5
    clear e5
    refine ⟨sz (by simp), ?_⟩
    intro p6 n6
    generalize e6 : upd _ p6 _ = H6
    obtain ⟨x6, s6, o6⟩ := new_of e6 n6
    clear e6
    refine ⟨H6, _, _, _, rfl, .tup (Evl.st_of s6) (.cons (.str _) (.cons (.tup (Evl.st_of (x6 _ _ s5)) (dpA_rep (dA (x5.trans x6)) 399)) .nil)), Evl.Ex.refl _, gs_seq (gR 399), says_A, fun H7 u7 x7 d7 => ?_⟩
    refine ⟨sz (by simp), ?_⟩
    intro p8 n8
    generalize e8 : upd _ p8 _ = H8
    obtain ⟨x8, s8, o8⟩ := new_of e8 n8
    clear e8
    refine ⟨_, _, dp_ex x8 d7, .lst (Evl.sq_of s8) (.cons (.str _) (.cons (.int _) .nil)), (by kernel_rfl), (by kernel_rfl), (by decide +kernel), _, rfl, itF (by decide +kernel) ?_⟩
    have x48 : Ex H4 H8 := ((x5.trans x6).trans x7).trans x8
    -- row + [("do", "b")]
    refine ⟨_, rfl, sz (by simp), ?_⟩
    intro p9 n9
    generalize e9 : upd _ p9 _ = H9
    obtain ⟨x9, s9, o9⟩ := new_of e9 n9
    clear e9
    refine ⟨sz (by simp), ?_⟩
    intro p10 n10
    generalize e10 : upd _ p10 _ = H10
    obtain ⟨x10, s10, o10⟩ := new_of e10 n10
    clear e10
    refine ⟨p4, p10, _, _, rfl, rfl, x10 _ _ (x9 _ _ (x48 _ _ s4)), s10, sz (by simp), ?_⟩
    intro p11 n11
    generalize e11 : upd _ p11 _ = H11
    obtain ⟨x11, s11, o11⟩ := new_of e11 n11
    clear e11
    refine ⟨p11, _, rfl, .inl ⟨Evl.sq_of s11, ?_⟩⟩
    intro p12 n12
    generalize e12 : upd _ p12 _ = H12
    obtain ⟨x12, s12, o12⟩ := new_of e12 n12
    clear e12
    refine ⟨sz (by simp), ?_⟩
    intro p13 n13
    generalize e13 : upd _ p13 _ = H13
    obtain ⟨x13, s13, o13⟩ := new_of e13 n13
    clear e13
    have x813 : Ex H8 H13 := (((x9.trans x10).trans x11).trans x12).trans x13
    refine ⟨H13, _, _, _, rfl, .tup (Evl.st_of s13) (.cons (.str _) (.cons (.tup (Evl.st_of (x13 _ _ s12)) (dpA_app (dpA_rep (dA (x48.trans x813)) 399) (.cons (.tup (Evl.st_of (x13 _ _ (x12 _ _ (x11 _ _ (x10 _ _ s9))))) (.cons (.str _) (.cons (.str _) .nil))) .nil))) .nil)), Evl.Ex.refl _, gs_seq (fun x hx => ?_), says_B, fun H14 u14 x14 d14 => ?_⟩
    · rcases List.mem_append.mp hx with z | z
      · exact gR _ x z
      · rw [List.mem_singleton.mp z]
        exact gB
    obtain rfl := dp_int d14
    refine ⟨rfl, _, rfl, itF (by decide) ?_⟩
    have x414 : Ex H4 H14 := (x48.trans x813).trans x14
    -- row + [None]
    refine ⟨_, rfl, sz (by simp), ?_⟩
    intro p15 n15
    generalize e15 : upd _ p15 _ = H15
    obtain ⟨x15, s15, o15⟩ := new_of e15 n15
    clear e15
    refine ⟨p4, p15, _, _, rfl, rfl, x15 _ _ (x414 _ _ s4), s15, sz (by simp), ?_⟩
    intro p16 n16
    generalize e16 : upd _ p16 _ = H16
    obtain ⟨x16, s16, o16⟩ := new_of e16 n16
    clear e16
    refine ⟨p16, _, rfl, .inl ⟨Evl.sq_of s16, ?_⟩⟩
    intro p17 n17
    generalize e17 : upd _ p17 _ = H17
    obtain ⟨x17, s17, o17⟩ := new_of e17 n17
    clear e17
    refine ⟨sz (by simp), ?_⟩
    intro p18 n18
    generalize e18 : upd _ p18 _ = H18
    obtain ⟨x18, s18, o18⟩ := new_of e18 n18
    clear e18
    have x1418 : Ex H14 H18 := ((x15.trans x16).trans x17).trans x18
    refine ⟨H18, _, _, _, rfl, .tup (Evl.st_of s18) (.cons (.str _) (.cons (.tup (Evl.st_of (x18 _ _ s17)) (dpA_app (dpA_rep (dA (x414.trans x1418)) 399) (.cons .non .nil))) .nil)), Evl.Ex.refl _, gs_seq (fun x hx => ?_), says_B, fun H19 u19 x19 d19 => ?_⟩
    · rcases List.mem_append.mp hx with z | z
      · exact gR _ x z
      · rw [List.mem_singleton.mp z]
        exact gN
    obtain rfl := dp_int d19
    refine ⟨rfl, _, rfl, itF (by decide) ?_⟩
    have x419 : Ex H4 H19 := (x414.trans x1418).trans x19
    -- row * 3
    refine ⟨_, rfl, p4, 3, _, rfl, rfl, x419 _ _ s4, by decide, by decide, sz (by simp), ?_⟩
    intro p20 n20
    generalize e20 : upd _ p20 _ = H20
    obtain ⟨x20, s20, o20⟩ := new_of e20 n20
    clear e20
    have e3 : (List.replicate (3 : Int).toNat (List.replicate 399 (V.ref p2))).flatten = List.replicate 1197 (V.ref p2) := List.flatten_replicate_replicate
    rw [e3] at s20
    refine ⟨p20, _, rfl, .inl ⟨Evl.sq_of s20, ?_⟩⟩
    intro p21 n21
    generalize e21 : upd _ p21 _ = H21
    obtain ⟨x21, s21, o21⟩ := new_of e21 n21
    clear e21
    refine ⟨sz (by simp), ?_⟩
    intro p22 n22
    generalize e22 : upd _ p22 _ = H22
    obtain ⟨x22, s22, o22⟩ := new_of e22 n22
    clear e22
    have x1922 : Ex H19 H22 := (x20.trans x21).trans x22
    have e1197 : List.replicate 1197 doA = List.replicate 399 doA ++ doA :: List.replicate 797 doA := by
      rw [← List.replicate_succ, List.replicate_append_replicate]
    refine ⟨H22, _, .tuple [.str "seq", .tuple (List.replicate 399 doA ++ doA :: List.replicate 797 doA)], _, rfl, .tup (Evl.st_of s22) (.cons (.str _) (.cons (.tup (Evl.st_of (x22 _ _ s21)) (e1197 ▸ dpA_rep (dA (x419.trans x1922)) 1197)) .nil)), Evl.Ex.refl _, gs_seq (fun x hx => ?_), says_B, fun H23 u23 x23 d23 => ?_⟩
    · rw [← e1197] at hx
      exact gR _ x hx
    obtain rfl := dp_int d23
    refine ⟨rfl, _, rfl, itF (by decide) ?_⟩
    have x423 : Ex H4 H23 := (x419.trans x1922).trans x23
    -- row[:first] + [None] + row
    refine ⟨_, rfl, _, rfl, _, rfl, p4, _, rfl, Evl.sq_of (x423 _ _ s4), ?_⟩
    intro p24 n24
    generalize e24 : upd _ p24 _ = H24
    obtain ⟨x24, s24, o24⟩ := new_of e24 n24
    clear e24
    have hn : n < 398 := by omega
    have e24 : cutV (List.replicate 399 (V.ref p2)) none (some (n : Int)) = List.replicate n (V.ref p2) := by
      rw [cut_to, List.take_replicate, Nat.min_eq_left (by omega)]
    rw [e24] at s24
    refine ⟨sz (by simp), ?_⟩
    intro p25 n25
    generalize e25 : upd _ p25 _ = H25
    obtain ⟨x25, s25, o25⟩ := new_of e25 n25
    clear e25
    refine ⟨p24, p25, _, _, rfl, rfl, x25 _ _ s24, s25, sz (by simp; omega), ?_⟩
    intro p26 n26
    generalize e26 : upd _ p26 _ = H26
    obtain ⟨x26, s26, o26⟩ := new_of e26 n26
    clear e26
    refine ⟨_, rfl, p26, p4, _, _, rfl, rfl, s26, x26 _ _ (x25 _ _ (x24 _ _ (x423 _ _ s4))), sz (by simp; omega), ?_⟩
    intro p27 n27
    generalize e27 : upd _ p27 _ = H27
    obtain ⟨x27, s27, o27⟩ := new_of e27 n27
    clear e27
    refine ⟨p27, _, rfl, .inl ⟨Evl.sq_of s27, ?_⟩⟩
    intro p28 n28
    generalize e28 : upd _ p28 _ = H28
    obtain ⟨x28, s28, o28⟩ := new_of e28 n28
    clear e28
    refine ⟨sz (by simp), ?_⟩
    intro p29 n29
    generalize e29 : upd _ p29 _ = H29
    obtain ⟨x29, s29, o29⟩ := new_of e29 n29
    clear e29
    have x2329 : Ex H23 H29 := ((((x24.trans x25).trans x26).trans x27).trans x28).trans x29
    have dE := dpA_app (dpA_app (dpA_rep (dA (x423.trans x2329)) n) (.cons .non .nil)) (dpA_rep (dA (x423.trans x2329)) 399)
    rw [List.append_assoc (List.replicate n doA)] at dE
    refine ⟨H29, _, .tuple [.str "seq", .tuple (List.replicate n doA ++ PyData.none :: List.replicate 399 doA)], _, rfl, .tup (Evl.st_of s29) (.cons (.str _) (.cons (.tup (Evl.st_of (x29 _ _ s28)) dE) .nil)), Evl.Ex.refl _, gs_seq (fun x hx => ?_), says_E (by omega), fun H30 u30 x30 d30 => ?_⟩
    · rcases List.mem_append.mp hx with z | z
      · exact gR _ x z
      · rcases List.mem_cons.mp z with z | z
        · rw [z]
          exact gN
        · exact gR _ x z
    have x430 : Ex H4 H30 := (x423.trans x2329).trans x30
    refine ⟨_, rfl, _, _, rfl, rfl, sz (by simp), ?_⟩
    intro p31 n31
    generalize e31 : upd _ p31 _ = H31
    obtain ⟨x31, s31, o31⟩ := new_of e31 n31
    clear e31
    have en : PyData.eqv (.list [.int ((n : Int) + 1)]) (.list [.int ((n : Int) + 1)]) = true := PySem.SeqAt.eqv_refl _ (by show (PyData.canLay0 (.int ((n : Int) + 1)) && true) = true; rfl)
    refine ⟨_, _, dp_ex x31 d30, .lst (Evl.sq_of s31) (.cons (.int _) .nil), rfl, rfl, (Nat.le_trans (Nat.min_le_left ..) (by simp [PyData.depth, PyData.depthAll])), _, rfl, itF (by rw [en] <;> rfl) ?_⟩
    -- deep = wrapped(source, ("do", "d"), 99)
    have x431 := x430.trans x31
    have sr31 : Src H31 p := ⟨_, _, _, x431 _ _ (x4 _ _ (x3 _ _ (x2 _ _ s1)))⟩
    refine ⟨_, rfl, sz (by simp), ?_⟩
    intro p32 n32
    generalize e32 : upd _ p32 _ = H32
    obtain ⟨x32, s32, o32⟩ := new_of e32 n32
    clear e32
    have g32 := (g1.trans (Gr.new g1.fh (((x2.trans x3).trans x4).trans x431))).trans (Gr.frz (Gr.new (M := fun b => b = p) g1.fh (((x2.trans x3).trans x4).trans x431)).fh n32 s32 o32)
    have sr32 : Src H32 p := by obtain ⟨a1, a2, a3, a4⟩ := sr31; exact ⟨a1, a2, a3, x32 _ _ a4⟩
    have f32 : upd F p32 (.tup [.str "do", .str "d"]) p = none := by
      rw [upd_ne (fun z => by obtain ⟨_, _, _, y⟩ := sr31; rw [z, n32] at y; cases y)]
      exact fp
    refine ⟨_, p, _, _, 99, rfl, g32.fh, f32, sr32, by decide, .tup (Evl.st_of upd_same) (.cons (.str _) (.cons (.str _) .nil)), fun F33 H33 v33 d33 g33 f33 sr33 dv33 w33 => ?_⟩
    have g4 := g32.trans g33
    refine ⟨_, rfl, _, rfl, sz (by simp), ?_⟩
    intro p34 n34
    generalize e34 : upd _ p34 _ = H34
    obtain ⟨x34, s34, o34⟩ := new_of e34 n34
    clear e34
    have k33 : ∀ b o, H32 b = some o → b ≠ p → H33 b = some o := fun b o hb hn => g33.kp b o hb hn
    have pn : ∀ {q : Addr} {o : HO}, H4 q = some o → q ≠ p → H34 q = some o := fun hb hn => x34 _ _ (k33 _ _ (x32 _ _ (x431 _ _ hb)) hn)
    have s1p := x4 _ _ (x3 _ _ (x2 _ _ s1))
    have p4n : p4 ≠ p := fun z => by rw [z, x3 _ _ (x2 _ _ s1)] at n4; cases n4
    have p2n : p2 ≠ p := fun z => by rw [z, s1] at n2; cases n2
    refine ⟨p4, p34, _, _, rfl, rfl, pn s4 p4n, s34, sz (by simp), ?_⟩
    intro p35 n35
    generalize e35 : upd _ p35 _ = H35
    obtain ⟨x35, s35, o35⟩ := new_of e35 n35
    clear e35
    refine ⟨p35, _, rfl, .inl ⟨Evl.sq_of s35, ?_⟩⟩
    intro p36 n36
    generalize e36 : upd _ p36 _ = H36
    obtain ⟨x36, s36, o36⟩ := new_of e36 n36
    clear e36
    refine ⟨sz (by simp), ?_⟩
    intro p37 n37
    generalize e37 : upd _ p37 _ = H37
    obtain ⟨x37, s37, o37⟩ := new_of e37 n37
    clear e37
    have x3437 : Ex H34 H37 := (x35.trans x36).trans x37
    have dA' : Dp K H37 (.ref p2) doA := .tup (Evl.st_of (x3437 _ _ (pn (x4 _ _ (x3 _ _ s2)) p2n))) (.cons (.str _) (.cons (.str _) .nil))
    have g37 := g4.trans (Gr.new g4.fh (x34.trans x3437))
    refine ⟨H37, _, _, _, rfl, .tup (Evl.st_of s37) (.cons (.str _) (.cons (.tup (Evl.st_of (x37 _ _ s36)) (dpA_app (dpA_rep dA' 399) (.cons (dp_ex g37.fh dv33) .nil))) .nil)), Evl.Ex.refl _, gs_seq (fun x hx => ?_), says_B, fun H38 u38 x38 d38 => ?_⟩
    · rcases List.mem_append.mp hx with z | z
      · exact gR _ x z
      · rw [List.mem_singleton.mp z]
        exact gs_wr (gs_nm (by decide +kernel) (by decide +kernel) (by decide +kernel) rfl) w33
    obtain rfl := dp_int d38
    have g38 := g37.trans (Gr.new g37.fh x38)
    exact ⟨rfl, Qq F33 H38 g38 f33 (by obtain ⟨a1, a2, a3, a4⟩ := sr33; exact ⟨a1, a2, a3, x38 _ _ (x3437 _ _ (x34 _ _ a4))⟩)⟩
end

end Fc

set_option maxRecDepth 100000
set_option maxHeartbeats 4000000
namespace Fc
open PySem PySem.Spec PyProof.Rows L2 FcR
open Evl (Ex)
def doX (x : Str) : PyData := .tuple [.str "do", .str x]
theorem gs_dd : GS (doX "d") := gs_nm (by decide +kernel) (by decide +kernel) (by decide +kernel) rfl
theorem gs_dn : GS (.tuple [.str "do"]) := gs_leaf (by kernel_rfl) (fun k y r e => by cases e) rfl
theorem gs_ra : GS (.tuple [.str "raise"]) := gs_leaf (by kernel_rfl) (fun k y r e => by cases e) rfl
theorem gs_no : GS .none := gs_leaf rfl (fun k y r e => by cases e) rfl
theorem gs_5 : GS (.int 5) := gs_leaf (by kernel_rfl) (fun k y r e => by cases e) rfl
theorem fine_dd : Fine 1 0 1 1 (doX "d") := fine_leaf rfl fun _ => (show nameOk "d" = true by decide +kernel)
theorem says_fine {e : PyData} (w : Wr (doX "d") 99 e) : ∃ n : Int, Says e (.list [.str "made", .int n]) := by
  obtain ⟨wt, _, l2, ok⟩ := fine_wr (fine_dd.mono (b' := 1) (by decide)) (by decide) (by decide) w 0 1 0 (by decide) (by decide)
  exact ⟨_, says_ok ok (by omega)⟩
theorem deep_now {B loops blocks n : Nat} {d : PyData} (h : n < 400) : BadS B loops 101 blocks n ("LimitExceeded", "limit", 100) d := by
  refine bad_now ?_
  unfold faultI
  rw [if_neg (by omega), if_pos (by decide)]
theorem says_deep {d e : PyData} (w : Wr d 100 e) : Says e (.int 100) := says_lim (bad_wr (B := 0) (deep := 1) (blocks := 0) (n := 0) w (by decide) (by decide) (by decide) (by decide) (fun _ => deep_now (by decide)) 0)
theorem says_first {d e : PyData} (w : Wr d 99 e) : Says (.tuple [.str "seq", .tuple [doA, e, .int 5]]) (.int 100) :=
  says_lim (bad_seq (pre := [doA]) (post := [.int 5]) (fun q hq => by rw [List.mem_singleton.mp hq]; exact doA_fine) (by simp) (bad_wr (B := 400) (deep := 2) (blocks := 0) (n := 2) w (by decide) (by decide) (by decide) (by decide) (fun _ => deep_now (by decide)) 0))
theorem says_five {e : PyData} : Says (.tuple [.str "seq", .tuple [.int 5, e]]) (.list [.int 1]) :=
  says_inv (bad_seq (pre := []) (post := [e]) (fun q hq => by cases hq) (by simp) (bad_now rfl))
section
variable {P : Program} {w : World} {h : Heap} {K : PySem.W.Frag} {mg : Str → Option Value} {base : Heap}
abbrev N_law_deep_right : List Str := ["_law_source", "_law_fine", "_law_inner", "_law_first"]
theorem sc_law_deep_right : FnScope N_law_deep_right ["_law_source"] (defScope sd_law_deep_right) := ⟨rfl, rfl, rfl, by decide +kernel, rfl, by decide +kernel, by decide +kernel⟩
theorem ok_law_deep_right (T : Tx w h K mg) : Ok P w K mg base 9 ("_law_deep_right", none) ["_law_source"] (sp_r4 K) := by
  obtain ⟨fd, F⟩ := F_law_deep_right T
  refine ⟨fd, ?_, F.bindsN (fun _ _ _ _ _ _ us hl => match us, hl with | [_], _ => rfl), F.kp⟩
  obtain ⟨fd_law_said, G_law_said, bi_law_said, kp_law_said⟩ := ok_law_said (P := P) (base := base) T
  obtain ⟨fd_law_wrapped, G_law_wrapped, bi_law_wrapped, kp_law_wrapped⟩ := ok_law_wrapped (P := P) (base := base) T
  refine F.ok sc_law_deep_right (fun vs H Q E h => ?_) (fun cdv A outer s H vs Q E hr h => ?_)
  · obtain ⟨F, p, rfl, xF, fp, sr, Qq⟩ := h
    rfl
  · obtain ⟨F, p, rfl, xF, fp, sr, Qq⟩ := h
    refine ⟨_, PSs.nox (pss_cons (ps_set (i := 1) sc_law_deep_right.nd rfl (Or.inl rfl) (pe_call G_law_wrapped (hr.mono (by decide)) rfl (g_law_wrapped T) kp_law_wrapped bi_law_wrapped .nil passF (pa_cons (pv 0) (pa_cons (pe_tup (pa_cons pe_str (pa_cons pe_str pa_nil))) (pa_cons pe_int pa_nil))))) (pss_cons (ps_if (pt_cmpR op_ne (pe_ix ix_list (pe_call G_law_said (hr.mono (by decide)) rfl (g_law_said T) kp_law_said bi_law_said .nil passF (pa_cons (pv 1) pa_nil)) pe_int (fun _ _ => rfl)) pe_str (nomark _)) (pss_one (ps_ret pe_bl)) pss_nil) (pss_cons (ps_for PassesOwn.never rfl (pi_list (pe_lst (pa_cons (pe_tup (pa_cons pe_str (pa_cons pe_str pa_nil))) (pa_cons pe_non (pa_cons (pe_tup (pa_cons pe_str pa_nil)) pa_nil))))) (pg_name (i := 2) sc_law_deep_right.nd rfl (Or.inl rfl)) (pss_one (ps_if (pt_cmpR op_ne (pe_call G_law_said (hr.mono (by decide)) rfl (g_law_said T) kp_law_said bi_law_said .nil passF (pa_cons (pe_call G_law_wrapped (hr.mono (by decide)) rfl (g_law_wrapped T) kp_law_wrapped bi_law_wrapped .nil passF (pa_cons (pv 0) (pa_cons (pv 2) (pa_cons pe_int pa_nil)))) pa_nil)) pe_int (nomark _)) (pss_one (ps_ret pe_bl)) pss_nil))) (pss_cons (ps_set (i := 3) sc_law_deep_right.nd rfl (Or.inl rfl) (pe_tup (pa_cons pe_str (pa_cons (pe_tup (pa_cons (pe_tup (pa_cons pe_str (pa_cons pe_str pa_nil))) (pa_cons (pe_call G_law_wrapped (hr.mono (by decide)) rfl (g_law_wrapped T) kp_law_wrapped bi_law_wrapped .nil passF (pa_cons (pv 0) (pa_cons (pe_tup (pa_cons pe_str pa_nil)) (pa_cons pe_int pa_nil)))) (pa_cons pe_int pa_nil)))) pa_nil)))) (pss_one (ps_ret (pe_and (pe_cmpR op_eq (pe_call G_law_said (hr.mono (by decide)) rfl (g_law_said T) kp_law_said bi_law_said .nil passF (pa_cons (pv 3) pa_nil)) pe_int (nomark _)) (pe_one (pe_cmpR (op_eqM hr) (pe_call G_law_said (hr.mono (by decide)) rfl (g_law_said T) kp_law_said bi_law_said .nil passF (pa_cons (pe_tup (pa_cons pe_str (pa_cons (pe_tup (pa_cons pe_int (pa_cons (pe_call G_law_wrapped (hr.mono (by decide)) rfl (g_law_wrapped T) kp_law_wrapped bi_law_wrapped .nil passF (pa_cons (pv 0) (pa_cons (pe_tup (pa_cons pe_str pa_nil)) (pa_cons pe_int pa_nil)))) pa_nil))) pa_nil))) pa_nil)) (pe_lst (pa_cons pe_int pa_nil)) (nomark _)))))))))), ?_⟩
    have srk : ∀ {H H' : Hp}, Src H p → Ex H H' → Src H' p := fun s e => by obtain ⟨x, y, z, h⟩ := s; exact ⟨x, y, z, e _ _ h⟩
    have nf : ∀ {F H : Hp} {q : Addr} {o : HO}, Src H p → F p = none → H q = none → upd F q o p = none := fun {F H q o} s f n => by
      rw [upd_ne (fun z => by obtain ⟨_, _, _, y⟩ := s; rw [z, n] at y; cases y)]
      exact f
    refine ⟨_, rfl, sz (by simp), ?_⟩
    intro p1 n1
    generalize e1 : upd _ p1 _ = H1
    obtain ⟨x1, s1, o1⟩ := new_of e1 n1
    clear e1
    have g1 : Gr (fun b => b = p) F H _ H1 := Gr.frz xF n1 s1 o1
    have sr1 := srk sr x1
    refine ⟨_, p, _, _, 99, rfl, g1.fh, nf sr fp n1, sr1, by decide, .tup (Evl.st_of upd_same) (.cons (.str _) (.cons (.str _) .nil)), fun F2 H2 v2 d2 g2 f2 sr2 dv2 w2 => ?_⟩
    have g12 := g1.trans g2
    obtain ⟨nf2, sf⟩ := says_fine w2
    refine ⟨_, rfl, H2, _, _, _, rfl, dp_ex g12.fh dv2, Evl.Ex.refl _, gs_wr gs_dd w2, sf, fun H3 u3 x3 d3 => ?_⟩
    obtain ⟨a3, xs3, rfl, q3, dd3⟩ := dp_lst d3
    cases dd3 with
    | @cons u _ _ _ du _ =>
    obtain rfl := dp_str du
    refine ⟨a3, _, 0, .str "made", rfl, rfl, q3, at0, rfl, _, rfl, itF (by decide) ?_⟩
    have g3 := g12.trans (Gr.new g12.fh x3)
    have sr3 := srk sr2 x3
    refine ⟨sz (by simp), ?_⟩
    intro p4 n4
    generalize e4 : upd _ p4 _ = H4
    obtain ⟨x4, s4, o4⟩ := new_of e4 n4
    clear e4
    refine ⟨sz (by simp), ?_⟩
    intro p5 n5
    generalize e5 : upd _ p5 _ = H5
    obtain ⟨x5, s5, o5⟩ := new_of e5 n5
    clear e5
    refine ⟨sz (by simp), ?_⟩
    intro p6 n6
    generalize e6 : upd _ p6 _ = H6
    obtain ⟨x6, s6, o6⟩ := new_of e6 n6
    clear e6
    refine ⟨p6, rfl, ⟨_, Evl.sq_of s6⟩, ?_⟩
    have sr4 := srk sr3 x4
    have sr5 := srk sr4 x5
    have sr6 := srk sr5 x6
    have g4 := g3.trans (Gr.frz g3.fh n4 s4 o4)
    have g5 := g4.trans (Gr.frz g4.fh n5 s5 o5)
    have g6 := g5.trans (Gr.new g5.fh x6)
    have e5 := (Gr.frz (M := fun b => b = p) g4.fh n5 s5 o5).ff
    have f5 := nf sr4 (nf sr3 f2 n4 (o := .tup [.str "do", .str "d"])) n5 (o := .tup [.str "do"])
    have k4 := e5 _ _ (upd_same (H := F2) (a := p4) (o := .tup [.str "do", .str "d"]))
    have k5 : upd (upd F2 p4 (.tup [.str "do", .str "d"])) p5 (.tup [.str "do"]) p5 = some (.tup [.str "do"]) := upd_same
    generalize upd (upd F2 p4 (.tup [.str "do", .str "d"])) p5 (.tup [.str "do"]) = F5 at *
    have three : ∀ x ∈ [V.ref p4, .non, .ref p5], ∃ d, Dp K F5 x d ∧ GS d := fun x hx => by
      simp only [List.mem_cons, List.not_mem_nil, or_false] at hx
      rcases hx with rfl | rfl | rfl
      · exact ⟨_, .tup (Evl.st_of k4) (.cons (.str _) (.cons (.str _) .nil)), gs_dd⟩
      · exact ⟨_, .non, gs_no⟩
      · exact ⟨_, .tup (Evl.st_of k5) (.cons (.str _) .nil), gs_dn⟩
    have p6n : p6 ≠ p := fun z => by obtain ⟨_, _, _, y⟩ := sr5; rw [z, y] at n6; cases n6
    refine for_it (walk_list (xs := [V.ref p4, .non, .ref p5])) (fun j σ' H' => ∃ (F' : Hp) (o2 o3 : Option V), σ' = [some (.ref p), some v2, o2, o3] ∧ Gr (fun b => b = p) F5 H6 F' H' ∧ F' p = none ∧ Src H' p) ?_ ?_ ?_ ?_
    · exact ⟨F5, _, _, rfl, Gr.refl g6.fh, f5, sr6⟩
    · rintro i σ' H' _ ⟨F', _, _, _, g, _⟩
      exact Evl.sq_of (g.kp _ _ s6 p6n)
    · rintro j vj σ' Hc H7 hj ⟨F7, o2, o3, rfl, g7, f7, sr7⟩ ⟨rfl, hvj⟩
      obtain ⟨dj, dvj, gj⟩ := three vj (List.mem_of_getElem? hvj)
      refine ⟨_, rfl, _, rfl, F7, p, vj, dj, 100, rfl, g7.fh, f7, sr7, by decide, dp_ex g7.ff dvj, fun F8 H8 v8 d8 g8 f8 sr8 dv8 w8 => ?_⟩
      have g78 := g7.trans g8
      refine ⟨H8, _, _, _, rfl, dp_ex g78.fh dv8, Evl.Ex.refl _, gs_wr gj w8, says_deep w8, fun H9 u9 x9 d9 => ?_⟩
      obtain rfl := dp_int d9
      refine ⟨rfl, _, rfl, itF (by decide) ?_⟩
      exact ⟨F8, _, _, rfl, g78.trans (Gr.new g78.fh x9), f8, srk sr8 x9⟩
    rintro σ' H7 ⟨F7, o2, o3, rfl, g7, f7, sr7⟩
    have g67 := g6.trans g7
    -- first
    refine ⟨sz (by simp), ?_⟩
    intro p8 n8
    generalize e8 : upd _ p8 _ = H8
    obtain ⟨x8, s8, o8⟩ := new_of e8 n8
    clear e8
    refine ⟨_, rfl, sz (by simp), ?_⟩
    intro p9 n9
    generalize e9 : upd _ p9 _ = H9
    obtain ⟨x9, s9, o9⟩ := new_of e9 n9
    clear e9
    have g8 := g67.trans (Gr.frz g67.fh n8 s8 o8)
    have g9 := g8.trans (Gr.frz g8.fh n9 s9 o9)
    have sr8 := srk sr7 x8
    have sr9 := srk sr8 x9
    have f9 := nf sr8 (nf sr7 f7 n8 (o := .tup [.str "do", .str "a"])) n9 (o := .tup [.str "raise"])
    have e9 := (Gr.frz (M := fun b => b = p) g8.fh n9 s9 o9).ff
    have k8 := e9 _ _ (upd_same (H := F7) (a := p8) (o := .tup [.str "do", .str "a"]))
    refine ⟨_, p, _, _, 99, rfl, g9.fh, f9, sr9, by decide, .tup (Evl.st_of upd_same) (.cons (.str _) .nil), fun F10 H10 v10 d10 g10 f10 sr10 dv10 w10 => ?_⟩
    have g910 := g9.trans g10
    refine ⟨sz (by simp), ?_⟩
    intro p11 n11
    generalize e11 : upd _ p11 _ = H11
    obtain ⟨x11, s11, o11⟩ := new_of e11 n11
    clear e11
    refine ⟨sz (by simp), ?_⟩
    intro p12 n12
    generalize e12 : upd _ p12 _ = H12
    obtain ⟨x12, s12, o12⟩ := new_of e12 n12
    clear e12
    have x1012 := x11.trans x12
    have y12 : Ex F10 H12 := g910.fh.trans x1012
    refine ⟨_, rfl, H12, _, _, _, rfl, .tup (Evl.st_of s12) (.cons (.str _) (.cons (.tup (Evl.st_of (x12 _ _ s11)) (.cons (.tup (Evl.st_of (y12 _ _ (g10.ff _ _ k8))) (.cons (.str _) (.cons (.str _) .nil))) (.cons (dp_ex y12 dv10) (.cons (.int _) .nil)))) .nil)), Evl.Ex.refl _, gs_seq (fun x hx => ?_), says_first w10, fun H13 u13 x13 d13 => ?_⟩
    · simp only [List.mem_cons, List.not_mem_nil, or_false] at hx
      rcases hx with rfl | rfl | rfl
      · exact gs_nm (by decide +kernel) (by decide +kernel) (by decide +kernel) rfl
      · exact gs_wr gs_ra w10
      · exact gs_5
    obtain rfl := dp_int d13
    refine ⟨rfl, _, rfl, itT (by decide) ?_⟩
    have g13 := g910.trans (Gr.new g910.fh (x1012.trans x13))
    have sr13 := srk sr10 (x1012.trans x13)
    refine ⟨_, rfl, sz (by simp), ?_⟩
    intro p14 n14
    generalize e14 : upd _ p14 _ = H14
    obtain ⟨x14, s14, o14⟩ := new_of e14 n14
    clear e14
    have g14 := g13.trans (Gr.frz g13.fh n14 s14 o14)
    have sr14 := srk sr13 x14
    have f14 := nf sr13 f10 n14 (o := .tup [.str "raise"])
    refine ⟨_, p, _, _, 100, rfl, g14.fh, f14, sr14, by decide, .tup (Evl.st_of upd_same) (.cons (.str _) .nil), fun F15 H15 v15 d15 g15 f15 sr15 dv15 w15 => ?_⟩
    have g145 := g14.trans g15
    refine ⟨sz (by simp), ?_⟩
    intro p16 n16
    generalize e16 : upd _ p16 _ = H16
    obtain ⟨x16, s16, o16⟩ := new_of e16 n16
    clear e16
    refine ⟨sz (by simp), ?_⟩
    intro p17 n17
    generalize e17 : upd _ p17 _ = H17
    obtain ⟨x17, s17, o17⟩ := new_of e17 n17
    clear e17
    have x1517 := x16.trans x17
    have y17 : Ex F15 H17 := g145.fh.trans x1517
    refine ⟨H17, _, _, _, rfl, .tup (Evl.st_of s17) (.cons (.str _) (.cons (.tup (Evl.st_of (x17 _ _ s16)) (.cons (.int _) (.cons (dp_ex y17 dv15) .nil))) .nil)), Evl.Ex.refl _, gs_seq (fun x hx => ?_), says_five, fun H18 u18 x18 d18 => ?_⟩
    · simp only [List.mem_cons, List.not_mem_nil, or_false] at hx
      rcases hx with rfl | rfl
      · exact gs_5
      · exact gs_wr gs_ra w15
    refine ⟨sz (by simp), ?_⟩
    intro p19 n19
    generalize e19 : upd _ p19 _ = H19
    obtain ⟨x19, s19, o19⟩ := new_of e19 n19
    clear e19
    refine ⟨_, _, dp_ex x19 d18, .lst (Evl.sq_of s19) (.cons (.int _) .nil), rfl, rfl, (by decide +kernel), ?_⟩
    have e1 : PyData.eqv (.list [.int 1]) (.list [.int 1]) = true := by decide +kernel
    rw [e1]
    have g19 := g145.trans (Gr.new g145.fh ((x1517.trans x18).trans x19))
    exact Qq F15 H19 g19 f15 (srk sr15 ((x1517.trans x18).trans x19))
end

end Fc

set_option maxRecDepth 100000
set_option maxHeartbeats 4000000
namespace Fc
open PySem PySem.Spec PyProof.Rows L2 FcR
open Evl (Ex)
theorem says_b25 : Says (blkD (doX "d") 25) (.list [.str "made", .int 51]) := by
  obtain ⟨w, l1, l2, ok⟩ := fine_blk fine_dd (by decide) 25 0 1 0 (by decide) (by decide)
  obtain rfl : w = 51 := by omega
  exact says_ok ok (by decide)
theorem says_b26 {d : PyData} : Says (blkD d 26) (.int 25) := says_lim (bad_blk (B := 0) (deep := 1) (blocks := 0) (n := 0) (by decide) (by decide) (by decide) (by decide) (fun _ => bad_now rfl) 0)
theorem says_mixed {m : Nat} {e : PyData} (w : Wr (blkD (doX "d") 25) m e) (hm : m < 40) : ∃ n : Int, Says e (.list [.str "made", .int n]) := by
  obtain ⟨wt, _, l2, ok⟩ := fine_wr (fine_blk fine_dd (by decide) 25) (by decide) (by decide) w 0 1 0 (by omega) (by decide)
  exact ⟨_, says_ok ok (by omega)⟩
theorem says_d26 {e : PyData} (w : Wr (blkD (doX "d") 26) 74 e) : Says e (.int 100) := by
  refine says_lim (bad_wr (B := 0) (deep := 1) (blocks := 0) (n := 0) w (by decide) (by decide) (by decide) (by decide) (fun l => ?_) 0)
  rw [← blk_add (doX "d") 1 25]
  refine bad_blk (by decide) (by decide) (by decide) (by decide) (fun l' => ?_) l
  exact bad_head (d := blkD (doX "d") 1) (p := .tuple [.str "call", .str "x"]) (post := [doX "d"]) (by decide) (by decide) (by decide) rfl rfl (by decide) (deep_now (by decide))
theorem says_n124 {e : PyData} (w : Wr .none 74 e) : Says (blkD e 25) (.list [.int 124]) := by
  refine says_inv (bad_blk (B := 0) (deep := 1) (blocks := 0) (n := 0) (by decide) (by decide) (by decide) (by decide) (fun l => ?_) 0)
  refine bad_wr w (by decide) (by decide) (by decide) (by decide) (fun l' => bad_now ?_) l
  unfold faultI
  rw [if_neg (by decide), if_neg (by decide), if_neg (by decide), if_neg (show ¬ isStm .none (l' : Int) = true from fun z => by cases z)]
  rfl
section
variable {P : Program} {w : World} {h : Heap} {K : PySem.W.Frag} {mg : Str → Option Value} {base : Heap}
abbrev N_law_blocks_right : List Str := ["_law_source", "_law_inner", "_law_mixed", "_law_deep"]
theorem sc_law_blocks_right : FnScope N_law_blocks_right ["_law_source"] (defScope sd_law_blocks_right) := ⟨rfl, rfl, rfl, by decide +kernel, rfl, by decide +kernel, by decide +kernel⟩
theorem ok_law_blocks_right (T : Tx w h K mg) : Ok P w K mg base 9 ("_law_blocks_right", none) ["_law_source"] (sp_r4 K) := by
  obtain ⟨fd, F⟩ := F_law_blocks_right T
  refine ⟨fd, ?_, F.bindsN (fun _ _ _ _ _ _ us hl => match us, hl with | [_], _ => rfl), F.kp⟩
  obtain ⟨fd_law_blocks, G_law_blocks, bi_law_blocks, kp_law_blocks⟩ := ok_law_blocks (P := P) (base := base) T
  obtain ⟨fd_law_draw, G_law_draw, bi_law_draw, kp_law_draw⟩ := ok_law_draw (P := P) (base := base) T
  obtain ⟨fd_law_said, G_law_said, bi_law_said, kp_law_said⟩ := ok_law_said (P := P) (base := base) T
  obtain ⟨fd_law_wrapped, G_law_wrapped, bi_law_wrapped, kp_law_wrapped⟩ := ok_law_wrapped (P := P) (base := base) T
  refine F.ok sc_law_blocks_right (fun vs H Q E h => ?_) (fun cdv A outer s H vs Q E hr h => ?_)
  · obtain ⟨F, p, rfl, xF, fp, sr, Qq⟩ := h
    rfl
  · obtain ⟨F, p, rfl, xF, fp, sr, Qq⟩ := h
    refine ⟨_, PSs.nox (pss_cons (ps_if (pt_cmpR (op_neM hr) (pe_call G_law_said (hr.mono (by decide)) rfl (g_law_said T) kp_law_said bi_law_said .nil passF (pa_cons (pe_call G_law_blocks (hr.mono (by decide)) rfl (g_law_blocks T) kp_law_blocks bi_law_blocks .nil passF (pa_cons (pe_tup (pa_cons pe_str (pa_cons pe_str pa_nil))) (pa_cons pe_int pa_nil))) pa_nil)) (pe_lst (pa_cons pe_str (pa_cons pe_int pa_nil))) (nomark _)) (pss_one (ps_ret pe_bl)) pss_nil) (pss_cons (ps_for PassesOwn.never rfl (pi_list (pe_lst (pa_cons (pe_tup (pa_cons pe_str (pa_cons pe_str pa_nil))) (pa_cons pe_non (pa_cons (pe_tup (pa_cons pe_str (pa_cons pe_int pa_nil))) pa_nil))))) (pg_name (i := 1) sc_law_blocks_right.nd rfl (Or.inl rfl)) (pss_one (ps_if (pt_cmpR op_ne (pe_call G_law_said (hr.mono (by decide)) rfl (g_law_said T) kp_law_said bi_law_said .nil passF (pa_cons (pe_call G_law_blocks (hr.mono (by decide)) rfl (g_law_blocks T) kp_law_blocks bi_law_blocks .nil passF (pa_cons (pv 1) (pa_cons pe_int pa_nil))) pa_nil)) pe_int (nomark _)) (pss_one (ps_ret pe_bl)) pss_nil))) (pss_cons (ps_set (i := 2) sc_law_blocks_right.nd rfl (Or.inl rfl) (pe_call G_law_wrapped (hr.mono (by decide)) rfl (g_law_wrapped T) kp_law_wrapped bi_law_wrapped .nil passF (pa_cons (pv 0) (pa_cons (pe_call G_law_blocks (hr.mono (by decide)) rfl (g_law_blocks T) kp_law_blocks bi_law_blocks .nil passF (pa_cons (pe_tup (pa_cons pe_str (pa_cons pe_str pa_nil))) (pa_cons pe_int pa_nil))) (pa_cons (pe_call G_law_draw (hr.mono (by decide)) rfl (g_law_draw T) kp_law_draw bi_law_draw .nil passF (pa_cons (pv 0) (pa_cons pe_int pa_nil))) pa_nil))))) (pss_cons (ps_if (pt_cmpR op_ne (pe_ix ix_list (pe_call G_law_said (hr.mono (by decide)) rfl (g_law_said T) kp_law_said bi_law_said .nil passF (pa_cons (pv 2) pa_nil)) pe_int (fun _ _ => rfl)) pe_str (nomark _)) (pss_one (ps_ret pe_bl)) pss_nil) (pss_cons (ps_set (i := 3) sc_law_blocks_right.nd rfl (Or.inl rfl) (pe_call G_law_wrapped (hr.mono (by decide)) rfl (g_law_wrapped T) kp_law_wrapped bi_law_wrapped .nil passF (pa_cons (pv 0) (pa_cons (pe_call G_law_blocks (hr.mono (by decide)) rfl (g_law_blocks T) kp_law_blocks bi_law_blocks .nil passF (pa_cons (pe_tup (pa_cons pe_str (pa_cons pe_str pa_nil))) (pa_cons pe_int pa_nil))) (pa_cons pe_int pa_nil))))) (pss_one (ps_ret (pe_and (pe_cmpR op_eq (pe_call G_law_said (hr.mono (by decide)) rfl (g_law_said T) kp_law_said bi_law_said .nil passF (pa_cons (pv 3) pa_nil)) pe_int (nomark _)) (pe_one (pe_cmpR (op_eqM hr) (pe_call G_law_said (hr.mono (by decide)) rfl (g_law_said T) kp_law_said bi_law_said .nil passF (pa_cons (pe_call G_law_blocks (hr.mono (by decide)) rfl (g_law_blocks T) kp_law_blocks bi_law_blocks .nil passF (pa_cons (pe_call G_law_wrapped (hr.mono (by decide)) rfl (g_law_wrapped T) kp_law_wrapped bi_law_wrapped .nil passF (pa_cons (pv 0) (pa_cons pe_non (pa_cons pe_int pa_nil)))) (pa_cons pe_int pa_nil))) pa_nil)) (pe_lst (pa_cons pe_int pa_nil)) (nomark _))))))))))), ?_⟩
    have srk : ∀ {H H' : Hp}, Src H p → Ex H H' → Src H' p := fun s e => by obtain ⟨x, y, z, h⟩ := s; exact ⟨x, y, z, e _ _ h⟩
    have nf : ∀ {F H : Hp} {q : Addr} {o : HO}, Src H p → F p = none → H q = none → upd F q o p = none := fun {F H q o} s f n => by
      rw [upd_ne (fun z => by obtain ⟨_, _, _, y⟩ := s; rw [z, n] at y; cases y)]
      exact f
    refine ⟨sz (by simp), ?_⟩
    intro p1 n1
    generalize e1 : upd _ p1 _ = H1
    obtain ⟨x1, s1, o1⟩ := new_of e1 n1
    clear e1
    have g1 : Gr (fun b => b = p) F H _ H1 := Gr.frz xF n1 s1 o1
    have sr1 := srk sr x1
    have f1 := nf sr fp n1 (o := .tup [.str "do", .str "d"])
    refine ⟨_, _, _, 25, rfl, g1.fh, by decide, .tup (Evl.st_of upd_same) (.cons (.str _) (.cons (.str _) .nil)), fun F2 H2 v2 g2 dv2 => ?_⟩
    have g2' : Gr (fun b => b = p) _ H1 F2 H2 := g2.mono fun _ z => z.elim
    have g12 := g1.trans g2'
    have sr2 : Src H2 p := srk sr1 g2.ex
    have f2 : F2 p = none := g2.nw p (by obtain ⟨y1, y2, y3, y4⟩ := sr1; rw [y4]; exact fun z => nomatch z) f1 id
    refine ⟨H2, _, _, _, rfl, dp_ex g12.fh dv2, Evl.Ex.refl _, gs_blk gs_dd 25, says_b25, fun H3 u3 x3 d3 => ?_⟩
    refine ⟨sz (by simp), ?_⟩
    intro p4 n4
    generalize e4 : upd _ p4 _ = H4
    obtain ⟨x4, s4, o4⟩ := new_of e4 n4
    clear e4
    have g4 := g12.trans (Gr.new g12.fh (x3.trans x4))
    have sr4 := srk sr2 (x3.trans x4)
    refine ⟨_, _, dp_ex x4 d3, .lst (Evl.sq_of s4) (.cons (.str _) (.cons (.int _) .nil)), (by kernel_rfl), (by kernel_rfl), (by decide +kernel), _, rfl, itF (by decide +kernel) ?_⟩
    refine ⟨sz (by simp), ?_⟩
    intro p5 n5
    generalize e5 : upd _ p5 _ = H5
    obtain ⟨x5, s5, o5⟩ := new_of e5 n5
    clear e5
    refine ⟨sz (by simp), ?_⟩
    intro p6 n6
    generalize e6 : upd _ p6 _ = H6
    obtain ⟨x6, s6, o6⟩ := new_of e6 n6
    clear e6
    refine ⟨sz (by simp), ?_⟩
    intro p7 n7
    generalize e7 : upd _ p7 _ = H7
    obtain ⟨x7, s7, o7⟩ := new_of e7 n7
    clear e7
    refine ⟨p7, rfl, ⟨_, Evl.sq_of s7⟩, ?_⟩
    have g5 := g4.trans (Gr.frz g4.fh n5 s5 o5)
    have g6 := g5.trans (Gr.frz g5.fh n6 s6 o6)
    have g7 := g6.trans (Gr.new g6.fh x7)
    have sr5 := srk sr4 x5
    have sr6 := srk sr5 x6
    have sr7 := srk sr6 x7
    have f6 := nf sr5 (nf sr4 f2 n5 (o := .tup [.str "do", .str "d"])) n6 (o := .tup [.str "break", .int 1])
    have e6 := (Gr.frz (M := fun b => b = p) g5.fh n6 s6 o6).ff
    have k5 := e6 _ _ (upd_same (H := F2) (a := p5) (o := .tup [.str "do", .str "d"]))
    have k6 : upd (upd F2 p5 (.tup [.str "do", .str "d"])) p6 (.tup [.str "break", .int 1]) p6 = some (.tup [.str "break", .int 1]) := upd_same
    generalize upd (upd F2 p5 (.tup [.str "do", .str "d"])) p6 (.tup [.str "break", .int 1]) = F6 at *
    have three : ∀ x ∈ [V.ref p5, .non, .ref p6], ∃ d, Dp K F6 x d ∧ GS d := fun x hx => by
      simp only [List.mem_cons, List.not_mem_nil, or_false] at hx
      rcases hx with rfl | rfl | rfl
      · exact ⟨_, .tup (Evl.st_of k5) (.cons (.str _) (.cons (.str _) .nil)), gs_dd⟩
      · exact ⟨_, .non, gs_no⟩
      · exact ⟨_, .tup (Evl.st_of k6) (.cons (.str _) (.cons (.int _) .nil)), gs_leaf (by kernel_rfl) (fun k y r e => by cases e) rfl⟩
    have p7n : p7 ≠ p := fun z => by obtain ⟨_, _, _, y⟩ := sr6; rw [z, y] at n7; cases n7
    refine for_it (walk_list (xs := [V.ref p5, .non, .ref p6])) (fun j σ' H' => ∃ (F' : Hp) (o1 o2 o3 : Option V), σ' = [some (.ref p), o1, o2, o3] ∧ Gr (fun b => b = p) F6 H7 F' H' ∧ F' p = none ∧ Src H' p) ?_ ?_ ?_ ?_
    · exact ⟨F6, _, _, _, rfl, Gr.refl g7.fh, f6, sr7⟩
    · rintro i σ' H' _ ⟨F', _, _, _, _, g, _⟩
      exact Evl.sq_of (g.kp _ _ s7 p7n)
    · rintro j vj σ' Hc H8 hj ⟨F8, o1, o2, o3, rfl, g8, f8, sr8⟩ ⟨rfl, hvj⟩
      obtain ⟨dj, dvj, gj⟩ := three vj (List.mem_of_getElem? hvj)
      refine ⟨_, rfl, F8, vj, dj, 26, rfl, g8.fh, by decide, dp_ex g8.ff dvj, fun F9 H9 v9 g9 dv9 => ?_⟩
      have g9' : Gr (fun b => b = p) F8 H8 F9 H9 := g9.mono fun _ z => z.elim
      have f9 : F9 p = none := g9.nw p (by obtain ⟨y1, y2, y3, y4⟩ := sr8; rw [y4]; exact fun z => nomatch z) f8 id
      have g89 := g8.trans g9'
      refine ⟨H9, _, _, _, rfl, dp_ex g89.fh dv9, Evl.Ex.refl _, gs_blk gj 26, says_b26, fun H10 u10 x10 d10 => ?_⟩
      obtain rfl := dp_int d10
      refine ⟨rfl, _, rfl, itF (by decide) ?_⟩
      exact ⟨F9, _, _, _, rfl, g89.trans (Gr.new g89.fh x10), f9, srk sr8 (g9.ex.trans x10)⟩
    rintro σ' H8 ⟨F8, o1, o2, o3, rfl, g8, f8, sr8⟩
    have g78 := g7.trans g8
    -- mixed
    refine ⟨_, rfl, sz (by simp), ?_⟩
    intro p9 n9
    generalize e9 : upd _ p9 _ = H9
    obtain ⟨x9, s9, o9⟩ := new_of e9 n9
    clear e9
    have g9 := g78.trans (Gr.frz g78.fh n9 s9 o9)
    have sr9 := srk sr8 x9
    have f9 := nf sr8 f8 n9 (o := .tup [.str "do", .str "d"])
    refine ⟨_, _, _, 25, rfl, g9.fh, by decide, .tup (Evl.st_of upd_same) (.cons (.str _) (.cons (.str _) .nil)), fun F10 H10 v10 g10 dv10 => ?_⟩
    have g10' : Gr (fun b => b = p) _ H9 F10 H10 := g10.mono fun _ z => z.elim
    have g910 := g9.trans g10'
    have f10 : F10 p = none := g10.nw p (by obtain ⟨y1, y2, y3, y4⟩ := sr9; rw [y4]; exact fun z => nomatch z) f9 id
    obtain ⟨sa, sb, sc, hsr⟩ := srk sr9 g10.ex
    refine ⟨_, rfl, p, sa, sb, sc, 40, rfl, hsr, by decide, by decide, fun sa' sb' sc' v v0 v1 => ?_⟩
    generalize e11 : upd _ p _ = H11
    obtain ⟨s11, o11⟩ := set_of e11
    clear e11
    obtain ⟨m, rfl⟩ : ∃ m : Nat, v = (m : Int) := ⟨v.toNat, by omega⟩
    have g11 := g910.trans (Gr.set g910.fh rfl f10 o11)
    refine ⟨F10, p, v10, _, m, rfl, g11.fh, f10, ⟨_, _, _, s11⟩, by omega, dv10, fun F12 H12 v12 d12 g12 f12 sr12 dv12 w12 => ?_⟩
    have g112 := g11.trans g12
    obtain ⟨nm, sm⟩ := says_mixed w12 (by omega)
    refine ⟨_, rfl, H12, _, _, _, rfl, dp_ex g112.fh dv12, Evl.Ex.refl _, gs_wr (gs_blk gs_dd 25) w12, sm, fun H13 u13 x13 d13 => ?_⟩
    obtain ⟨a13, xs13, rfl, q13, dd13⟩ := dp_lst d13
    cases dd13 with
    | @cons u _ _ _ du _ =>
    obtain rfl := dp_str du
    refine ⟨a13, _, 0, .str "made", rfl, rfl, q13, at0, rfl, _, rfl, itF (by decide) ?_⟩
    have g13 := g112.trans (Gr.new g112.fh x13)
    have sr13 := srk sr12 x13
    -- deep
    refine ⟨_, rfl, sz (by simp), ?_⟩
    intro p14 n14
    generalize e14 : upd _ p14 _ = H14
    obtain ⟨x14, s14, o14⟩ := new_of e14 n14
    clear e14
    have g14 := g13.trans (Gr.frz g13.fh n14 s14 o14)
    have sr14 := srk sr13 x14
    have f14 := nf sr13 f12 n14 (o := .tup [.str "do", .str "d"])
    refine ⟨_, _, _, 26, rfl, g14.fh, by decide, .tup (Evl.st_of upd_same) (.cons (.str _) (.cons (.str _) .nil)), fun F15 H15 v15 g15 dv15 => ?_⟩
    have g15' : Gr (fun b => b = p) _ H14 F15 H15 := g15.mono fun _ z => z.elim
    have g145 := g14.trans g15'
    have f15 : F15 p = none := g15.nw p (by obtain ⟨y1, y2, y3, y4⟩ := sr14; rw [y4]; exact fun z => nomatch z) f14 id
    refine ⟨F15, p, v15, _, 74, rfl, g145.fh, f15, srk sr14 g15.ex, by decide, dv15, fun F16 H16 v16 d16 g16 f16 sr16 dv16 w16 => ?_⟩
    have g156 := g145.trans g16
    refine ⟨_, rfl, H16, _, _, _, rfl, dp_ex g156.fh dv16, Evl.Ex.refl _, gs_wr (gs_blk gs_dd 26) w16, says_d26 w16, fun H17 u17 x17 d17 => ?_⟩
    obtain rfl := dp_int d17
    refine ⟨rfl, _, rfl, itT (by decide) ?_⟩
    have g17 := g156.trans (Gr.new g156.fh x17)
    have sr17 := srk sr16 x17
    refine ⟨_, rfl, F16, p, .non, .none, 74, rfl, g17.fh, f16, sr17, by decide, .non, fun F18 H18 v18 d18 g18 f18 sr18 dv18 w18 => ?_⟩
    have g178 := g17.trans g18
    refine ⟨F18, v18, d18, 25, rfl, g178.fh, by decide, dv18, fun F19 H19 v19 g19 dv19 => ?_⟩
    have g19' : Gr (fun b => b = p) F18 H18 F19 H19 := g19.mono fun _ z => z.elim
    have g189 := g178.trans g19'
    have f19 : F19 p = none := g19.nw p (by obtain ⟨y1, y2, y3, y4⟩ := sr18; rw [y4]; exact fun z => nomatch z) f18 id
    refine ⟨H19, _, _, _, rfl, dp_ex g189.fh dv19, Evl.Ex.refl _, gs_blk (gs_wr gs_no w18) 25, says_n124 w18, fun H20 u20 x20 d20 => ?_⟩
    refine ⟨sz (by simp), ?_⟩
    intro p21 n21
    generalize e21 : upd _ p21 _ = H21
    obtain ⟨x21, s21, o21⟩ := new_of e21 n21
    clear e21
    refine ⟨_, _, dp_ex x21 d20, .lst (Evl.sq_of s21) (.cons (.int _) .nil), rfl, rfl, (by decide +kernel), ?_⟩
    have e1 : PyData.eqv (.list [.int 124]) (.list [.int 124]) = true := by decide +kernel
    rw [e1]
    have g21 := g189.trans (Gr.new g189.fh (x20.trans x21))
    exact Qq F19 H21 g21 f19 (srk sr18 ((g19.ex.trans x20).trans x21))
end

end Fc

set_option maxRecDepth 100000
set_option maxHeartbeats 4000000
namespace Fc
open PySem PySem.Spec PyProof.Rows L2 FcR
open Evl (Ex)

section
variable {P : Program} {w : World} {h : Heap} {K : PySem.W.Frag} {mg : Str → Option Value} {base : Heap}
abbrev N_law : List Str := ["_law_script", "_law_cell", "_law_source"]
theorem sc_law : FnScope N_law ["_law_script"] (defScope sd_law) := ⟨rfl, rfl, rfl, by decide +kernel, rfl, by decide +kernel, by decide +kernel⟩
theorem okF_law (T : Tx w h K mg) : ∃ fd, FnOk P w K mg base (CX P w) 10 (He.fAd K ("law", none)) fd ["_law_script"] (sp_law K) ∧ Binds K fd ["_law_script"] [] ∧ PySem.W.keepIn K (.ref (He.fAd K ("law", none))) = true ∧ FunD K "law" "law" (defArgs sd_law) (defBody sd_law) (defScope sd_law) [] [] (He.fAd K ("law", none)) fd := by
  obtain ⟨fd, F⟩ := F_law T
  refine ⟨fd, ?_, F.bindsN (fun _ _ _ _ _ _ us hl => match us, hl with | [_], _ => rfl), F.kp, F⟩
  obtain ⟨fd_law_blocks_right, G_law_blocks_right, bi_law_blocks_right, kp_law_blocks_right⟩ := ok_law_blocks_right (P := P) (base := base) T
  obtain ⟨fd_law_cell_at, G_law_cell_at, bi_law_cell_at, kp_law_cell_at⟩ := ok_law_cell_at (P := P) (base := base) T
  obtain ⟨fd_law_deep_right, G_law_deep_right, bi_law_deep_right, kp_law_deep_right⟩ := ok_law_deep_right (P := P) (base := base) T
  obtain ⟨fd_law_many_right, G_law_many_right, bi_law_many_right, kp_law_many_right⟩ := ok_law_many_right (P := P) (base := base) T
  obtain ⟨fd_law_source_of, G_law_source_of, bi_law_source_of, kp_law_source_of⟩ := ok_law_source_of (P := P) (base := base) T
  refine F.ok sc_law (fun vs H Q E h => ?_) (fun cdv A outer s H vs Q E hr h => ?_)
  · obtain ⟨a, ns, rfl, hl, hs, q⟩ := h
    rfl
  · obtain ⟨a, ns, rfl, hl, hs, q⟩ := h
    refine ⟨_, PSs.nox (pss_cons (ps_for PassesOwn.never rfl (pi_list (pe_op op_cat (pe_lst (pa_cons (pe_call G_law_cell_at (hr.mono (by decide)) rfl (g_law_cell_at T) kp_law_cell_at bi_law_cell_at .nil passF (pa_cons (pv 0) (pa_cons pe_int pa_nil))) pa_nil)) (pe_slice sl_list (pv 0) (po_some pe_int) (po_some pe_int)))) (pg_name (i := 1) sc_law.nd rfl (Or.inl rfl)) (pss_cons (ps_set (i := 2) sc_law.nd rfl (Or.inl rfl) (pe_call G_law_source_of (hr.mono (by decide)) rfl (g_law_source_of T) kp_law_source_of bi_law_source_of .nil passF (pa_cons (pv 1) pa_nil))) (pss_one (ps_if (PW.pt (pw_or (pt_not (pt_val (pe_call G_law_many_right (hr.mono (by decide)) rfl (g_law_many_right T) kp_law_many_right bi_law_many_right .nil passF (pa_cons (pv 2) pa_nil)))) (pw_or (pt_not (pt_val (pe_call G_law_deep_right (hr.mono (by decide)) rfl (g_law_deep_right T) kp_law_deep_right bi_law_deep_right .nil passF (pa_cons (pv 2) pa_nil)))) (pw_or1 (pt_not (pt_val (pe_call G_law_blocks_right (hr.mono (by decide)) rfl (g_law_blocks_right T) kp_law_blocks_right bi_law_blocks_right .nil passF (pa_cons (pv 2) pa_nil)))))))) (pss_one (ps_ret pe_bl)) pss_nil)))) (pss_one (ps_ret pe_bl))), ?_⟩
    refine ⟨_, rfl, a, ns, 0, rfl, hs, sz (by simp), ?_⟩
    intro p1 n1
    generalize e1 : upd _ p1 _ = H1
    obtain ⟨x1, s1, o1⟩ := new_of e1 n1
    clear e1
    have hs1 := Evl.ex_l x1 hs
    refine ⟨_, rfl, 1, rfl, 4, rfl, a, _, rfl, hs1, ?_⟩
    intro p2 n2
    generalize e2 : upd _ p2 _ = H2
    obtain ⟨x2, s2, o2⟩ := new_of e2 n2
    clear e2
    have hc2 : (cutV (ns.map V.int) (some 1) (some 4)).length ≤ 63 := Nat.le_trans (cutV_length ..) (by rw [List.length_map]; exact hl)
    refine ⟨p1, p2, _, _, rfl, rfl, x2 _ _ s1, s2, sz (by simp; omega), ?_⟩
    intro p3 n3
    generalize e3 : upd _ p3 _ = H3
    obtain ⟨x3, s3, o3⟩ := new_of e3 n3
    clear e3
    have isI : ∀ (i : Nat) (x : V), ([V.int (ns.getD 0 0)] ++ cutV (ns.map V.int) (some 1) (some 4))[i]? = some x → ∃ c, x = .int c := fun i x hx => by
      have hm := List.mem_of_getElem? hx
      rcases List.mem_append.mp hm with h1 | h1
      · exact ⟨_, List.mem_singleton.mp h1⟩
      · obtain ⟨c, _, e⟩ := List.mem_map.mp (cut_mem h1)
        exact ⟨c, e.symm⟩
    generalize [V.int (ns.getD 0 0)] ++ cutV (ns.map V.int) (some 1) (some 4) = cs at s3 isI
    refine ⟨p3, rfl, ⟨_, Evl.sq_of s3⟩, ?_⟩
    refine for_it (walk_list (xs := cs)) (fun i σ' H' => Ex H3 H' ∧ ∃ u1 u2, σ' = [some (.ref a), u1, u2]) ?_ ?_ ?_ ?_
    · exact ⟨Evl.Ex.refl _, _, _, rfl⟩
    · exact fun i σ' H' _ ⟨e, _⟩ => Evl.sq_of (e _ _ s3)
    rotate_left
    · rintro σ' H' ⟨e, u1, u2, rfl⟩
      exact q _
    rintro i v σ' Ha Hb hi ⟨e, u1, u2, rfl⟩ ⟨rfl, hv⟩
    obtain ⟨c, rfl⟩ := isI i v hv
    refine ⟨_, rfl, c, rfl, fun p4 sx sy n4 => ?_⟩
    generalize e4 : upd _ p4 _ = H4
    obtain ⟨x4, s4, o4⟩ := new_of e4 n4
    clear e4
    have r4 : Gr (fun b => b = p4) hp0 H4 hp0 H4 := Gr.refl (fun b o z => by cases z)
    have sr4 : Src H4 p4 := ⟨_, _, _, s4⟩
    refine ⟨_, rfl, hp0, p4, rfl, r4.fh, rfl, sr4, fun F5 H5 g5 f5 sr5 => ?_⟩
    refine ⟨_, rfl, itF rfl ?_⟩
    refine ⟨_, rfl, F5, p4, rfl, g5.fh, f5, sr5, fun F6 H6 g6 f6 sr6 => ?_⟩
    refine ⟨_, rfl, itF rfl ?_⟩
    refine ⟨_, rfl, F6, p4, rfl, g6.fh, f6, sr6, fun F7 H7 g7 f7 sr7 => ?_⟩
    refine ⟨_, rfl, itF rfl ?_⟩
    refine ⟨?_, _, _, rfl⟩
    intro b o hb
    have b4 : b ≠ p4 := ne_of_none (e b o hb) n4
    exact ((g5.trans g6).trans g7).kp b o (x4 b o (e b o hb)) b4
theorem ok_law (T : Tx w h K mg) : Ok P w K mg base 10 ("law", none) ["_law_script"] (sp_law K) := by
  obtain ⟨fd, a, b, c, _⟩ := okF_law (P := P) (base := base) T
  exact ⟨fd, a, b, c⟩
end

end Fc

namespace Fc
open PySem PySem.Spec PyProof.Rows L2
/-- a def that lets nothing out -/
theorem calm_fn {P : Program} {w : World} {K : PySem.W.Frag} {mg : Str → Option Value} {base : Heap} {k : Nat} {f : Addr} {fd : FuncData} {ps : List Str} {sp : Sp} (G : FnOk P w K mg base (L2.CX P w) k f fd ps sp) (hsp : ∀ vs H Q E, sp vs H Q E → sp vs H Q (fun _ _ _ => False)) : FnOk P w K mg base CX0 k f fd ps sp :=
  ⟨G.len, fun A outer s H args us vs Q E hr e b r h => codeAny_mono (G.run A outer s H args us vs Q (fun _ _ _ => False) hr e b r (hsp _ _ _ _ h)) fun r s' hq => by
    cases r with
    | error e =>
      obtain ⟨_, _, _, _, _, _, _, _, _, _, _, _, z⟩ := hq
      exact z.elim
    | ok fl => cases fl <;> exact hq⟩
end Fc
open PySem PySem.W PyProof.Rows in
set_option maxRecDepth 100000 in
set_option maxHeartbeats 0 in
theorem PySem.Challenge.cw_finallycopies_k04_limits_of_code_holds : PySem.Challenge.rw_finallycopies_k04_limits_of_code.Holds := by
  w_on; o_law
  refine HandSHeadRun.head_any (r := Fc.R) (q := view Fc.R.prog [33]) (H := Fc.hk) (ob := Fc.ob) (M := 6000) (loose := Fc.looseL) (d := HandSHeadRun.topDef Fc.R.prog 33) (kwd := []) Fc.ob_eq
    (by kernel_rfl) (fun s => by kernel_rfl) Fc.run (by kernel_rfl) (by kernel_rfl) (by kernel_rfl) (by rfl) (by first | assumption | decide +kernel) (by decide +kernel) ⟨rfl, rfl, rfl, rfl, rfl, by decide +kernel⟩ ?hw ?hc
  case hw => w_witness2
  case hc =>
    refine L2.walk_ofE (l := PySem.Challenge.rw_finallycopies_k04_limits_of_code) (n := 63) (k := 10) (x := "_law_script") (CX := L2.CX0) rfl (by decide) (by kernel_rfl) ⟨rfl, by decide, by decide⟩ ?F (fun _ _ _ _ z => z)
    intro w mg fa h Y G hmg0
    obtain ⟨K, KX, c⟩ := Y
    have hmg : mg ("law" : PySem.Str) = some (.ref fa) := by
      have e : (HandSHeadRun.topDef Fc.R.prog 33).name = ("law" : PySem.Str) := by kernel_rfl
      rw [← e]
      exact hmg0
    have T : Fc.Tx w h K mg := ⟨KX, G, c⟩
    obtain rfl : fa = He.ga K "law" := Value.ref.inj (Option.some.inj (hmg.symm.trans (Fc.g_law T)))
    obtain ⟨fd, F⟩ := Fc.F_law T
    have b := L2.FunD.bindsA (ps := ["_law_script"]) F fun _ _ _ _ _ _ us hl => match us, hl with | [_], _ => rfl
    refine ⟨K, fd, Fc.sp_law K, KX, fun s v => b s [v] rfl, fun H a ns hl _ hS => ⟨a, ns, rfl, hl, hS, fun _ => rfl⟩, fun base _ _ => ?_⟩
    obtain ⟨fd', G', _, _, F'⟩ := Fc.okF_law (P := (PySem.Challenge.rw_finallycopies_k04_limits_of_code).prog) (base := base) T
    obtain rfl : fd = fd' := by
      obtain ⟨_, _, _, _, _, _, _, _, _, _, _, l1, _⟩ := F.ex
      obtain ⟨_, _, _, _, _, _, _, _, _, _, _, l2, _⟩ := F'.ex
      have z := l1.symm.trans l2
      cases z
      rfl
    exact Fc.calm_fn G' (fun _ _ _ _ z => z)


