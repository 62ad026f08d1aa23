import PyProof.Rows.All
import Wide.All
import OpenK.AllK
import Wide.FinOn
import KE.KDictItemsList
import HandS.ForMost
import PyProof.EqAt
import PyProof.EqKinds
import PyProof.EnumMake
import HandS.Exc
import HandS.Conv
import HandS.Evl
import HandS.IsInst
import HandS.Style
import HandS.TupAny
import HandS.Defaults
import HandS.HeadHook4
import HandS.Walk
import KE.KExcInit
import KE.KExcIs
import HandS.ExcOwn
import HandS.ExcInit
import HandS.ExcValue
import HandS.OwnEq
import HandS.MakeKw
import HandS.TryMany
import HandS.ExcField
import HandS.CallLocal
import HandS.Lambda
import HandS.Nested
import HandS.EndTab
import HandS.HeadWalk
import PyProof.ReprRoads
import HandS.Head0
import HandS.Head1
import HandS.Head2
import HandS.HeadEnd
import HandS.HeadHook1
import HandS.HeadHook2
import HandS.HeadHook3
import HandS.More
import HandS.RaiseMore
import HandS.Text
import PyProof.StrBlock2
import PyProof.CallFns
import PyProof.NeKinds
import PySem.Challenge.RW_finallycopies_k71_wrong_texts
set_option Elab.async false
set_option linter.all false
set_option maxRecDepth 100000
set_option maxHeartbeats 4000000
/-! list(enumerate(xs)): the pairs of a list, in order -/
namespace FcE
open PySem PySem.W PySem.Calls PyProof.Rows PyProof.V PySem.Spec

/-- an enumerate object behind a pair that it gave out and that still lives at a -/
def EnB (h : Heap) (e it a : Addr) (f : Bool) (i : Int) (item : Value) : Prop :=
  h.get? e = some { cls := .type "enumerate", dict := none, data := .fields #[rawInt a, .bool f, .ref it, rawInt i, .none, item], slots := #[] }

section
variable {prog : Program} {w : World} {A : Around} {E : Value → Shared → Prop} {s : Shared}
theorem enB_next {e it l a : Addr} {f : Bool} {oa : Obj} {i : Nat} {items : Array Value} {x item : Value} {Q : Option Value → Shared → Prop}
    (he : EnB s.heap e it a f i item) (ha : s.heap.get? a = some oa) (hae : a ≠ e) (hai : a ≠ it) (hit : s.heap.IsListIter it l i) (hl : s.heap.IsList l items) (hx : items[i]? = some x) (hne : e ≠ it)
    (hQ : ∀ h', EnB h' e it a true ((i : Int) + 1) item → h'.IsListIter it l (i + 1) →
      h'.get? s.heap.objs.size = some { cls := .type "tuple", data := .seq #[.int i s.toks, x] } → h'.objs.size = s.heap.objs.size + 1 →
      (∀ b o, b ≠ e → b ≠ it → s.heap.get? b = some o → h'.get? b = some o) → Q (some (.ref s.heap.objs.size)) { s with heap := h', toks := s.toks + 1 }) :
    wpAny (model prog w) A (pyNext (.ref e)) Q E s := by
  obtain ⟨hp, g, d, tk, os⟩ := s
  have hT : Shared.TypeIs ⟨hp, g, d, tk, os⟩ (.ref e) "enumerate" := ⟨_, he, rfl⟩
  unfold pyNext
  refine wpAny_bind (wpAny_attempt (wpAny_callSpecial?_slot (name := Str.ofString "__next__") hT F.slot_enumerate_next
    (wpAny_call_entry F.slot_enumerate_next hT F.entry_enumerate_next ?_ (F.args_enumerate_next_1 _))))
  show wpAny _ _ (field (.ref e) 2 >>= _) _ _ _
  refine wpAny_bind (wpAny_field he rfl (x := .ref it) rfl ?_)
  refine wpAny_bind (wpAny_nextOf_list_item hit hl hx fun h1 hit1 hs1 => ?_)
  replace hs1 : Heap.SameBut it hp h1 := hs1
  have he1 : EnB h1 e it a f i item := (hs1.2 e hne).trans he
  show wpAny _ _ (field (.ref e) 3 >>= _) _ _ ⟨h1, g, d, tk, os⟩
  refine wpAny_bind (wpAny_field he1 rfl (x := rawInt i) rfl ?_)
  show wpAny _ _ (field (.ref e) 4 >>= _) _ _ ⟨h1, g, d, tk, os⟩
  refine wpAny_bind (wpAny_field he1 rfl (x := .none) rfl ?_)
  show wpAny _ _ (mkInt i >>= _) _ _ ⟨h1, g, d, tk, os⟩
  refine wpAny_bind (wpAny_mkInt ?_)
  show wpAny _ _ (setField (.ref e) 3 (rawInt ((i : Int) + 1)) >>= _) _ _ ⟨h1, g, d, tk + 1, os⟩
  refine wpAny_bind (wpAny_setField_rec he1 (by simp) fun h2 he2 hs2 => ?_)
  replace hs2 : Heap.SameBut e h1 h2 := hs2
  replace he2 : EnB h2 e it a f ((i : Int) + 1) item := he2
  show wpAny _ _ (setField (.ref e) 4 .none >>= _) _ _ ⟨h2, g, d, tk + 1, os⟩
  refine wpAny_bind (wpAny_setField_rec he2 (by simp) fun h3 he3 hs3 => ?_)
  replace hs3 : Heap.SameBut e h2 h3 := hs3
  replace he3 : EnB h3 e it a f ((i : Int) + 1) item := he3
  show wpAny _ _ (newTuple [.int i tk, x] >>= _) _ _ ⟨h3, g, d, tk + 1, os⟩
  refine wpAny_bind (wpAny_newTuple ?_)
  have he4 : EnB (h3.push { cls := .type "tuple", data := .seq #[.int i tk, x] }) e it a f ((i : Int) + 1) item := Heap.get?_push_of_some _ he3
  generalize hh4 : h3.push { cls := .type "tuple", data := .seq #[.int i tk, x] } = h4 at he4
  have hsz : h3.objs.size = hp.objs.size := by rw [hs3.1, hs2.1, hs1.1]
  have hel : e < hp.objs.size := Heap.lt_size he
  have ht4 : h4.get? hp.objs.size = some { cls := .type "tuple", data := .seq #[.int i tk, x] } := by rw [← hh4, ← hsz]; exact Heap.get?_push_size _ rfl
  have hz4 : h4.objs.size = hp.objs.size + 1 := by rw [← hh4, Heap.size_push, hsz]
  have hk4 : ∀ b o, b ≠ e → b ≠ it → hp.get? b = some o → h4.get? b = some o := fun b o hbe hbi hb => by
    rw [← hh4]; exact Heap.get?_push_of_some _ (hs3.extBut b o hbe (hs2.extBut b o hbe (hs1.extBut b o hbi hb)))
  have hit4 : h4.IsListIter it l (i + 1) := by
    rw [← hh4]; obtain ⟨o, ho, r⟩ := (hit1.extBut hs2.extBut (Ne.symm hne)).extBut hs3.extBut (Ne.symm hne); exact ⟨o, Heap.get?_push_of_some _ ho, r⟩
  show wpAny _ _ (Builtin.SmallTypes.ownedTupleIsFree (.ref e) >>= _) _ _ ⟨h4, g, d, tk + 1, os⟩
  rw [hsz]
  have ha4 : h4.get? a = some oa := hk4 a oa hae hai ha
  clear hh4 he3 hs3 he2 hs2 he1 hs1 hit1 hsz h3 h2 h1
  refine wpAny_bind ?_
  unfold Builtin.SmallTypes.ownedTupleIsFree
  refine wpAny_bind (wpAny_field he4 rfl (x := rawInt a) rfl ?_)
  show wpAny _ _ (loadIfAlive ((a : Int).toNat) >>= _) _ _ _
  rw [Int.toNat_natCast]
  refine wpAny_bind (kdx_alive ha4 ?_)
  simp only [Option.isNone_some, Bool.false_eq_true, if_false]
  refine wpAny_bind (wpAny_field he4 rfl (x := .bool f) rfl ?_)
  have fin : ∀ h5 : Heap, EnB h5 e it a true ((i : Int) + 1) item → Heap.SameBut e h4 h5 → Q (some (.ref hp.objs.size)) ⟨h5, g, d, tk + 1, os⟩ := fun h5 he5 hs5 =>
    hQ h5 he5 (hit4.extBut hs5.extBut (Ne.symm hne)) (by exact hs5.extBut _ _ (Nat.ne_of_gt hel) ht4) (by show h5.objs.size = hp.objs.size + 1; rw [hs5.1, hz4]) fun b o hbe hbi hb => hs5.extBut b o hbe (hk4 b o hbe hbi hb)
  cases f with
  | true =>
    rw [if_neg (show ¬ ((Value.bool true != Value.bool true) = true) from Bool.false_ne_true)]
    refine wpAny_pure ?_
    simp only [Bool.false_eq_true, if_false]
    exact wpAny_pure ⟨_, rfl, wpAny_pure (fin h4 he4 (Heap.SameBut.refl _ _))⟩
  | false =>
    rw [if_pos (show (Value.bool false != Value.bool true) = true from rfl)]
    refine wpAny_bind (wpAny_setField_rec he4 (by simp) fun h5 he5 hs5 => ?_)
    replace hs5 : Heap.SameBut e h4 h5 := hs5
    replace he5 : EnB h5 e it a true ((i : Int) + 1) item := he5
    refine wpAny_pure ?_
    simp only [Bool.false_eq_true, if_false]
    exact wpAny_pure ⟨_, rfl, wpAny_pure (fin h5 he5 hs5)⟩
theorem enB_done {e it l a : Addr} {f : Bool} {i : Nat} {items : Array Value} {item : Value} {Q : Option Value → Shared → Prop} (hh : A.handled = none)
    (he : EnB s.heap e it a f i item) (hit : s.heap.IsListIter it l i) (hl : s.heap.IsList l items) (hx : items[i]? = none)
    (hQ : ∀ h', Heap.ExtBut it s.heap h' → Q none { s with heap := h' }) : wpAny (model prog w) A (pyNext (.ref e)) Q E s := by
  have hT : s.TypeIs (.ref e) "enumerate" := ⟨_, he, rfl⟩
  unfold pyNext
  refine wpAny_bind (wpAny_attempt (wpAny_callSpecial?_slot (name := Str.ofString "__next__") hT F.slot_enumerate_next
    (wpAny_call_entry F.slot_enumerate_next hT F.entry_enumerate_next ?_ (F.args_enumerate_next_1 _))))
  show wpAny _ _ (field (.ref e) 2 >>= _) _ _ _
  refine wpAny_bind (wpAny_field he rfl (x := .ref it) rfl ?_)
  refine wpAny_bind (wpAny_nextOf_list_end hh hit hl hx fun h' x he' hx' => ?_)
  obtain ⟨o, ho, hc⟩ := hx'
  refine wpAny_bind (wpAny_isInstance (T := "StopIteration") (b := true) ⟨o, ho, hc⟩ isSubtype_stop ?_)
  exact wpAny_pure (hQ _ he')
end
/-- between two pairs: none given out, or the last one lives -/
def EnSt (h : Heap) (e it S : Addr) (i : Nat) : Prop :=
  (i = 0 ∧ ∃ old, IsEnum h e it 0 old) ∨ ∃ a f oa item, EnB h e it a f i item ∧ h.get? a = some oa ∧ a ≠ e ∧ a ≠ it ∧ a ≠ S
theorem EnSt.keep {h h' : Heap} {e it S : Addr} {i : Nat} (x : EnSt h e it S i) (hk : ∀ b o, b ≠ S → h.get? b = some o → h'.get? b = some o) (hS : e ≠ S) : EnSt h' e it S i := by
  rcases x with ⟨z, old, q⟩ | ⟨a, f, oa, item, q, r, n1, n2, n3⟩
  · exact .inl ⟨z, old, hk e _ hS q⟩
  · exact .inr ⟨a, f, oa, item, hk e _ hS q, hk a oa n3 r, n1, n2, n3⟩
/-- the pairs that were given: at as, above lo, in order -/
structure EnG (items : Array Value) (lo : Addr) (h : Heap) (as : List Addr) : Prop where
  above : ∀ a ∈ as, lo < a
  nodup : as.Nodup
  pairs : ∀ (j : Nat) (a : Addr), as[j]? = some a → ∃ t x, items[j]? = some x ∧ h.get? a = some { cls := .type "tuple", data := .seq #[.int j t, x] }
section
variable {prog : Program} {w : World} {A : Around} {E : Value → Shared → Prop} {s : Shared} {R : Result → Shared → Prop} {items : Array Value}
theorem en_item {e it l S : Addr} {i : Nat} {x : Value} {Q : Option Value → Shared → Prop} (hst : EnSt s.heap e it S i) (hS : S < s.heap.objs.size) (hit : s.heap.IsListIter it l i) (hl : s.heap.IsList l items) (hx : items[i]? = some x) (hne : e ≠ it)
    (hQ : ∀ h', EnSt h' e it S (i + 1) → h'.IsListIter it l (i + 1) → h'.get? s.heap.objs.size = some { cls := .type "tuple", data := .seq #[.int i s.toks, x] } → h'.objs.size = s.heap.objs.size + 1 →
      (∀ b o, b ≠ e → b ≠ it → s.heap.get? b = some o → h'.get? b = some o) → Q (some (.ref s.heap.objs.size)) { s with heap := h', toks := s.toks + 1 }) :
    wpAny (model prog w) A (pyNext (.ref e)) Q E s := by
  have itl : it < s.heap.objs.size := by obtain ⟨_, q, _⟩ := hit; exact Heap.lt_size q
  rcases hst with ⟨z, old, q⟩ | ⟨a, f, oa, item, q, r, n1, n2, n3⟩
  · subst z
    refine wpAny_pyNext_enum_item q hit hl hx hne fun h' ho h1 h2 h3 hk => hQ h' (.inr ⟨s.heap.objs.size, false, _, x, ?_, h2, Nat.ne_of_gt (Heap.lt_size q), Nat.ne_of_gt itl, Nat.ne_of_gt hS⟩) h1 h2 h3 hk
    exact ho
  · refine enB_next q r n1 n2 hit hl hx hne fun h' ho h1 h2 h3 hk => hQ h' (.inr ⟨a, true, oa, item, ?_, hk a oa n1 n2 r, n1, n2, n3⟩) h1 h2 h3 hk
    have z : ((i + 1 : Nat) : Int) = (i : Int) + 1 := by omega
    rw [z]
    exact ho
theorem en_done {e it l S : Addr} {i : Nat} {Q : Option Value → Shared → Prop} (hh : A.handled = none) (hst : EnSt s.heap e it S i) (hit : s.heap.IsListIter it l i) (hl : s.heap.IsList l items) (hx : items[i]? = none)
    (hQ : ∀ h', Heap.ExtBut it s.heap h' → Q none { s with heap := h' }) : wpAny (model prog w) A (pyNext (.ref e)) Q E s := by
  rcases hst with ⟨z, old, q⟩ | ⟨a, f, oa, item, q, r, n1, n2, n3⟩
  · subst z
    exact wpAny_pyNext_enum_end hh q hit hl hx hQ
  · exact enB_done hh q hit hl hx hQ

theorem en_loop {S e it l : Addr} (hh : A.handled = none) (hSe : e < S) (hSi : it < S) (hSl : l ≠ S) (hle : l ≠ e) (hli : l ≠ it) (hne : e ≠ it) (hn : items.size ≤ sizeLine) (res : Value) {h0 : Heap}
    (hR : ∀ h' tk acc c as, (∀ b o, b ≠ S → b ≠ e → b ≠ it → h0.get? b = some o → h'.get? b = some o) → h'.get? S = some { cls := .type "list", dict := none, data := .seq acc c, slots := #[] } → as.length = items.size → EnG items S h' as →
      acc.toList = as.map Value.ref → R (.ok (.ret res)) { s with heap := h', toks := tk }) :
    ∀ (k i : Nat) (h : Heap) (tk c : Nat) (acc : Array Value) (as : List Addr), items.size - i = k → i ≤ items.size → EnSt h e it S i → h.IsListIter it l i → h.IsList l items → (∀ b o, b ≠ S → b ≠ e → b ≠ it → h0.get? b = some o → h.get? b = some o) →
      h.get? S = some { cls := .type "list", dict := none, data := .seq acc c, slots := #[] } → acc.toList = as.map Value.ref → as.length = i → EnG items S h as →
      codeAny (model prog w) A (.builtin "list.extend.loop" ⟨[.ref S, .ref e, res], []⟩) R { s with heap := h, toks := tk } := by
  have nSe : S ≠ e := Nat.ne_of_gt hSe
  have nSi : S ≠ it := Nat.ne_of_gt hSi
  intro k
  induction k with
  | zero =>
    intro i h tk c acc as hk hi hst hit hl hkeep hS hacc hal hG
    have hin : i = items.size := by omega
    refine codeAny_builtin PySem.F.entry_extend_loop ?_
    rw [Around.under_plainId PySem.F.plain_extend_loop _]
    show wpAny _ A.in1 (pyNext (.ref e) >>= _) _ _ _
    refine wpAny_bind (en_done (s := { s with heap := h, toks := tk }) (A := A.in1) hh hst hit hl (Array.getElem?_eq_none (by omega)) fun h' he => ?_)
    refine wpAny_pure (hR h' tk acc c as (fun b o h1 h2 h3 z => he b o h3 (hkeep b o h1 h2 h3 z)) (he S _ nSi hS) (by omega) ⟨hG.above, hG.nodup, fun j a hj => ?_⟩ hacc)
    obtain ⟨t, x, e1, e2⟩ := hG.pairs j a hj
    exact ⟨t, x, e1, he a _ (Nat.ne_of_gt (Nat.lt_trans hSi (hG.above a (List.mem_of_getElem? hj)))) e2⟩
  | succ k ih =>
    intro i h tk c acc as hk hi hst hit hl hkeep hS hacc hal hG
    have hlt : i < items.size := by omega
    have hsz : acc.size = i := by rw [← Array.length_toList, hacc, List.length_map, hal]
    have hx : items[i]? = some items[i] := Array.getElem?_eq_getElem hlt
    have hSz : S < h.objs.size := Heap.lt_size hS
    refine codeAny_builtin PySem.F.entry_extend_loop ?_
    rw [Around.under_plainId PySem.F.plain_extend_loop _]
    show wpAny _ A.in1 (pyNext (.ref e) >>= _) _ _ _
    refine wpAny_bind (en_item (s := { s with heap := h, toks := tk }) (S := S) hst hSz hit hl hx hne fun h' hst' hit' ht hz hkp => ?_)
    dsimp only at ht hz hkp ⊢
    have hS' := hkp S _ nSe nSi hS
    have up : ∀ b o, b ≠ S → h'.get? b = some o → (h'.update S (Obj.mapSeq (·.push (Value.ref h.objs.size)))).get? b = some o := fun b o hb z => (Heap.get?_update_other _ _ (Ne.symm hb)).trans z
    have hl' : (h'.update S (Obj.mapSeq (·.push (Value.ref h.objs.size)))).IsList l items := hl.at fun o z => up l o hSl (hkp l o hle hli z)
    have hit2 : (h'.update S (Obj.mapSeq (·.push (Value.ref h.objs.size)))).IsListIter it l (i + 1) := hit'.at fun o z => up it o (Ne.symm nSi) z
    show wpAny _ A.in1 (updateSeq S (·.push (Value.ref h.objs.size)) >>= _) _ _ _
    refine wpAny_bind ?_
    refine wpAny_updateSeq hS' rfl (wpAny_pure ⟨plainId_quiet PySem.F.plain_extend_loop _, ih (i + 1) _ (tk + 1) _ (acc.push (Value.ref h.objs.size)) (as ++ [h.objs.size]) (by omega) hlt (hst'.keep up (Ne.symm nSe)) hit2 hl'
      (fun b o h1 h2 h3 z => up b o h1 (hkp b o h2 h3 (hkeep b o h1 h2 h3 z))) (Heap.get?_update_self _ hS' rfl) (by rw [Array.toList_push, hacc, List.map_append]; rfl) (by rw [List.length_append, hal]; rfl) ⟨?_, ?_, ?_⟩⟩) (by rw [hsz]; omega) (by show (acc.push (Value.ref h.objs.size)).size ≤ sizeLine + 1; rw [Array.size_push, hsz]; omega)
    · intro a ha
      rcases List.mem_append.mp ha with ha | ha
      · exact hG.above a ha
      · rw [List.mem_singleton.mp ha]; exact hSz
    · refine List.nodup_append.mpr ⟨hG.nodup, List.nodup_cons.mpr ⟨List.not_mem_nil, List.nodup_nil⟩, fun a ha b hb => ?_⟩
      rw [List.mem_singleton.mp hb]
      obtain ⟨j, hj⟩ := List.mem_iff_getElem?.mp ha
      obtain ⟨_, _, _, z⟩ := hG.pairs j a hj
      exact Nat.ne_of_lt (Heap.lt_size z)
    · intro j b hj
      rcases Nat.lt_trichotomy j as.length with h1 | h1 | h1
      · rw [List.getElem?_append_left h1] at hj
        obtain ⟨t, x, e1, e2⟩ := hG.pairs j b hj
        have hb := hG.above b (List.mem_of_getElem? hj)
        exact ⟨t, x, e1, up b _ (Nat.ne_of_gt hb) (hkp b _ (Nat.ne_of_gt (Nat.lt_trans hSe hb)) (Nat.ne_of_gt (Nat.lt_trans hSi hb)) e2)⟩
      · subst h1
        have hb : h.objs.size = b := by simpa using hj
        subst hb
        subst hal
        exact ⟨tk, _, hx, up _ _ (Nat.ne_of_gt hSz) ht⟩
      · have hnone : (as ++ [h.objs.size])[j]? = none := List.getElem?_eq_none (by rw [List.length_append, List.length_singleton]; omega)
        rw [hnone] at hj; cases hj
end
theorem nolen_enum : typeLookup (.type "enumerate") "__len__" = pure none := by rw [typeLookup_type, builtinLookup_eq_fast]; kernel_rfl
theorem nohint_enum : typeLookup (.type "enumerate") "__length_hint__" = pure none := by rw [typeLookup_type, builtinLookup_eq_fast]; kernel_rfl
section
variable {prog : Program} {w : World} {A : Around} {E : Value → Shared → Prop} {s : Shared} {items : Array Value}
theorem en_hint {r : Addr} {Q : Bool → Shared → Prop} (hT : s.TypeIs (.ref r) "enumerate") (h : Q true s) : wpAny (model prog w) A (Builtin.List.listLengthHint (.ref r)) Q E s := by
  unfold Builtin.List.listLengthHint
  refine wpAny_bind (wpAny_specialOf hT nolen_enum ?_)
  refine wpAny_ite_split (fun hab => absurd hab (by decide)) (fun _ => ?_)
  refine wpAny_ite_split (fun hab => absurd hab (by decide)) (fun _ => ?_)
  refine wpAny_bind (wpAny_specialOf hT nohint_enum ?_)
  exact wpAny_pure h
theorem en_extend {R : Result → Shared → Prop} {S e it l : Addr} (hh : A.handled = none) (hSe : e < S) (hSi : it < S) (hSl : l ≠ S) (hle : l ≠ e) (hli : l ≠ it) (hne : e ≠ it) (hst : IsEnum s.heap e it 0 .none) (hit : s.heap.IsListIter it l 0) (hl : s.heap.IsList l items)
    (res : Value) (c0 : Nat) (hS : s.heap.get? S = some { cls := .type "list", data := .seq #[] c0 })
    (hR : ∀ h' tk acc c as, (∀ b o, b ≠ S → b ≠ e → b ≠ it → s.heap.get? b = some o → h'.get? b = some o) → h'.get? S = some { cls := .type "list", dict := none, data := .seq acc c, slots := #[] } → as.length = items.size → EnG items S h' as →
      acc.toList = as.map Value.ref → R (.ok (.ret res)) { s with heap := h', toks := tk }) (hn : items.size ≤ sizeLine) :
    wpAny (model prog w) A.in1 (Builtin.List.listExtendWith (.ref S) (.ref e) res)
      (fun fin s' => match fin with | .done f => R (.ok f) s' | .again c' => c'.quiet = true ∧ codeAny (model prog w) A c' R s') (fun e s' => R (.error e) s') s := by
  have nSe : S ≠ e := Nat.ne_of_gt hSe
  have hT : s.TypeIs (.ref e) "enumerate" := ⟨_, hst, rfl⟩
  have key : ∀ (h : Heap) (c1 tk : Nat), (∀ b o, b ≠ S → s.heap.get? b = some o → h.get? b = some o) → h.get? S = some { cls := .type "list", data := .seq #[] c1 } →
      codeAny (model prog w) A (.builtin "list.extend.loop" ⟨[.ref S, .ref e, res], []⟩) R { s with heap := h, toks := tk } := by
    intro h c1 tk hk hS1
    exact en_loop (items := items) (s := s) (h0 := s.heap) hh hSe hSi hSl hle hli hne hn res hR items.size 0 h tk c1 #[] [] (Nat.sub_zero _) (Nat.zero_le _) (.inl ⟨rfl, .none, hk e _ (Ne.symm nSe) hst⟩)
      (hit.at fun o z => hk it o (Nat.ne_of_lt hSi) z) (hl.at fun o z => hk l o hSl z) (fun b o h1 _ _ z => hk b o h1 z) hS1 rfl rfl ⟨(fun _ z => nomatch z), List.nodup_nil, fun j a hj => by simp at hj⟩
  unfold Builtin.List.listExtendWith
  refine wpAny_bind (wpAny_typeOf (T := "enumerate") hT ?_)
  have h1 : Builtin.List.listSameRef (.ref S) (.ref e) = false := by simp [Builtin.List.listSameRef, nSe]
  have h2 : (Value.type "enumerate" == Value.type "list") = false := by decide
  have h3 : (Value.type "enumerate" == Value.type "tuple") = false := by decide
  simp only [h1, h2, h3, Bool.or_false, Bool.false_eq_true, if_false]
  refine wpAny_bind (wpAny_pyIter_enum hst ?_)
  refine wpAny_bind (wpAny_holding (en_hint hT ?_))
  refine wpAny_ite_split (fun _ => ?_) (fun _ => wpAny_pure ⟨plainId_quiet PySem.F.plain_extend_loop _, key _ c0 _ (fun b o _ z => z) hS⟩)
  refine wpAny_bind (wpAny_rule ?_)
  refine wpAny_bind ?_
  show wpAny _ _ (updateSeq S (·.push .none) >>= fun _ => updateSeq S (·.pop)) _ _ _
  refine wpAny_bind (wpAny_updateSeq hS rfl ?_)
  have hS2 := Heap.get?_update_self (Obj.mapSeq (·.push Value.none)) hS rfl
  refine wpAny_updateSeq (hz := by seq_fits) hS2 rfl ?_
  have hS3 := Heap.get?_update_self (Obj.mapSeq (·.pop)) hS2 rfl
  refine wpAny_pure ⟨plainId_quiet PySem.F.plain_extend_loop _, key _ _ _ (fun b o hb z => ?_) hS3⟩
  exact (Heap.get?_update_other _ _ (Ne.symm hb)).trans ((Heap.get?_update_other _ _ (Ne.symm hb)).trans z)
theorem en_call {Q : Value → Shared → Prop} {e it l : Addr} (hh : A.handled = none) (hle : l ≠ e) (hli : l ≠ it) (hne : e ≠ it) (hst : IsEnum s.heap e it 0 .none) (hit : s.heap.IsListIter it l 0) (hl : s.heap.IsList l items) (hn : items.size ≤ sizeLine)
    (hQ : ∀ h' tk acc c as, (∀ b o, b ≠ e → b ≠ it → s.heap.get? b = some o → h'.get? b = some o) → h'.get? s.heap.objs.size = some { cls := .type "list", dict := none, data := .seq acc c, slots := #[] } → as.length = items.size → EnG items s.heap.objs.size h' as →
      acc.toList = as.map Value.ref → Q (.ref s.heap.objs.size) { s with heap := h', toks := tk }) :
    wpAny (model prog w) A (call (.type "list") [.ref e]) Q E s := by
  refine callType_codes (Q₁ := fun obj s₁ => obj = .ref s.heap.objs.size ∧ s₁ = { s with heap := s.heap.push { cls := .type "list", data := .seq #[] } }) PySem.F.called_list (PySem.F.typeCall_list_1 _) PySem.F.entry_list_init
    (code_list_new _ ⟨rfl, rfl⟩) fun obj s₁ h₁ => ?_
  obtain ⟨rfl, rfl⟩ := h₁
  have up : ∀ b o, s.heap.get? b = some o → (s.heap.push { cls := .type "list", data := .seq #[] }).get? b = some o := fun b o z => Heap.get?_push_of_some _ z
  have hS : (s.heap.push { cls := .type "list", data := .seq #[] }).get? s.heap.objs.size = some { cls := .type "list", data := .seq #[] } := Heap.get?_push_size _ rfl
  have le : e < s.heap.objs.size := Heap.lt_size hst
  have li : it < s.heap.objs.size := by obtain ⟨_, q, _⟩ := hit; exact Heap.lt_size q
  have ll : l ≠ s.heap.objs.size := by obtain ⟨_, q, _⟩ := hl; exact Nat.ne_of_lt (Heap.lt_size q)
  refine ⟨⟨_, hS, rfl⟩, PySem.F.args_list_init_2 _ _, ?_⟩
  show wpAny _ _ (do let old ← Builtin.List.listItems (.ref s.heap.objs.size); Builtin.List.listUpdate (.ref s.heap.objs.size) (fun _ => #[]); letGo old.toList.reverse; Builtin.List.listExtendWith (.ref s.heap.objs.size) (.ref e) .none) _ _ _
  refine wpAny_bind ?_
  unfold Builtin.List.listItems
  refine wpAny_bind (wpAny_seqItems hS rfl (wpAny_pure ?_))
  show wpAny _ _ (updateSeq s.heap.objs.size (fun _ => #[]) >>= fun _ => letGo (#[] : Array Value).toList.reverse >>= fun _ => Builtin.List.listExtendWith (.ref s.heap.objs.size) (.ref e) .none) _ _ _
  refine wpAny_bind (wpAny_updateSeq hS rfl ?_)
  have hS2 := Heap.get?_update_self (Obj.mapSeq (fun _ => (#[] : Array Value))) hS rfl
  have oth : ∀ b o, b ≠ s.heap.objs.size → s.heap.get? b = some o → ((s.heap.push { cls := .type "list", data := .seq #[] }).update s.heap.objs.size (Obj.mapSeq (fun _ => (#[] : Array Value)))).get? b = some o :=
    fun b o hb z => (Heap.get?_update_other _ _ (Ne.symm hb)).trans (up b o z)
  refine wpAny_bind (wpAny_letGo ?_)
  refine en_extend (A := A.in1) hh le li ll hle hli hne (oth e _ (Nat.ne_of_lt le) hst) (hit.at fun o z => oth it o (Nat.ne_of_lt li) z) (hl.at fun o z => oth l o ll z) .none _ hS2 (fun h' tk acc c as hk h1 h2 h3 h4 => ?_) hn
  exact ⟨rfl, hQ h' tk acc c as (fun b o n1 n2 z => hk b o (Nat.ne_of_lt (Heap.lt_size z)) n1 n2 (oth b o (Nat.ne_of_lt (Heap.lt_size z)) z)) h1 h2 h3 h4⟩
end
end FcE

set_option maxRecDepth 100000
set_option maxHeartbeats 4000000
namespace FcR
open PySem PySem.Spec PyProof.Rows L2
/-! ### nothing that a callee raises is asked for -/
theorem passF {P : Program} {w : World} {X : Cx} : Passes (CX P w) X (fun _ _ _ => False) := fun _ _ _ _ _ _ _ h => by
  obtain ⟨_, _, _, _, _, _, _, _, _, _, _, _, z⟩ := h
  exact z.elim
/-! ### an attribute as a target -/
def gFld (K : PySem.W.Frag) (to : TE) (f : Str) : TG := fun v σ H Q => to σ H fun x H1 => ∃ a C dx fs, x = .ref a ∧ H1 a = some (.ins C dx fs) ∧ Cls K C ∧ NoAttr K C f ∧ fs.length < 1000 ∧ Q σ (upd H1 a (.ins C dx (putF f v fs)))
theorem pg_fld {X : Cx} {o : Expr} {f : Str} {pos : Pos} {to : TE} (ho : PE X o to) : PG X (.Attribute o f pos) (gFld X.K to f) := by
  refine ⟨fun pins s σ H v u Q I r h => ?_⟩
  have ea : assign (.Attribute o f pos) X.env u = (do
      let ov ← holding [u] (eval o X.env)
      standAt pos.atName
      holding [u, ov] (setAttr ov f u)
      release [u, ov] []) := rfl
  rw [ea]
  refine wpAny_bind (wpAny_holding (thn (ho.run pins s σ H _ I h) fun ov s1 ⟨x, H1, I1, r1, a, C, dx, fs, ex, e1, c, n, l, q⟩ => ?_))
  subst ex
  obtain rfl : ov = Value.ref a := r1
  refine wpAny_bind (wpAny_standAt (wpAny_bind (wpAny_holding ?_)))
  exact setattr_ok I1 e1 c n l r fun s3 I3 => wpAny_release ⟨σ, _, I3, q⟩
/-! ### list(enumerate(e)) -/
def putP : Hp → List Addr → Nat → List V → Hp
  | H, a :: as, j, x :: xs => putP (upd H a (.tup [.int (j : Int), x])) as (j + 1) xs
  | H, _, _, _ => H
theorem putP_off {b : Addr} : ∀ (as : List Addr) (xs : List V) (j : Nat) (H : Hp), b ∉ as → putP H as j xs b = H b
  | [], _, _, _, _ => rfl
  | _ :: _, [], _, _, _ => rfl
  | a :: as, x :: xs, j, H, h => by
    show putP (upd H a (.tup [.int (j : Int), x])) as (j + 1) xs b = H b
    rw [putP_off as xs _ _ (fun z => h (List.mem_cons_of_mem _ z)), upd_ne (fun z => h (by rw [z]; exact List.mem_cons_self))]
theorem putP_at : ∀ (as : List Addr) (xs : List V) (j : Nat) (H : Hp), as.length = xs.length → as.Nodup → ∀ (i : Nat) (a : Addr) (x : V), as[i]? = some a → xs[i]? = some x → putP H as j xs a = some (.tup [.int ((j + i : Nat) : Int), x])
  | [], _, _, _, _, _, i, a, x, h, _ => by simp at h
  | _ :: _, [], _, _, h, _, _, _, _, _, _ => by cases h
  | a0 :: as, x0 :: xs, j, H, h, hn, 0, a, x, h1, h2 => by
    have hn' := List.nodup_cons.mp hn
    simp at h1 h2
    subst h1 h2
    show putP (upd H a0 (.tup [.int (j : Int), x0])) as (j + 1) xs a0 = _
    rw [putP_off as xs _ _ hn'.1, upd_same] <;> rfl
  | a0 :: as, x0 :: xs, j, H, h, hn, i + 1, a, x, h1, h2 => by
    have ih := putP_at as xs (j + 1) (upd H a0 (.tup [.int (j : Int), x0])) (Nat.succ.inj h) (List.nodup_cons.mp hn).2 i a x (by simpa using h1) (by simpa using h2)
    have e : j + 1 + i = j + (i + 1) := by omega
    rw [e] at ih
    exact ih
def rEnumL (K : PySem.W.Frag) : V → Hp → VK → Prop := fun x H Q => ∃ (a : Addr) (xs : List V), x = .ref a ∧ SqL K H a xs ∧
  ∀ (H' : Hp) (p : Addr) (ts : List Addr), (∀ b o, H b = some o → H' b = some o) → H p = none → (∀ t ∈ ts, H t = none) → p ∉ ts → ts.Nodup → ts.length = xs.length → H' p = some (.lst (ts.map V.ref)) →
    (∀ (i : Nat) (t : Addr) (x : V), ts[i]? = some t → xs[i]? = some x → H' t = some (.tup [.int (i : Int), x])) → Q (.ref p) H'
def tListEnum (K : PySem.W.Frag) (te : TE) : TE := fun σ H Q => te σ H fun x H1 => rEnumL K x H1 Q
theorem vals_refs : ∀ as : List Addr, Vals (as.map V.ref) (as.map Value.ref)
  | [] => .nil
  | _ :: as => .cons rfl (vals_refs as)
section
variable {X : Cx} {e : Expr} {te : TE} {p p2 pos2 pos : Pos}
theorem enum_laid {pins : List (Addr × Obj)} {σ : L2.St} {H : Hp} {s : Shared} {h' : Heap} {tk : Nat} {xs : List V} {its : List Value} {acc : Array Value} {c : Nat} {as : List Addr} {S : Addr} (hge : s.heap.objs.size ≤ S) (I : Inv X pins σ H s) (hz : xs.length ≤ sizeLine) (rv : Vals xs its)
    (hk : ∀ b o, s.heap.get? b = some o → h'.get? b = some o) (hS : h'.get? S = some { cls := .type "list", dict := none, data := .seq acc c, slots := #[] }) (hl : as.length = xs.length) (hG : FcE.EnG its.toArray S h' as) (hacc : acc.toList = as.map Value.ref) :
    ∃ H' : Hp, (∀ b o, H b = some o → H' b = some o) ∧ H S = none ∧ (∀ t ∈ as, H t = none) ∧ S ∉ as ∧ H' S = some (.lst (as.map V.ref)) ∧
      (∀ (i : Nat) (t : Addr) (x : V), as[i]? = some t → xs[i]? = some x → H' t = some (.tup [.int (i : Int), x])) ∧ Inv X pins σ H' { s with heap := h', toks := tk } := by
  have hSn : S ∉ as := fun z => Nat.lt_irrefl _ (hG.above _ z)
  have new : ∀ t ∈ as, H t = none := fun t ht => I.hok.fresh (Nat.le_trans hge (Nat.le_of_lt (hG.above t ht)))
  have newS : H S = none := I.hok.fresh hge
  have atP : ∀ (i : Nat) (t : Addr) (x : V), as[i]? = some t → xs[i]? = some x → putP (upd H S (.lst (as.map V.ref))) as 0 xs t = some (.tup [.int (i : Int), x]) := fun i t x h1 h2 => by
    have z := putP_at as xs 0 (upd H S (.lst (as.map V.ref))) hl hG.nodup i t x h1 h2
    rw [Nat.zero_add] at z
    exact z
  have off : ∀ b, b ∉ as → b ≠ S → putP (upd H S (.lst (as.map V.ref))) as 0 xs b = H b := fun b h1 h2 => by rw [putP_off as xs _ _ h1, upd_ne h2]
  have low : ∀ b o, s.heap.get? b = some o → b ∉ as ∧ b ≠ S := fun b o z => ⟨fun y => absurd (Heap.lt_size z) (Nat.not_lt.mpr (Nat.le_trans hge (Nat.le_of_lt (hG.above b y)))), Nat.ne_of_lt (Nat.lt_of_lt_of_le (Heap.lt_size z) hge)⟩
  have kp : ∀ b u, H b = some u → (putP (upd H S (.lst (as.map V.ref))) as 0 xs) b = some u := fun b u z => by
    rw [off b (fun y => by rw [new b y] at z; cases z) (fun y => by rw [y, newS] at z; cases z)]
    exact z
  have eS : putP (upd H S (.lst (as.map V.ref))) as 0 xs S = some (.lst (as.map V.ref)) := by rw [putP_off as xs _ _ hSn, upd_same]
  refine ⟨putP (upd H S (.lst (as.map V.ref))) as 0 xs, kp, newS, new, hSn, eS, atP, ?_⟩
  refine I.call' (ch := []) rfl ⟨fun b o q _ _ _ => hk b o q, fun b o q _ _ _ => ⟨o.slots, hk b o q⟩, fun b o q n _ => ?_, fun b o q _ => ⟨o, hk b o q⟩, fun b ys q => kp b _ q, fun b o u q => kp b _ q, fun b ps q => ⟨#[], by rw [kp b _ q]; simp⟩⟩ (fun b u q => ?_) I.bare fun b z => by simp at z
  · obtain ⟨z1, z2⟩ := low b o q
    rw [off b z1 z2]
    exact n
  · by_cases hb : b ∈ as
    · obtain ⟨j, hj⟩ := List.mem_iff_getElem?.mp hb
      have jl : j < xs.length := by rw [← hl]; exact (List.getElem?_eq_some_iff.mp hj).1
      have hx : xs[j]? = some xs[j] := List.getElem?_eq_getElem jl
      rw [atP j b _ hj hx] at q
      cases q
      obtain ⟨t, x, f1, f2⟩ := hG.pairs j b hj
      obtain ⟨u, g1, g2⟩ := rv.get hx
      have ex : x = u := by
        have f1' : its[j]? = some x := by simpa using f1
        rw [g1] at f1'
        exact (Option.some.inj f1').symm
      exact ⟨by show 2 ≤ sizeLine; decide, [.int (j : Int) t, x], .cons ⟨t, rfl⟩ (.cons (by rw [ex]; exact g2) .nil), ⟨_, f2, rfl, _, rfl⟩⟩
    · by_cases hb2 : b = S
      · rw [hb2] at q ⊢
        rw [eS] at q
        cases q
        refine ⟨by rw [List.length_map]; omega, acc.toList, c, by rw [hacc]; exact vals_refs as, ?_⟩
        rw [Array.toArray_toList]
        exact hS
      · rw [off b hb hb2] at q
        exact (I.hok b u q).stay (fun d v _ y => hk d v y) (fun d y => kp d _ y) fun d ys y => kp d _ y
theorem pe_listEnum (hc : X.calm = true) (he : PE X e te) (hg : Gl X "list") (hm : X.mg "list" = none) (hv : bootBuiltins "list" = some (.type "list")) (hg2 : Gl X "enumerate") (hm2 : X.mg "enumerate" = none) (hv2 : bootBuiltins "enumerate" = some (.type "enumerate"))
    (hs : starEach [.Call (.Name "enumerate" p2) [e] [] pos2] X.env = (false, eval (.Call (.Name "enumerate" p2) [e] [] pos2) X.env) :: starEach [] X.env := by rfl) (hs2 : starEach [e] X.env = (false, eval e X.env) :: starEach [] X.env := by rfl) :
    PE X (.Call (.Name "list" p) [.Call (.Name "enumerate" p2) [e] [] pos2] [] pos) (tListEnum X.K te) := by
  refine ⟨fun pins s σ H Q I hq => ?_⟩
  refine wpAny_Call_Name_kw (ld_blt I hg hm hv ?_)
  refine PyProof.Rows.callWith_type1 ?_ hs rfl
  rw [hs]
  show wpAny _ _ (spliced ((false, eval (.Call (.Name "enumerate" p2) [e] [] pos2) X.env) :: backTo pos (starEach [] X.env))) _ _ s
  refine Calls.spliced_cons ?_
  refine wpAny_Call_Name_kw (ld_blt I hg2 hm2 hv2 ?_)
  refine PyProof.Rows.callWith_type1 ?_ hs2 rfl
  rw [hs2]
  show wpAny _ _ (spliced ((false, eval e X.env) :: backTo pos2 (starEach [] X.env))) _ _ s
  refine Calls.spliced_cons (thn (he.run pins s σ H _ I hq) fun u s1 ⟨x, H1, I1, rx, a, xs, ex, hL, q⟩ => ?_)
  subst ex
  obtain rfl : u = Value.ref a := rx
  refine Calls.spliced_nil ?_
  obtain ⟨its, rv, hl0, hz⟩ := I1.list hL
  have hl : s1.heap.IsList a its.toArray := hl0.isList
  have al : a < s1.heap.objs.size := by obtain ⟨_, y, _⟩ := hl; exact Heap.lt_size y
  refine call_enumerate_list hl fun h1 hE hI hsz hk => ?_
  refine Calls.spliced_nil ?_
  have hl1 : h1.IsList a its.toArray := hl.at fun o y => hk a o y
  have lx : xs.length = its.length := rv.length
  have hlen : its.toArray.size = xs.length := by simp [lx]
  refine FcE.en_call (items := its.toArray) (I1.ok.hd hc) (Nat.ne_of_lt (Nat.lt_succ_of_lt al)) (Nat.ne_of_lt al) (Nat.succ_ne_self _) hE hI hl1 (by rw [hlen]; exact hz) fun h' tk acc c as hkk hS hla hG hacc => ?_
  obtain ⟨H', k1, k2, k3, k4, k5, k6, J⟩ := enum_laid (tk := tk) (S := h1.objs.size) (by rw [hsz]; exact Nat.le_add_right _ _) I1 hz rv
    (fun b o y => hkk b o (Nat.ne_of_lt (Nat.lt_succ_of_lt (Heap.lt_size y))) (Nat.ne_of_lt (Heap.lt_size y)) (hk b o y)) hS (by rw [hla, hlen]) hG hacc
  exact ⟨.ref _, H', J, rfl, q H' _ as k1 k2 k3 k4 hG.nodup (by rw [hla, hlen]) k5 k6⟩
/-! ### == and != of data, up to 200 deep -/
def rEqM (K : PySem.W.Frag) : R2 := fun x y H Q => ∃ d e, Dp K H x d ∧ Dp K H y e ∧ PyData.canLay0 d = true ∧ PyData.canLay0 e = true ∧ min d.depth e.depth ≤ 200 ∧ Q (.bl (PyData.eqv d e)) H
def rNeM (K : PySem.W.Frag) : R2 := fun x y H Q => ∃ d e, Dp K H x d ∧ Dp K H y e ∧ PyData.canLay0 d = true ∧ PyData.canLay0 e = true ∧ min d.depth e.depth ≤ 200 ∧ Q (.bl (!PyData.eqv d e)) H
theorem op_eqM {k : Nat} (hr : Room k X.A) : OpR X (compareOp .Eq) (rEqM X.K) := by
  intro pins s σ H x y v u Q I rx ry h
  obtain ⟨d, e, hd, he, sd, se, hm, q⟩ := h
  obtain ⟨as, r1⟩ := Dp.reads I d x v hd rx
  obtain ⟨bs, r2⟩ := Dp.reads I e y u he ry
  exact SeqAt.compareEq_reads r1 r2 sd se (by have := hr.un; omega) ⟨.bl _, H, I, rfl, q⟩
theorem op_neM {k : Nat} (hr : Room k X.A) : OpR X (compareOp .NotEq) (rNeM X.K) := by
  intro pins s σ H x y v u Q I rx ry h
  obtain ⟨d, e, hd, he, sd, se, hm, q⟩ := h
  obtain ⟨as, r1⟩ := Dp.reads I d x v hd rx
  obtain ⟨bs, r2⟩ := Dp.reads I e y u he ry
  exact SeqAt.compareNe_reads r1 r2 sd se (by have := hr.un; omega) ⟨.bl _, H, I, rfl, q⟩
/-- x in a tuple of data -/
def rInT (K : PySem.W.Frag) : R2 := fun x y H Q => ∃ d ds, Dp K H x d ∧ Dp K H y (.tuple ds) ∧ PyData.canLay0 d = true ∧ PyData.canLayAll0 ds = true ∧ min (PyData.depthAll ds) d.depth ≤ 150 ∧ Q (.bl (ds.any fun z => PyData.eqv z d)) H
theorem op_inT {k : Nat} (hr : Room k X.A) : OpR X (compareOp .In) (rInT X.K) := by
  intro pins s σ H x y v u Q I rx ry h
  obtain ⟨d, ds, hd, he, sd, se, hm, q⟩ := h
  obtain ⟨as, r1⟩ := Dp.reads I d x v hd rx
  obtain ⟨bs, r2⟩ := Dp.reads I (.tuple ds) y u he ry
  exact SeqAt.in_tuple_reads r2 r1 se sd (by have := hr.un; omega) ⟨.bl _, H, I, rfl, q⟩
end
end FcR

set_option maxRecDepth 100000
set_option maxHeartbeats 4000000
namespace Fc
open PySem PySem.Spec PyProof.Rows L2 FcR
open Evl (Ex)
/-! ### built-in names -/
theorem b_len : bootBuiltins "len" = some (.builtin "len") := by decide +kernel
theorem b_isinstance : bootBuiltins "isinstance" = some (.builtin "isinstance") := by decide +kernel
theorem b_all : bootBuiltins "all" = some (.builtin "all") := by decide +kernel
theorem b_any : bootBuiltins "any" = some (.builtin "any") := by decide +kernel
theorem b_sum : bootBuiltins "sum" = some (.builtin "sum") := by decide +kernel
theorem b_list : bootBuiltins "list" = some (.type "list") := by decide +kernel
theorem b_tuple : bootBuiltins "tuple" = some (.type "tuple") := by decide +kernel
theorem b_int : bootBuiltins "int" = some (.type "int") := by decide +kernel
theorem b_bool : bootBuiltins "bool" = some (.type "bool") := by decide +kernel
theorem b_str : bootBuiltins "str" = some (.type "str") := by decide +kernel
theorem b_enumerate : bootBuiltins "enumerate" = some (.type "enumerate") := by decide +kernel
/-! ### a def that keeps its promise, by the place where it stands -/
def Ok (P : Program) (w : World) (K : PySem.W.Frag) (mg : Str → Option Value) (base : Heap) (k : Nat) (at_ : Str × Option Str) (ps : List Str) (sp : Sp) : Prop :=
  ∃ fd, FnOk P w K mg base (CX P w) k (He.fAd K at_) fd ps sp ∧ Binds K fd ps [] ∧ PySem.W.keepIn K (.ref (He.fAd K at_)) = true
theorem Ok.mono {P : Program} {w : World} {K : PySem.W.Frag} {mg : Str → Option Value} {base : Heap} {j k : Nat} {at_ : Str × Option Str} {ps : List Str} {sp : Sp} (h : Ok P w K mg base j at_ ps sp) (e : j ≤ k) : Ok P w K mg base k at_ ps sp := by
  obtain ⟨fd, G, b, kp⟩ := h
  exact ⟨fd, G.mono e, b, kp⟩
/-! ### tests -/
theorem ite_of {c : Bool} {A B : Prop} (h1 : c = true → A) (h2 : c = false → B) : if c = true then A else B := by
  cases c with
  | true => rw [if_pos rfl]; exact h1 rfl
  | false => rw [if_neg Bool.false_ne_true]; exact h2 rfl
theorem itT {c : Bool} {A B : Prop} (hc : c = true) (h : A) : if c = true then A else B := by
  rw [if_pos hc]
  exact h
theorem itF {c : Bool} {A B : Prop} (hc : c = false) (h : B) : if c = true then A else B := by
  rw [hc, if_neg Bool.false_ne_true]
  exact h
theorem sz {n : Nat} (h : n ≤ 100000) : n ≤ sizeLine := Evl.sz_of h
theorem szl {n : Nat} (h : n < 100000) : n < sizeLine := Evl.sz_lt h
/-! ### data stays where what was tracked stays -/
mutual
theorem dp_ex {K : PySem.W.Frag} {H H' : Hp} (e : Ex H H') : ∀ {d : PyData} {v : V}, Dp K H v d → Dp K H' v d
  | _, _, .non => .non
  | _, _, .bl b => .bl b
  | _, _, .int i => .int i
  | _, _, .str x => .str x
  | _, _, .lst h a => .lst (Evl.ex_l e h) (dpA_ex e a)
  | _, _, .tup h a => .tup (Evl.ex_t e h) (dpA_ex e a)
theorem dpA_ex {K : PySem.W.Frag} {H H' : Hp} (e : Ex H H') : ∀ {ds : List PyData} {vs : List V}, DpAll K H vs ds → DpAll K H' vs ds
  | _, _, .nil => .nil
  | _, _, .cons h a => .cons (dp_ex e h) (dpA_ex e a)
end
theorem dpA_len {K : PySem.W.Frag} {H : Hp} : ∀ {ds : List PyData} {vs : List V}, DpAll K H vs ds → vs.length = ds.length
  | _, _, .nil => rfl
  | _, _, .cons _ a => congrArg Nat.succ (dpA_len a)
theorem dpA_get {K : PySem.W.Frag} {H : Hp} : ∀ {ds : List PyData} {vs : List V}, DpAll K H vs ds → ∀ {i : Nat} {d : PyData}, ds[i]? = some d → ∃ v, vs[i]? = some v ∧ Dp K H v d
  | _, _, .nil, i, d, h => by simp at h
  | _, _, .cons h a, 0, d, e => by simp at e; subst e; exact ⟨_, rfl, h⟩
  | _, _, .cons h a, i + 1, d, e => by
    obtain ⟨v, e1, e2⟩ := dpA_get a (i := i) (d := d) (by simpa using e)
    exact ⟨v, by simpa using e1, e2⟩
theorem dpA_app {K : PySem.W.Frag} {H : Hp} : ∀ {ds es : List PyData} {vs ws : List V}, DpAll K H vs ds → DpAll K H ws es → DpAll K H (vs ++ ws) (ds ++ es)
  | _, _, _, _, .nil, b => b
  | _, _, _, _, .cons h a, b => .cons h (dpA_app a b)
theorem dpA_drop {K : PySem.W.Frag} {H : Hp} : ∀ {ds : List PyData} {vs : List V} (n : Nat), DpAll K H vs ds → DpAll K H (vs.drop n) (ds.drop n)
  | _, _, 0, a => a
  | _, _, _ + 1, .nil => .nil
  | _, _, n + 1, .cons _ a => dpA_drop n a
theorem dpA_take {K : PySem.W.Frag} {H : Hp} : ∀ {ds : List PyData} {vs : List V} (n : Nat), DpAll K H vs ds → DpAll K H (vs.take n) (ds.take n)
  | _, _, 0, _ => .nil
  | _, _, _ + 1, .nil => .nil
  | _, _, n + 1, .cons h a => .cons h (dpA_take n a)
theorem dp_tup {K : PySem.W.Frag} {H : Hp} {v : V} {ds : List PyData} (h : Dp K H v (.tuple ds)) : ∃ a xs, v = .ref a ∧ SqT K H a xs ∧ DpAll K H xs ds := by
  cases h with
  | tup h a => exact ⟨_, _, rfl, h, a⟩
theorem dp_lst {K : PySem.W.Frag} {H : Hp} {v : V} {ds : List PyData} (h : Dp K H v (.list ds)) : ∃ a xs, v = .ref a ∧ SqL K H a xs ∧ DpAll K H xs ds := by
  cases h with
  | lst h a => exact ⟨_, _, rfl, h, a⟩
theorem dp_str {K : PySem.W.Frag} {H : Hp} {v : V} {x : Str} (h : Dp K H v (.str x)) : v = .str x := by cases h; rfl
theorem dp_int {K : PySem.W.Frag} {H : Hp} {v : V} {x : Int} (h : Dp K H v (.int x)) : v = .int x := by cases h; rfl
theorem dp_non {K : PySem.W.Frag} {H : Hp} {v : V} (h : Dp K H v .none) : v = .non := by cases h; rfl
theorem exu {F H : Hp} {p : Addr} {o : HO} (e : Ex F H) (hp : H p = none) : Ex F (upd H p o) := fun a u h => by
  rw [upd_ne (ne_of_none (e a u h) hp)]
  exact e a u h
/-- what F holds stays where something that F does not hold changes -/
theorem exm {F H : Hp} {p : Addr} {o : HO} (e : Ex F H) (hp : F p = none) : Ex F (upd H p o) := Evl.Ex.mut e hp
/-- a new object, told of a heap with a name of its own -/
theorem new_of {H H1 : Hp} {p : Addr} {o : HO} (e : upd H p o = H1) (n : H p = none) : Ex H H1 ∧ H1 p = some o ∧ ∀ b, b ≠ p → H1 b = H b := by
  subst e
  exact ⟨exu (Evl.Ex.refl _) n, upd_same, fun b hb => upd_ne hb⟩
theorem set_of {H H1 : Hp} {p : Addr} {o : HO} (e : upd H p o = H1) : H1 p = some o ∧ ∀ b, b ≠ p → H1 b = H b := by
  subst e
  exact ⟨upd_same, fun b hb => upd_ne hb⟩
theorem set_ex {F H H1 : Hp} {p : Addr} (x : Ex F H) (n : F p = none) (o : ∀ b, b ≠ p → H1 b = H b) : Ex F H1 := fun b u e => by
  rw [o b (ne_of_none e n)]
  exact x b u e
theorem ex_none {F H : Hp} {p : Addr} (x : Ex F H) (n : H p = none) : F p = none := by
  cases e : F p with
  | none => rfl
  | some u => rw [x _ _ e] at n; cases n
end Fc

set_option maxRecDepth 100000
set_option maxHeartbeats 4000000
namespace FcX
open PySem PySem.Spec PyProof.Rows PySem.HandSPX
/-! ### an own exception class called with keywords -/
section
variable {M : Model} {A : Around} {E : Value → Shared → Prop} {h : Heap} {g : Array GenState} {d : Drawn} {t : Nat} {os : OsState}
variable {nm q : Str} {C N : Addr} {bs bm bmB : List Value} {hdct : Bool} {sn : List Str} {sub : List Value} {ab : Bool} {col : Option Bool} {dd : Option Addr} {k0 k1 k2 k3 k5 : Option Value} {B newId initId : String}
theorem newcheck (F : ExcBaseFacts B newId initId bmB) (hT : ∀ X : String, bm.contains (.type X) = bmB.contains (.type X)) {us : List Value} {kw : List (Str × Value)} {Q : Unit → Shared → Prop}
    (hC : h.get? C = some (excClassObj nm q C N bs bm hdct sn sub ab col dd k0 k1 k2 k3 k5 newId)) (hq : Q () ⟨h, g, d, t, os⟩) : wpAny M A (checkBuiltinCall newId ⟨.ref C :: us, kw⟩) Q E ⟨h, g, d, t, os⟩ := by
  have hb : (Value.ref C :: bm).contains (.type B) = true := by rw [List.contains_cons, hT, F.hasB, Bool.or_true]
  have ns := F.noStar
  simp only [checkBuiltinCall, F.newKind, F.newSplit, F.newRow]
  repeat (first | refine wpAny_loadPart_at hC ?_ | (refine wpAny_isSubtype_exc hC ?_; rw [hb]) | refine wpAny_staticBase_exc hC ?_ | refine wpAny_madeBy_exc hC ?_ | simp only [bne_self_eq_false, Bool.false_eq_true, if_false] | wp_step)
  exact hq
end
section
variable {prog : Program} {w : World} {A : Around} {E : Value → Shared → Prop} {R : Result → Shared → Prop} {h : Heap} {g : Array GenState} {d : Drawn} {t : Nat} {os : OsState}
variable {nm q : Str} {C N : Addr} {bs bm bmB : List Value} {hdct : Bool} {sn : List Str} {sub : List Value} {ab : Bool} {col : Option Bool} {dd : Option Addr} {k0 k1 k2 k3 k5 : Option Value} {B newId initId : String}
theorem newK (F : ExcBaseFacts B newId initId bmB) (hT : ∀ X : String, bm.contains (.type X) = bmB.contains (.type X)) {us : List Value} {kw : List (Str × Value)}
    (hC : h.get? C = some (excClassObj nm q C N bs bm hdct sn sub ab col dd k0 k1 k2 k3 k5 newId))
    (hq : R (.ok (.ret (.ref (h.objs.size + 1)))) ⟨(h.push (W.kdv_tup us)).push (excO C h.objs.size), g, d, t, os⟩) (hz : us.length ≤ sizeLine) :
    codeAny (model prog w) A (.builtin newId ⟨.ref C :: us, kw⟩) R ⟨h, g, d, t, os⟩ := by
  have hends := F.ends
  have hcB : (Value.ref C :: bm).contains (.type B) = true := by rw [List.contains_cons, hT, F.hasB, Bool.or_true]
  have a1 : (Value.ref C :: bm).contains (.type "AttributeError") = false := by rw [List.contains_cons, hT, F.noAttr]; rfl
  have a2 : (Value.ref C :: bm).contains (.type "NameError") = false := by rw [List.contains_cons, hT, F.noName]; rfl
  refine codeAny_builtinAt F.entry ?_
  unfold Builtin.«BaseException.__new__»
  refine PySem.wpAt_bind ?_
  show PySem.wpAt _ _ _ (stack >>= _) _ _ _
  refine PySem.wpAt_bind (PySem.wpAt_stack fun p below => PySem.wpAt_of_wpAny ?_)
  wp_walk
  refine PySem.wpAt_of_wpAny ?_
  rw [F.owner]
  repeat (first | with_reducible refine wpAny_madeHere_exc F.canon hC ?_ | with_reducible refine wpAny_loadPart_at hC ?_ | (with_reducible refine wpAny_isSubtype_exc hC ?_; first | rw [hcB] | rw [a1] | rw [a2]) | wp_step)
  show R _ _
  rw [Heap.size_push]
  exact hq
theorem typeK (F : ExcBaseFacts B newId initId bmB) (hT : ∀ X : String, bm.contains (.type X) = bmB.contains (.type X)) {us : List Value} {kw : List (Str × Value)} {fI : Addr} {Q : Fin → Shared → Prop}
    (hC : h.get? C = some (excClassObj nm q C N bs bm hdct sn sub ab col dd k0 k1 k2 k3 k5 newId))
    (hi : W.Looks (model prog w) h (typeLookup (.ref C) "__init__") (some (.ref fI))) (hb : ∀ self, W.Looks (model prog w) h (bindSpecial (.ref fI) self) (.ref fI, [self])) (hz : us.length ≤ sizeLine)
    (hq : codeAny (model prog w) A (.call (.ref fI) ⟨.ref (h.objs.size + 1) :: us, kw⟩)
      (fun r s' => match r with | .ok (.ret v) => v = .none ∧ Q (.done (.ret (.ref (h.objs.size + 1)))) s' | .ok _ => False | .error e => E e s')
      ⟨(h.push (W.kdv_tup us)).push (excO C h.objs.size), g, d, t, os⟩) :
    wpAny (model prog w) A (Builtin.«type.__call__» ⟨.ref C :: us, kw⟩) Q E ⟨h, g, d, t, os⟩ := by
  repeat (first | with_reducible refine wpAny_loadPart_at hC ?_ | with_reducible refine wpAny_madeBy_exc hC ?_ | wp_step)
  refine codeAny_call_builtin_code (Code.quiet_builtin _ F.quiet) (newcheck F hT hC ?_)
  refine newK F hT hC ?_ hz
  show wpAny _ _ _ _ _ _
  have kp : ∀ b o, h.get? b = some o → ((h.push (W.kdv_tup us)).push (excO C h.objs.size)).get? b = some o := fun b o e => Heap.get?_push_of_some _ (Heap.get?_push_of_some _ e)
  have hC' := kp _ _ hC
  have he : ((h.push (W.kdv_tup us)).push (excO C h.objs.size)).get? (h.objs.size + 1) = some (excO C h.objs.size) := by heap_get
  have cc : (Value.ref C :: bm).contains (.ref C) = true := by simp
  have i1 := hi.keeps kp
  have b1 := (hb (.ref (h.objs.size + 1))).keeps kp
  unfold isInstance
  repeat (first | with_reducible refine wpAny_loadPart_at he ?_ | (with_reducible refine wpAny_isSubtype_exc hC' ?_; rw [cc]) | wp_step)
  show wpAny _ _ (typeLookup (.ref C) _) _ _ _
  refine i1.at ?_
  refine wpAny_holding (wpAny_bind (b1.at ?_))
  refine wpAny_bind (wpAny_call (codeAny_mono hq fun r s' z => ?_))
  rcases r with e | (v | _ | _ | _) <;> first | exact z | exact z.elim | skip
  obtain ⟨rfl, z⟩ := z
  first
    | exact wpAny_pure (wpAny_pure z)
    | (wp_walk; exact z)
theorem callK (F : ExcBaseFacts B newId initId bmB) (hT : ∀ X : String, bm.contains (.type X) = bmB.contains (.type X)) {us : List Value} {kw : List (Str × Value)} {fI : Addr}
    (hC : h.get? C = some (excClassObj nm q C N bs bm hdct sn sub ab col dd k0 k1 k2 k3 k5 newId))
    (hi : W.Looks (model prog w) h (typeLookup (.ref C) "__init__") (some (.ref fI))) (hb : ∀ self, W.Looks (model prog w) h (bindSpecial (.ref fI) self) (.ref fI, [self])) (hz : us.length ≤ sizeLine)
    (hq : codeAny (model prog w) (A.under (.builtin "type.__call__" ⟨.ref C :: us, kw⟩)) (.call (.ref fI) ⟨.ref (h.objs.size + 1) :: us, kw⟩) (W.InitBack (h.objs.size + 1) R)
      ⟨(h.push (W.kdv_tup us)).push (excO C h.objs.size), g, d, t, os⟩) :
    codeAny (model prog w) A (.call (.ref C) ⟨us, kw⟩) R ⟨h, g, d, t, os⟩ := by
  have f1 := tc_lookup
  have f2 := tc_bind (.ref C)
  have hy : (⟨h, g, d, t, os⟩ : Shared).TypeIs (.ref C) "type" := ⟨_, hC, rfl⟩
  refine codeAny_of_tree ?_
  show wpAny _ _ (callAny (.ref C) _) _ _ _
  repeat (any_goals (first | assumption | with_reducible refine wpAny_loadPart_at hC ?_ | wp_step))
  refine ⟨rfl, ?_⟩
  refine codeAny_call_builtin_at (Code.quiet_builtin _ (by decide +kernel)) entry_typeCall (wpAny_check_type_call_sub hC (typeK F hT hC hi hb hz ?_))
  refine codeAny_mono hq fun r s' z => ?_
  rcases r with e | (v | _ | _ | _) <;> exact z
end
end FcX

set_option maxRecDepth 100000
set_option maxHeartbeats 4000000
namespace FcX
open PySem PySem.Spec PyProof.Rows L2 FcR
/-! ### own exception classes over ArithmeticError -/
abbrev aeT : List Value := [.type "ArithmeticError", .type "Exception", .type "BaseException", .type "object"]
structure XC (K : PySem.W.Frag) (C : Addr) : Prop where
  ini : PySem.W.excInitIn K C aeT "ArithmeticError.__new__" = true
  over : PySem.W.excOver K C aeT = true
  sa : PySem.W.findIn K (.ref C) "__setattr__" = some (some (.builtin "object.__setattr__"))
  ga : PySem.W.findIn K (.ref C) "__getattribute__" = some (some (.builtin "BaseException.__getattribute__"))
  gt : PySem.W.findIn K (.ref C) "__getattr__" = some none
  ex : PySem.W.subIn K (.ref C) (.type "BaseException") = some true
  ty : PySem.W.typeIn K (.ref C) = some (.type "type")
  kp : PySem.W.keepIn K (.ref C) = true
  hd : PySem.W.hasDictIn K C = true
  cl : PySem.W.findIn K (.ref C) "__class__" = some (some (.builtin "object.__class__"))
  cg : PySem.W.specialIn K (.builtin "object.__class__") "__get__" = some (some (.builtin "getset_descriptor.__get__"))
  ct : PySem.W.takesIn K (.builtin "object.__class__") = some true
  mo : PySem.W.mroIn K C (.type "object") = some true
def xcB (K : PySem.W.Frag) (C : Addr) : Bool := PySem.W.excInitIn K C aeT "ArithmeticError.__new__" && (PySem.W.excOver K C aeT && (
  decide (PySem.W.findIn K (.ref C) "__setattr__" = some (some (.builtin "object.__setattr__"))) && (decide (PySem.W.findIn K (.ref C) "__getattribute__" = some (some (.builtin "BaseException.__getattribute__"))) && (
  decide (PySem.W.findIn K (.ref C) "__getattr__" = some none) && (decide (PySem.W.subIn K (.ref C) (.type "BaseException") = some true) && (decide (PySem.W.typeIn K (.ref C) = some (.type "type")) && (PySem.W.keepIn K (.ref C) && (PySem.W.hasDictIn K C && (
  decide (PySem.W.findIn K (.ref C) "__class__" = some (some (.builtin "object.__class__"))) && (decide (PySem.W.specialIn K (.builtin "object.__class__") "__get__" = some (some (.builtin "getset_descriptor.__get__"))) && (
  decide (PySem.W.takesIn K (.builtin "object.__class__") = some true) && decide (PySem.W.mroIn K C (.type "object") = some true))))))))))))
theorem xcB_ok {K : PySem.W.Frag} {C : Addr} (h : xcB K C = true) : XC K C := by
  unfold xcB at h
  simp only [Bool.and_eq_true, decide_eq_true_eq] at h
  obtain ⟨h1, h2, h3, h4, h5, h6, h7, h8, h9, h10, h11, h12, h13⟩ := h
  exact ⟨h1, h2, h3, h4, h5, h6, h7, h8, h9, h10, h11, h12, h13⟩
/-- its __init__, and the field f that it stores -/
structure XI (K : PySem.W.Frag) (C fI : Addr) (f : Str) : Prop where
  ini : PySem.W.findIn K (.ref C) "__init__" = some (some (.ref fI))
  fn : PySem.W.typeIn K (.ref fI) = some (.type "function")
  tk : PySem.W.takerIn K C f = some none
  no : PySem.W.findIn K (.ref C) f = some none
def xiB (K : PySem.W.Frag) (C fI : Addr) (f : Str) : Bool := decide (PySem.W.findIn K (.ref C) "__init__" = some (some (.ref fI))) && (decide (PySem.W.typeIn K (.ref fI) = some (.type "function")) && (decide (PySem.W.takerIn K C f = some none) && decide (PySem.W.findIn K (.ref C) f = some none)))
theorem xiB_ok {K : PySem.W.Frag} {C fI : Addr} {f : Str} (h : xiB K C fI f = true) : XI K C fI f := by
  unfold xiB at h
  simp only [Bool.and_eq_true, decide_eq_true_eq] at h
  obtain ⟨h1, h2, h3, h4⟩ := h
  exact ⟨h1, h2, h3, h4⟩
section
variable {X : Cx} {pins : List (Addr × Obj)} {σ : L2.St} {H : Hp} {s : Shared} {a C fI : Addr} {f : Str} {y : V} {u : Value} {A : Around} {E : Value → Shared → Prop}
/-- the first field of an exception that is being made -/
theorem xst {Q : Unit → Shared → Prop} (T : XC X.K C) (ht : PySem.W.takerIn X.K C f = some none) (I : Inv X pins σ H s) (e : H a = some (exo a C none)) (ry : RelV y u)
    (h : ∀ dx s', H dx = none → dx ≠ a → Inv X pins σ (upd (upd H dx (exd dx [(f, y)])) a (exo a C (some dx))) s' → Q () s') : wpAny (model X.prog X.w) A (setAttr (.ref a) f u) Q E s := by
  obtain ⟨t1, ho⟩ := exo_at I.hok e
  obtain ⟨hp, g, d, t, os⟩ := s
  obtain ⟨cd, hc, hcd⟩ := PySem.W.any_some T.hd
  have hlt := Heap.lt_size ho
  have hne : hp.objs.size ≠ a := Nat.ne_of_gt hlt
  refine PySem.W.set_plain I.kIn (ox := PySem.W.excObj C t1 none .none) (od := none) ⟨ho, rfl, rfl, trivial⟩ T.sa ?_
  refine PySem.W.osa_openX (od := none) (ox := PySem.W.excObj C t1 none .none) F.store_ArithmeticError I.kIn ⟨ho, rfl, rfl, trivial⟩ T.over ht fun b => ?_
  refine wpAny_bind (wpAny_pure (wpAny_bind (PySem.W.instanceDict_exc (c2 := .none) ho (PySem.W.looks_clsIn I.kIn hc) hcd ?_)))
  show wpAny _ _ (Builtin.ObjectAttr.storeInDict hp.objs.size _ f u) _ _ _
  refine PySem.HandSPX.store_in_new ?_ fun h' tk' hn' sb => ?_
  · exact ⟨_, #[], _, (Heap.get?_update_ne _ _ _ _ hne).trans (Heap.get?_push_at rfl rfl), rfl, fun e he => absurd he (by simp), fun _ => rfl⟩
  · have ho1 : (hp.push (PySem.W.dictOf [] 0)).get? a = some (PySem.W.excObj C t1 none .none) := Heap.get?_push_of_some _ ho
    have hx : h'.get? a = some (PySem.W.excObj C t1 (some hp.objs.size) .none) := (sb.2 a hne.symm).trans (Heap.get?_update_self _ ho1 rfl)
    have k : ∀ b o, b ≠ a → hp.get? b = some o → h'.get? b = some o := fun b o hb q =>
      (sb.2 b (Nat.ne_of_lt (Heap.lt_size q))).trans ((Heap.get?_update_ne _ _ _ _ hb).trans (Heap.get?_push_of_some _ q))
    have hnd : H hp.objs.size = none := I.hok.fresh (Nat.le_refl _)
    have nd : ∀ {b : Addr} {o : Obj}, hp.get? b = some o → b ≠ hp.objs.size := fun q => Nat.ne_of_lt (Heap.lt_size q)
    have na : ∀ {b : Addr}, H b = none → b ≠ a := fun n z => by rw [z, e] at n; cases n
    have U : Un X.fs [] H (upd (upd H hp.objs.size (exd hp.objs.size [(f, y)])) a (exo a C (some hp.objs.size))) hp h' := {
      keep := fun b o q n _ _ => k b o (na n) q
      slot := fun b o q n _ _ => ⟨o.slots, k b o (na n) q⟩
      free := fun b o q n _ => by rw [upd_ne (na n), upd_ne (nd q)]; exact n
      there := fun b o q _ => by
        by_cases hb : b = a
        · exact ⟨_, by rw [hb]; exact hx⟩
        · exact ⟨o, k b o hb q⟩
      tups := fun b xs q => by rw [upd_ne (at_ne e q exo_tup), upd_ne (ne_of_none q hnd)]; exact q
      frzs := fun b o v q => by rw [upd_ne (at_ne e q exo_frz), upd_ne (ne_of_none q hnd)]; exact q
      tbls := fun b ps q => ⟨#[], by rw [upd_ne (at_ne e q exo_tbl), upd_ne (ne_of_none q hnd), q]; simp⟩ }
    refine h hp.objs.size _ hnd hne (I.un (t' := tk') U fun b o q => ?_)
    by_cases hb : b = a
    · subst hb
      rw [upd_same] at q
      cases q
      exact exo_ok hx
    · rw [upd_ne hb] at q
      by_cases hd : b = hp.objs.size
      · subst hd
        rw [upd_same] at q
        cases q
        exact exd_ok hn' (relO_put (fs := []) ry fun g => True.intro)
      · rw [upd_ne hd] at q
        refine (I.hok b o q).stay (fun c v hc z => k c v ?_ z) (fun c hc => ?_) (fun c xs hc => ?_)
        · rcases hc with hc | hc
          · rw [hc]
            exact hb
          · exact at_ne e hc exo_own
        · rw [upd_ne (at_ne e hc exo_own), upd_ne (ne_of_none hc hnd)]
          exact hc
        · rw [upd_ne (at_ne e hc exo_tup), upd_ne (ne_of_none hc hnd)]
          exact hc
end
/-- self.f = e, in the __init__ of such a class -/
def tXst (K : PySem.W.Frag) (f : Str) (to te : TE) : TS := fun D σ H => te σ H fun y H1 => to σ H1 fun x H2 => ∃ a C : Addr, x = .ref a ∧ XC K C ∧ PySem.W.takerIn K C f = some none ∧ H2 a = some (exo a C none) ∧
  ∀ dx, H2 dx = none → dx ≠ a → D.nx σ (upd (upd H2 dx (exd dx [(f, y)])) a (exo a C (some dx)))
theorem ps_xst {X : Cx} {o e : Expr} {to te : TE} {f : Str} {p pos : Pos} (ho : PE X o to) (he : PE X e te) (hs : swapsWith e (some (.Attribute o f p)) pos.line X.env = pure false := by rfl) : PS X (.Assign [.Attribute o f p] e pos) (tXst X.K f to te) := by
  refine ⟨fun pins s σ H D I h => ?_⟩
  refine plainObj_wpAny_Assign_Attribute (thn (he.run pins s σ H _ I h) fun v s1 ⟨y, H1, I1, r1, q1⟩ => thn (ho.run pins s1 σ H1 _ I1 q1) fun u s2 ⟨x, H2, I2, r2, a, C, ex, T, ht, ea, q⟩ => ?_) hs
  subst ex
  obtain rfl : u = Value.ref a := r2
  exact xst T ht I2 ea r1 fun dx s' n ne J => ⟨σ, _, J, q dx n ne⟩
/-- what such an __init__ promises -/
def spX (K : PySem.W.Frag) (C : Addr) (f : Str) : Sp := fun vs H Q _ => ∃ (a : Addr) (y : V), vs = [.ref a, y] ∧ H a = some (exo a C none) ∧ ∀ dx, H dx = none → dx ≠ a → Q .non (upd (upd H dx (exd dx [(f, y)])) a (exo a C (some dx)))
/-- a made exception as a value -/
def XV (H : Hp) (C : Addr) (f : Str) (y : V) (a : Addr) : Prop := ∃ d, H a = some (exo a C (some d)) ∧ H d = some (exd d [(f, y)])
def tMkX (C : Addr) (f : Str) (ta : TA) : TE := fun σ H Q => ta σ H fun vs H1 => ∃ y, vs = [y] ∧ ∀ (a : Addr) (H2 : Hp), Evl.Ex H1 H2 → H1 a = none → XV H2 C f y a → Q (.ref a) H2
theorem XV.ex {H H' : Hp} {C : Addr} {f : Str} {y : V} {a : Addr} (h : XV H C f y a) (e : Evl.Ex H H') : XV H' C f y a := by
  obtain ⟨d, h1, h2⟩ := h
  exact ⟨d, e _ _ h1, e _ _ h2⟩
theorem mk_ex {H : Hp} {C a dx : Addr} {f : Str} {y : V} (h1 : H a = none) (h2 : H dx = none) (h3 : dx ≠ a) : Evl.Ex H (upd (upd (upd H a (exo a C none)) dx (exd dx [(f, y)])) a (exo a C (some dx))) ∧ XV (upd (upd (upd H a (exo a C none)) dx (exd dx [(f, y)])) a (exo a C (some dx))) C f y a := by
  refine ⟨fun b o e => ?_, dx, upd_same, by rw [upd_ne h3, upd_same]⟩
  rw [upd_ne (ne_of_none e h1), upd_ne (ne_of_none e h2), upd_ne (ne_of_none e h1)]
  exact e
section
variable {X : Cx} {CX : CXT} {k : Nat} {C fI : Addr} {fd : FuncData} {f n x : Str} {p pos kpos : Pos} {e : Expr} {es : List Expr} {ta : TA} {te : TE}
theorem run_mkX {pins : List (Addr × Obj)} {σ : L2.St} {H : Hp} {s : Shared} {Q : VK} {us : List Value} {kw : List (Str × Value)} {v : Value} {y : V} (T : XC X.K C) (N : XI X.K C fI f) (G : FnOk X.prog X.w X.K X.mg X.base CX k fI fd ["self", n] (spX X.K C f)) (hr : Room (k + 1) X.A)
    (hb : ∀ (s : Shared) (o : Value), X.K.In s.heap → BindsTo s fd ⟨o :: us, kw⟩ [("self", o), (n, v)]) (hz : us.length ≤ 1000) (hx : Passes CX X (fun _ _ _ => False)) (I : Inv X pins σ H s) (r : RelV y v)
    (q : ∀ (a : Addr) (H2 : Hp), Evl.Ex H H2 → H a = none → XV H2 C f y a → Q (.ref a) H2) :
    wpAny (model X.prog X.w) X.A (call (.ref C) us kw) (EP X pins σ Q) X.xe s := by
  obtain ⟨hp, g, dr, tk, os⟩ := s
  obtain ⟨nm, N', qn, bs, bm, hdct, sn, sub, ab, col, dd, k0, k1, k2, k3, k5, hC, hT⟩ := PySem.W.excInit_of I.kIn T.ini
  have hsz : hp.objs.size ≤ hp.objs.size + 1 := Nat.le_succ _
  have hn : H (hp.objs.size + 1) = none := I.hok.fresh hsz
  have kk : ∀ b o, hp.get? b = some o → ((hp.push (PySem.W.kdv_tup us)).push (PySem.HandSPX.excO C hp.objs.size)).get? b = some o := fun b o e => Heap.get?_push_of_some _ (Heap.get?_push_of_some _ e)
  have hget : ((hp.push (PySem.W.kdv_tup us)).push (PySem.HandSPX.excO C hp.objs.size)).get? (hp.objs.size + 1) = some (PySem.HandSPX.excO C hp.objs.size) := by heap_get
  have I2 : Inv X pins σ (upd H (hp.objs.size + 1) (exo (hp.objs.size + 1) C none)) ⟨(hp.push (PySem.W.kdv_tup us)).push (PySem.HandSPX.excO C hp.objs.size), g, dr, tk, os⟩ :=
    I.laid (t' := tk) (a := hp.objs.size + 1) (o := exo (hp.objs.size + 1) C none) (h' := (hp.push (PySem.W.kdv_tup us)).push (PySem.HandSPX.excO C hp.objs.size)) kk hsz (exo_ok hget)
  have hq : spX X.K C f [.ref (hp.objs.size + 1), y] (upd H (hp.objs.size + 1) (exo (hp.objs.size + 1) C none)) (fun z H2 => z = .non ∧ Q (.ref (hp.objs.size + 1)) H2) (fun _ _ _ => False) :=
    ⟨hp.objs.size + 1, y, rfl, upd_same, fun dx h1 h2 => ⟨rfl, by
      obtain ⟨z1, z2⟩ := mk_ex (C := C) (f := f) (y := y) hn (by rw [upd_ne h2] at h1; exact h1) h2
      exact q (hp.objs.size + 1) _ z1 hn z2⟩⟩
  have hus : us.length ≤ sizeLine := by
    rw [sizeLine_eq]
    omega
  refine wpAny_call (callK F.excBase_ArithmeticError hT hC (PySem.W.looks_findIn I.kIn N.ini) (fun self => PySem.W.bind_fn I.kIn self N.fn) hus
    (codeAny_mono (G.run _ X.stack _ _ ⟨Value.ref (hp.objs.size + 1) :: us, kw⟩ [Value.ref (hp.objs.size + 1), v] [V.ref (hp.objs.size + 1), y] _ (fun _ _ _ => False) (hr.make C us kw) (I2.env0.make C us kw) (hb _ _ I2.kIn) (.cons (show RelV (V.ref (hp.objs.size + 1)) (Value.ref (hp.objs.size + 1)) from rfl) (.cons r .nil)) hq) fun r s' hq' => ?_))
  cases r with
  | error er => exact hx pins σ _ _ er s' I2 hq'
  | ok fl =>
    cases fl with
    | ret z =>
      obtain ⟨v3, H3, I3, rv, ev, q3⟩ := I2.after hq'
      subst ev
      exact ⟨rv, ⟨V.ref (hp.objs.size + 1), H3, I3, rfl, q3⟩⟩
    | next => exact False.elim hq'
    | brk => exact False.elim hq'
    | cont => exact False.elim hq'
/-- C(e) -/
theorem pe_mkX (T : XC X.K C) (N : XI X.K C fI f) (G : FnOk X.prog X.w X.K X.mg X.base CX k fI fd ["self", n] (spX X.K C f)) (hr : Room (k + 1) X.A) (hb : Binds X.K fd ["self", n] []) (hx : Passes CX X (fun _ _ _ => False)) (hg : Gl X x) (hm : X.mg x = some (.ref C)) (ha : PE X e te)
    (hdb : (x == ("__debug__" : Str)) = false := by decide) (he : starEach [e] X.env = (false, eval e X.env) :: starEach [] X.env := by rfl) : PE X (.Call (.Name x p) [e] [] pos) (tMkX C f (tCons te tNil)) := by
  refine ⟨fun pins s σ H Q I h => ?_⟩
  refine wpAny_Call_Name_kw (ld_glob I hg hm ?_ hdb)
  refine PySem.W.callWith_K (h₀ := X.base) I.ok.mod.kin T.kp (thn ((pa_cons (hs := he) ha pa_nil).run pos pins s σ H _ I h) fun us s1 ⟨vs, H1, I1, r1, y, ev, q⟩ => ⟨I1.kIn, ?_⟩) he (by rfl)
  subst ev
  cases r1 with
  | @cons _ v _ _ r1 r2 =>
    cases r2
    exact run_mkX (kw := []) T N G hr (fun s o hk => hb s [o, v] hk rfl) (show 1 ≤ 1000 by decide) hx I1 r1 q
/-- C(n = e) -/
theorem pe_mkXK (T : XC X.K C) (N : XI X.K C fI f) (G : FnOk X.prog X.w X.K X.mg X.base CX k fI fd ["self", n] (spX X.K C f)) (hr : Room (k + 1) X.A) (hb : ∀ (s : Shared) (o v : Value), X.K.In s.heap → BindsTo s fd ⟨[o], [(n, v)]⟩ [("self", o), (n, v)]) (hx : Passes CX X (fun _ _ _ => False)) (hg : Gl X x) (hm : X.mg x = some (.ref C)) (ha : PE X e te)
    (hdb : (x == ("__debug__" : Str)) = false := by decide) : PE X (.Call (.Name x p) [] [⟨some n, e, kpos⟩] pos) (tMkX C f (tCons te tNil)) := by
  refine ⟨fun pins s σ H Q I h => ?_⟩
  refine wpAny_Call_Name_kw (ld_glob I hg hm ?_ hdb)
  refine PySem.W.callWith_KW0 (h₀ := X.base) I.ok.mod.kin T.kp rfl (thn ((pk_cons ha pk_nil).run pos pins s σ H _ I h) fun us s1 ⟨vs, H1, I1, r1, y, ev, q⟩ => ⟨I1.kIn, ?_⟩)
  subst ev
  cases r1 with
  | @cons _ v _ _ r1 r2 =>
    cases r2
    exact run_mkX (us := []) (kw := [(n, v)]) T N G hr (fun s o hk => hb s o v hk) (by decide) hx I1 r1 q
/-- e.f -/
def tXfv (K : PySem.W.Frag) (f : Str) (te : TE) : TE := fun σ H Q => te σ H fun x H1 => ∃ (a C : Addr) (y : V), x = .ref a ∧ XC K C ∧ PySem.W.findIn K (.ref C) f = some none ∧ XV H1 C f y a ∧ Q y H1
theorem pe_xfv (ha : PE X e te) (hb : attributeBase e f X.env (eval e X.env) = eval e X.env := by rfl) : PE X (.Attribute e f pos) (tXfv X.K f te) := by
  refine ⟨fun pins s σ H Q I h => ?_⟩
  refine attr_of hb (thn (ha.run pins s σ H _ I h) fun u s1 ⟨x, H1, I1, rx, a, C, y, ex, T, hno, ⟨d, ea, ed⟩, q⟩ => ?_)
  subst ex
  obtain rfl : u = Value.ref a := rx
  obtain ⟨t1, ho⟩ := exo_at I1.hok ea
  obtain ⟨mA, hns, hr⟩ := exd_at I1.hok ed
  obtain ⟨od, hod, hl⟩ := lookIn_ns hns
  obtain ⟨z, hz, rz⟩ := RelO.some_of (v := y) (o := mA f) (by
    have w := hr f
    rw [lookup_put, if_pos rfl] at w
    exact w)
  have J : PySem.W.InstAt s1.heap a (PySem.W.excObj C t1 (some d) .none) C (some od) := ⟨ho, rfl, rfl, hod⟩
  exact HandSPX.exc_get I1.kIn J T.ga T.gt T.ex (PySem.W.findObj_own T.hd hno rfl (by rw [hl, hz])) (handed_of rz) ⟨y, H1, I1.tok _, rz, q⟩
/-- an exception object: its class is told -/
def XO (H : Hp) (C a : Addr) : Prop := (∃ d fs, H a = some (exo a C (some d)) ∧ H d = some (exd d fs)) ∨ H a = some (exo a C none)
theorem xo_kit {pins : List (Addr × Obj)} {σ : L2.St} {H : Hp} {s : Shared} {a : Addr} (T : XC X.K C) (I : Inv X pins σ H s) (h : XO H C a) : ∃ P : Heap → Prop, PySem.W.KitX X.K (.ref a) (.ref C) P ∧ P s.heap := by
  have hc : (PySem.W.clsIn X.K C).isSome = true := by
    obtain ⟨cd, hc, _⟩ := PySem.W.any_some T.hd
    rw [hc]
    rfl
  rcases h with ⟨d, fs, ea, ed⟩ | ea
  · obtain ⟨t1, ho⟩ := exo_at I.hok ea
    obtain ⟨mA, hns, _⟩ := exd_at I.hok ed
    obtain ⟨od, hod, _⟩ := lookIn_ns hns
    exact ⟨_, PySem.W.kitx_exc (ox := PySem.W.excObj C t1 (some d) .none) (od := some od) hc T.ga T.gt T.ex T.cl T.cg T.ct T.mo, ⟨ho, rfl, rfl, hod⟩⟩
  · obtain ⟨t1, ho⟩ := exo_at I.hok ea
    exact ⟨_, PySem.W.kitx_exc (ox := PySem.W.excObj C t1 none .none) (od := none) hc T.ga T.gt T.ex T.cl T.cg T.ct T.mo, ⟨ho, rfl, rfl, trivial⟩⟩
/-- isinstance(e, c) -/
def rIsX (K : PySem.W.Frag) : List V → Hp → VK → Prop := fun xs H Q => ∃ (a C : Addr) (c : V) (u : Value) (b : Bool), xs = [.ref a, c] ∧ ClsV c u ∧ XC K C ∧ XO H C a ∧ PySem.W.kitOne K (.ref C) u = some b ∧ Q (.bl b) H
theorem call_isX : CallR X (.builtin "isinstance") (rIsX X.K) := by
  intro pins s σ H xs us Q I r h
  obtain ⟨a, C, c, u, b, rfl, k, T, xo, e, q⟩ := h
  obtain ⟨u1, u2, rfl, r1, r2⟩ := vals2 r
  have e2 := k.eq r2
  subst e2
  obtain rfl : u1 = Value.ref a := r1
  obtain ⟨P, Z, p⟩ := xo_kit T I xo
  exact PySem.W.kia_one Z I.kIn p e (fun z => nomatch z) fun tk => ⟨.bl b, H, I.tok tk, rfl, q⟩
/-- isinstance(e, (c, ..)) -/
def rIsXT (K : PySem.W.Frag) : List V → Hp → VK → Prop := fun xs H Q => ∃ (a C tp : Addr) (cs : List V) (us : List Value) (b : Bool), xs = [.ref a, .ref tp] ∧ H tp = some (.tup cs) ∧ Paired ClsV cs us ∧ XC K C ∧ XO H C a ∧ PySem.W.kitAny K (.ref C) us = some b ∧ Q (.bl b) H
theorem call_isXT : CallR X (.builtin "isinstance") (rIsXT X.K) := by
  intro pins s σ H xs us Q I r h
  obtain ⟨a, C, tp, cs, vs, b, rfl, htp, k, T, xo, e, q⟩ := h
  obtain ⟨u1, u2, rfl, r1, r2⟩ := vals2 r
  obtain rfl : u1 = Value.ref a := r1
  obtain rfl : u2 = Value.ref tp := r2
  obtain ⟨P, Z, p⟩ := xo_kit T I xo
  obtain ⟨hz, ws, rw', o, ho, hc, n, hd⟩ := (show ObjOk X.prog X.w H s.heap tp (.tup cs) from I.hok tp _ htp)
  have e3 := ClsV.all k rw'
  subst e3
  obtain ⟨oc, od, oda, osl⟩ := o
  dsimp only at hc hd
  subst hc hd
  exact PySem.W.kia_tup Z I.kIn p ho e (fun z => nomatch z) fun tk => ⟨.bl b, H, I.tok tk, rfl, q⟩
/-- C(), no __init__ of its own -/
theorem pe_exc0 (hC : PySem.W.excIn X.K C aeT "ArithmeticError.__new__" = true) (kC : PySem.W.keepIn X.K (.ref C) = true) (hg : Gl X x) (hm : X.mg x = some (.ref C)) (hdb : (x == ("__debug__" : Str)) = false := by decide) :
    PE X (.Call (.Name x p) [] [] pos) (fun σ H Q => ∀ a, H a = none → Q (.ref a) (upd H a (exo a C none))) := by
  refine ⟨fun pins s σ H Q I h => ?_⟩
  refine wpAny_Call_Name_kw (ld_glob I hg hm ?_ hdb)
  refine PySem.W.callWith_K0 I.kIn kC ?_
  obtain ⟨bm, N, nm, qn, bs, hdct, sn, sub, ab, col, dd, k0, k1, k2, k3, k5, mN, h1, h2, h3, h4⟩ := exc_obj I.kIn hC
  refine wpAny_call_exc_subT F.excBase_ArithmeticError h4 h1 h2 h3 (fun h' a hm => ?_) (Nat.zero_le _)
  have hn : H a = none := I.hok.gone hm.new
  obtain ⟨t, ht, _, _⟩ := hm.there
  exact ⟨.ref a, upd H a (exo a C none), I.laidN hm.keeps hm.new hn (exo_ok ht), rfl, h a hn⟩
/-- f(k = v, ..), keywords alone: g puts them in the parameters' order -/
def tCallW (sp : Sp) (g : List V → List V) (n : Nat) (E : XK) (tk : TA) : TE := fun σ H Q => tk σ H fun zs H1 => zs.length = n ∧ sp (g zs) H1 Q E
theorem pe_callW {ps ks : List Str} {sp : Sp} {E : XK} {g : List Value → List Value} {gV : List V → List V} {kws : List Keyword} {tk : TA} {fI : Addr} (G : FnOk X.prog X.w X.K X.mg X.base CX k fI fd ps sp) (hr : Room k X.A) (hg : Gl X x) (hm : X.mg x = some (.ref fI)) (hk : PySem.W.keepIn X.K (.ref fI) = true)
    (hb : ∀ (s : Shared) (ws : List Value), ws.length = ks.length → BindsTo s fd ⟨[], ks.zip ws⟩ (ps.zip (g ws))) (hrel : ∀ {zs : List V} {ws : List Value}, Vals zs ws → zs.length = ks.length → Vals (gV zs) (g ws)) (hx : Passes CX X E) (hkw : PK X kws tk)
    (hall : (backToKw pos (keywordEach kws X.env)).all (·.1.isSome) = true := by rfl) (hks : (backToKw pos (keywordEach kws X.env)).filterMap (·.1) = ks := by rfl) (hdb : (x == ("__debug__" : Str)) = false := by decide)
    (hpl : ((backTo pos (starEach [] X.env)).any (·.1) || (backToKw pos (keywordEach kws X.env)).any (·.1.isNone)) = false := by rfl) :
    PE X (.Call (.Name x p) [] kws pos) (tCallW sp gV ks.length E tk) := by
  refine ⟨fun pins s σ H Q I h => ?_⟩
  refine wpAny_Call_Name_kw (ld_glob I hg hm ?_ hdb)
  refine PySem.W.callWith_KW0 (h₀ := X.base) I.ok.mod.kin hk hall (thn (hkw.run pos pins s σ H _ I h) fun ws s1 ⟨zs, H1, I1, r, l, q⟩ => ⟨I1.kIn, ?_⟩) hpl
  rw [hks]
  refine wpAny_call (codeAny_mono (G.run X.A X.stack s1 H1 ⟨[], ks.zip ws⟩ (g ws) (gV zs) Q E hr I1.env0 (hb s1 ws (r.length.symm.trans l)) (hrel r l) q) fun r s' hq => ?_)
  cases r with
  | error e => exact hx pins σ H1 s1 e s' I1 hq
  | ok fl =>
    cases fl with
    | ret u => exact I1.after hq
    | next => exact False.elim hq
    | brk => exact False.elim hq
    | cont => exact False.elim hq
end
/-- a binding of a def without defaults -/
theorem bindsX {K : PySem.W.Frag} {x qual : Str} {params : Arguments} {body : List Stmt} {scope : Scope} {kws : List (Str × V)} {f : Addr} {fd : FuncData} {args : Args} {binds : List (Str × Value)} (F : FunD K x qual params body scope [] kws f fd)
    (h : ∀ (kV doc pm : Value) (an : Option Addr) (cdv ct : Value), bindArgs (PySem.W.fnOf x qual params body scope .none kV doc pm an cdv ct) args = pure binds) (s : Shared) : BindsTo s fd args binds := by
  obtain ⟨oc, od, dV, kV, doc, pm, an, cdv, ct, osl, rfl, lk, hcd, hD, hK⟩ := F.ex
  rcases hD with ⟨_, rfl⟩ | ⟨e, _⟩
  · exact .of_eq (h kV doc pm an cdv ct)
  · exact absurd rfl e
/-- isinstance between the classes of the package, and against built-in ones -/
def xkB (K : PySem.W.Frag) (ns : List Str) : Bool := ns.all fun c => ns.all (fun d => decide (PySem.W.kitOne K (.ref (He.ga K c)) (.ref (He.ga K d)) = some (c == d || d == "CopyError"))) &&
  (decide (PySem.W.kitOne K (.ref (He.ga K c)) (.type "ArithmeticError") = some true) && decide (PySem.W.kitAny K (.ref (He.ga K c)) [.type "ValueError", .type "TypeError", .type "LookupError"] = some false))
theorem xk_own {K : PySem.W.Frag} {ns : List Str} (h : xkB K ns = true) {c d : Str} (hc : c ∈ ns) (hd : d ∈ ns) : PySem.W.kitOne K (.ref (He.ga K c)) (.ref (He.ga K d)) = some (c == d || d == "CopyError") := by
  have z := List.all_eq_true.mp h c hc
  simp only [Bool.and_eq_true, List.all_eq_true, decide_eq_true_eq] at z
  exact z.1 d hd
theorem xk_ae {K : PySem.W.Frag} {ns : List Str} (h : xkB K ns = true) {c : Str} (hc : c ∈ ns) : PySem.W.kitOne K (.ref (He.ga K c)) (.type "ArithmeticError") = some true := by
  have z := List.all_eq_true.mp h c hc
  simp only [Bool.and_eq_true, List.all_eq_true, decide_eq_true_eq] at z
  exact z.2.1
theorem xk_no {K : PySem.W.Frag} {ns : List Str} (h : xkB K ns = true) {c : Str} (hc : c ∈ ns) : PySem.W.kitAny K (.ref (He.ga K c)) [.type "ValueError", .type "TypeError", .type "LookupError"] = some false := by
  have z := List.all_eq_true.mp h c hc
  simp only [Bool.and_eq_true, List.all_eq_true, decide_eq_true_eq] at z
  exact z.2.2
end FcX

set_option maxRecDepth 100000
set_option maxHeartbeats 4000000
namespace Fc
open PySem PySem.Spec PyProof.Rows L2 FcR
open Evl (Ex)
/-- len of a list or tuple, within a comprehension -/
abbrev rLenK (K : PySem.W.Frag) : List V → Hp → VK → Prop := fun xs H Q => ∃ p ys, xs = [V.ref p] ∧ (SqL K H p ys ∨ SqT K H p ys) ∧ Q (V.int (ys.length : Int)) H
/-! ### a part of H as F -/
def frz (F H : Hp) (L : List Addr) : Hp := fun b => if b ∈ L then H b else F b
theorem frz_in {F H : Hp} {L : List Addr} {b : Addr} (h : b ∈ L) : frz F H L b = H b := if_pos h
theorem frz_out {F H : Hp} {L : List Addr} {b : Addr} (h : b ∉ L) : frz F H L b = F b := if_neg h
theorem frz_ex {F H : Hp} {L : List Addr} (h : ∀ b ∈ L, F b = none) : Ex F (frz F H L) := fun b o e => by
  rw [frz_out (fun z => by rw [h b z] at e; cases e)]
  exact e
theorem frz_le {F H : Hp} {L : List Addr} (e : Ex F H) : Ex (frz F H L) H := fun b o h => by
  by_cases z : b ∈ L
  · rw [frz_in z] at h; exact h
  · rw [frz_out z] at h; exact e b o h
/-- what grows: F to F', H to H', where M alone of what H tracked may change -/
structure Gr (M : Addr → Prop) (F H F' H' : Hp) : Prop where
  ff : Ex F F'
  fh : Ex F' H'
  nw : ∀ b, H b ≠ none → F b = none → ¬ M b → F' b = none
  kp : ∀ b o, H b = some o → ¬ M b → H' b = some o
theorem Gr.refl {M : Addr → Prop} {F H : Hp} (x : Ex F H) : Gr M F H F H := ⟨Evl.Ex.refl _, x, fun _ _ e _ => e, fun _ _ e _ => e⟩
theorem Gr.trans {M : Addr → Prop} {F H F1 H1 F2 H2 : Hp} (a : Gr M F H F1 H1) (b : Gr M F1 H1 F2 H2) : Gr M F H F2 H2 :=
  ⟨a.ff.trans b.ff, b.fh, fun c h1 h2 h3 => b.nw c (fun z => by
    cases e : H c with
    | none => exact h1 e
    | some o => rw [a.kp c o e h3] at z; cases z) (a.nw c h1 h2 h3) h3, fun c o e h => b.kp c o (a.kp c o e h) h⟩
theorem Gr.new {M : Addr → Prop} {F H H1 : Hp} (x : Ex F H) (e : Ex H H1) : Gr M F H F H1 := ⟨Evl.Ex.refl _, x.trans e, fun _ _ h _ => h, fun b o h _ => e b o h⟩
theorem Gr.set {M : Addr → Prop} {F H H1 : Hp} {p : Addr} (x : Ex F H) (hp : M p) (hf : F p = none) (o : ∀ b, b ≠ p → H1 b = H b) : Gr M F H F H1 :=
  ⟨Evl.Ex.refl _, set_ex x hf o, fun _ _ h _ => h, fun b u e hb => by rw [o b (fun z => hb (z ▸ hp))]; exact e⟩
theorem Gr.frz {M : Addr → Prop} {F H H1 : Hp} {p : Addr} {u : HO} (x : Ex F H) (n : H p = none) (s : H1 p = some u) (o : ∀ b, b ≠ p → H1 b = H b) : Gr M F H (upd F p u) H1 := by
  refine ⟨exu (Evl.Ex.refl _) (ex_none x n), fun b w e => ?_, fun b h1 h2 _ => ?_, fun b w e _ => ?_⟩
  · by_cases z : b = p
    · rw [z, upd_same] at e
      cases e
      rw [z]
      exact s
    · rw [upd_ne z] at e
      rw [o b z]
      exact x b w e
  · rw [upd_ne (fun z => h1 (by rw [z]; exact n))]
    exact h2
  · rw [o b (ne_of_none e n)]
    exact e
theorem Gr.mono {M M' : Addr → Prop} {F H F' H' : Hp} (g : Gr M F H F' H') (h : ∀ b, M b → M' b) : Gr M' F H F' H' :=
  ⟨g.ff, g.fh, fun b h1 h2 h3 => g.nw b h1 h2 fun z => h3 (h b z), fun b o e hb => g.kp b o e fun z => hb (h b z)⟩
/-- what is not M keeps what H held -/
theorem Gr.ex {F H F' H' : Hp} (g : Gr (fun _ => False) F H F' H') : Ex H H' := fun b o e => g.kp b o e id
/-- what a call changes of what is new does not count -/
theorem Gr.hide {M M' : Addr → Prop} {F H F1 H1 F2 H2 : Hp} (a : Gr M F H F1 H1) (b : Gr M' F1 H1 F2 H2) (h : ∀ x, M' x → H x = none ∨ M x) : Gr M F H F2 H2 := by
  have hn : ∀ x, H x ≠ none → ¬ M x → ¬ M' x := fun x h1 h2 h3 => (h x h3).elim h1 h2
  refine ⟨a.ff.trans b.ff, b.fh, fun x h1 h2 h3 => b.nw x (fun z => ?_) (a.nw x h1 h2 h3) (hn x h1 h3), fun x o e h1 => b.kp x o (a.kp x o e h1) (hn x (by rw [e]; exact fun z => nomatch z) h1)⟩
  cases e : H x with
  | none => exact h1 e
  | some o => rw [a.kp x o e h3] at z; cases z
theorem Gr.frzAt {M : Addr → Prop} {F H F1 H1 : Hp} {p : Addr} {o : HO} (g : Gr M F H F1 H1) (hp : H p = none) (h1 : H1 p = some o) (hf : F1 p = none) : Gr M F H (upd F1 p o) H1 := by
  refine ⟨exu g.ff hf, fun b u e => ?_, fun b a1 a2 a3 => ?_, g.kp⟩
  · by_cases z : b = p
    · rw [z, upd_same] at e; cases e; rw [z]; exact h1
    · rw [upd_ne z] at e; exact g.fh b u e
  · rw [upd_ne (fun z => a1 (by rw [z]; exact hp))]
    exact g.nw b a1 a2 a3
/-! ### a region R of new objects that still change, beside F, within H' -/
structure Rg (M : Addr → Prop) (F0 H F R H' : Hp) : Prop where
  g : Gr M F0 H F H'
  rh : Ex R H'
  dj : ∀ b o, R b = some o → F b = none
  rn : ∀ b o, R b = some o → H b = none ∧ ¬ M b
def hp0 : Hp := fun _ => none
theorem hp0_at (b : Addr) : hp0 b = none := rfl
section
variable {M : Addr → Prop} {F0 H F R H' : Hp}
theorem Rg.start (g : Gr M F0 H F H') : Rg M F0 H F hp0 H' := ⟨g, fun b o e => (by cases e), fun b o e => (by cases e), fun b o e => (by cases e)⟩
/-- a new address is new to all -/
theorem Rg.fresh (x : Rg M F0 H F R H') {p : Addr} (n : H' p = none) : F p = none ∧ R p = none ∧ (¬ M p → H p = none) := by
  refine ⟨ex_none x.g.fh n, ex_none x.rh n, fun hm => ?_⟩
  cases e : H p with
  | none => rfl
  | some o => rw [x.g.kp p o e hm] at n; cases n
/-- new, neither frozen nor in the region (rubbish) -/
theorem Rg.junk (x : Rg M F0 H F R H') {H1 : Hp} (e : Ex H' H1) : Rg M F0 H F R H1 := ⟨x.g.trans (Gr.new x.g.fh e), x.rh.trans e, x.dj, x.rn⟩
theorem Rg.newR (x : Rg M F0 H F R H') {H1 : Hp} {p : Addr} {o : HO} (hm : ¬ M p) (n : H' p = none) (s : H1 p = some o) (e : ∀ b, b ≠ p → H1 b = H' b) : Rg M F0 H F (upd R p o) H1 := by
  obtain ⟨f1, f2, f3⟩ := x.fresh n
  have ex : Ex H' H1 := fun b u h => by rw [e b (ne_of_none h n)]; exact h
  refine ⟨x.g.trans (Gr.new x.g.fh ex), fun b u h => ?_, fun b u h => ?_, fun b u h => ?_⟩
  all_goals by_cases z : b = p
  · rw [z, upd_same] at h; cases h; rw [z]; exact s
  · rw [upd_ne z] at h; rw [e b z]; exact x.rh b u h
  · rw [z]; exact f1
  · rw [upd_ne z] at h; exact x.dj b u h
  · rw [z]; exact ⟨f3 hm, hm⟩
  · rw [upd_ne z] at h; exact x.rn b u h
theorem Rg.newF (x : Rg M F0 H F R H') {H1 : Hp} {p : Addr} {o : HO} (n : H' p = none) (s : H1 p = some o) (e : ∀ b, b ≠ p → H1 b = H' b) : Rg M F0 H (upd F p o) R H1 := by
  obtain ⟨f1, f2, f3⟩ := x.fresh n
  have ex : Ex H' H1 := fun b u h => by rw [e b (ne_of_none h n)]; exact h
  refine ⟨x.g.trans (Gr.frz x.g.fh n s e), x.rh.trans ex, fun b u h => ?_, x.rn⟩
  rw [upd_ne (ne_of_none h f2)]
  exact x.dj b u h
theorem Rg.setR (x : Rg M F0 H F R H') {H1 : Hp} {p : Addr} {o u0 : HO} (hp : R p = some u0) (s : H1 p = some o) (e : ∀ b, b ≠ p → H1 b = H' b) : Rg M F0 H F (upd R p o) H1 := by
  obtain ⟨r1, r2⟩ := x.rn p u0 hp
  refine ⟨⟨x.g.ff, fun b u h => ?_, x.g.nw, fun b u h hb => ?_⟩, fun b u h => ?_, fun b u h => ?_, fun b u h => ?_⟩
  · have z : b ≠ p := fun z => by rw [z, x.dj p u0 hp] at h; cases h
    rw [e b z]; exact x.g.fh b u h
  · have z : b ≠ p := fun z => by rw [z, r1] at h; cases h
    rw [e b z]; exact x.g.kp b u h hb
  all_goals by_cases z : b = p
  · rw [z, upd_same] at h; cases h; rw [z]; exact s
  · rw [upd_ne z] at h; rw [e b z]; exact x.rh b u h
  · rw [z]; exact x.dj p u0 hp
  · rw [upd_ne z] at h; exact x.dj b u h
  · rw [z]; exact ⟨r1, r2⟩
  · rw [upd_ne z] at h; exact x.rn b u h
/-- something of M is stored -/
theorem Rg.setM (x : Rg M F0 H F R H') {H1 : Hp} {p : Addr} (hp : M p) (hf : F p = none) (e : ∀ b, b ≠ p → H1 b = H' b) : Rg M F0 H F R H1 := by
  refine ⟨x.g.trans (Gr.set x.g.fh hp hf e), fun b u h => ?_, x.dj, x.rn⟩
  rw [e b (fun z => (x.rn b u h).2 (z ▸ hp))]
  exact x.rh b u h
/-- a call that changes nothing of the region -/
theorem Rg.call {M' : Addr → Prop} {F2 H2 : Hp} (x : Rg M F0 H F R H') (c : Gr M' F H' F2 H2) (hM : ∀ b, M' b → M b) : Rg M F0 H F2 R H2 := by
  refine ⟨x.g.trans (c.mono hM), fun b o h => c.kp b o (x.rh b o h) fun z => (x.rn b o h).2 (hM b z), fun b o h => ?_, x.rn⟩
  exact c.nw b (by rw [x.rh b o h]; exact fun z => nomatch z) (x.dj b o h) fun z => (x.rn b o h).2 (hM b z)
/-- a call that may change M' of the region R1, the rest R staying -/
theorem Rg.only (x : Rg M F0 H F R H') {R' : Hp} (e : Ex R' R) : Rg M F0 H F R' H' := ⟨x.g, e.trans x.rh, fun b o h => x.dj b o (e b o h), fun b o h => x.rn b o (e b o h)⟩
/-- F with R -/
def joinH (F R : Hp) : Hp := fun b => match R b with
  | some o => some o
  | none => F b
theorem joinH_r {b : Addr} {o : HO} (h : R b = some o) : joinH F R b = some o := by unfold joinH; rw [h]
theorem joinH_f (dj : ∀ b o, R b = some o → F b = none) : Ex F (joinH F R) := fun b o h => by
  unfold joinH
  cases e : R b with
  | none => exact h
  | some u => rw [dj b u e] at h; cases h
theorem joinH_ex : Ex R (joinH F R) := fun b o h => joinH_r h
/-- the region is done: it is frozen -/
theorem Rg.done (x : Rg M F0 H F R H') : Gr M F0 H (joinH F R) H' := by
  refine ⟨x.g.ff.trans (joinH_f x.dj), fun b o h => ?_, fun b h1 h2 h3 => ?_, x.g.kp⟩
  · unfold joinH at h
    cases e : R b with
    | none => rw [e] at h; exact x.g.fh b o h
    | some u => rw [e] at h; cases h; exact x.rh b _ e
  · unfold joinH
    cases e : R b with
    | none => exact x.g.nw b h1 h2 h3
    | some u => exact absurd (x.rn b u e).1 h1
/-- a part of the region is frozen -/
theorem Rg.part (x : Rg M F0 H F R H') {R1 R2 : Hp} (e1 : Ex R1 R) (e2 : Ex R2 R) (d : ∀ b o, R1 b = some o → R2 b = none) : Rg M F0 H (joinH F R2) R1 H' := by
  refine ⟨(x.only e2).done, e1.trans x.rh, fun b o h => ?_, fun b o h => x.rn b o (e1 b o h)⟩
  unfold joinH
  rw [d b o h]
  exact x.dj b o (e1 b o h)
end
end Fc

set_option maxRecDepth 100000
set_option maxHeartbeats 4000000
namespace FcO
open PySem PySem.Spec PyProof.Rows L2
/-! ### own special methods: len(o) by an own __len__ -/
section
variable {X : Cx} {CX : CXT} {C f : Addr} {fd : FuncData} {ps : List Str} {sp : Sp} {E : XK} {k : Nat}
/-- a def called somewhere below the running body -/
theorem run_sub {A : Around} (F : FnOk X.prog X.w X.K X.mg X.base CX k f fd ps sp) (sb : Sub X k A) (hb : Binds X.K fd ps []) (hx : Passes CX X E) {pins : List (Addr × Obj)} {σ : L2.St} {H : Hp} {s : Shared} {us : List Value} {vs : List V} {Q : VK} (I : Inv X pins σ H s) (r : Vals vs us) (h : sp vs H Q E) :
    wpAny (model X.prog X.w) A (call (.ref f) us) (EP X pins σ Q) X.xe s := by
  have e0 : Env0 X.prog X.w X.K X.mg X.base A X.stack s H := by
    have e := I.env0
    exact ⟨by rw [sb.fr]; exact e.frames, e.mod, e.bs, e.bsz, e.funs, e.frf, e.hok, e.bare⟩
  have hl := F.len _ _ _ _ h
  refine wpAny_call (codeAny_mono (F.run A X.stack s H ⟨us, []⟩ us vs _ E sb.room e0 (by
    have := hb s us I.kIn (by rw [List.append_nil, ← r.length]; exact hl)
    rw [List.append_nil] at this
    exact this) r h) fun r s' hq => ?_)
  cases r with
  | error e => exact hx pins σ H s e s' I hq
  | ok fl =>
    cases fl with
    | ret w => exact I.after hq
    | next => exact False.elim hq
    | brk => exact False.elim hq
    | cont => exact False.elim hq
/-- callSpecial? of an instance whose class has its own method -/
theorem special_own {M : Model} {A : Around} {E : Value → Shared → Prop} {s : Shared} {K : PySem.W.Frag} {x C f : Addr} {ox : Obj} {od : Option Obj} {name : Str} {args : List Value} {Q : Option Value → Shared → Prop} (X : K.In s.heap) (I : PySem.W.InstAt s.heap x ox C od) (hs : PySem.W.findIn K (.ref C) name = some (some (.ref f))) (hf : PySem.W.isFn K (.ref f) = true)
    (h : wpAny M A (call (.ref f) (.ref x :: args)) (fun v => Q (some v)) E s) : wpAny M A (callSpecial? (.ref x) name args) Q E s := by
  simp only [callSpecial?]
  refine wpAny_bind (wpAny_bind (I.type.here ((PySem.W.looks_findIn X hs).here ?_)))
  refine wpAny_holding (wpAny_bind ((PySem.W.bind_fn X _ (beq_iff_eq.mp hf)).here ?_))
  exact wpAny_bind (wpAny_mono h (fun v s' h' => wpAny_pure h') fun _ _ h' => h')
abbrev rLenO (C : Addr) (sp : Sp) (E : XK) : List V → Hp → VK → Prop := fun xs H Q => ∃ (a dx : Addr) (fs : List (Str × V)), xs = [.ref a] ∧ H a = some (.ins C dx fs) ∧ sp [.ref a] H (fun v H' => ∃ n : Nat, v = .int (n : Int) ∧ (n : Int) < 2 ^ 63 ∧ Q (.int (n : Int)) H') E
theorem call_lenO (F : FnOk X.prog X.w X.K X.mg X.base CX k f fd ps sp) (hr : Room (k + 1) X.A) (hm : Meth X.K C "__len__" f) (hb : Binds X.K fd ps []) (hx : Passes CX X E) : CallR X (.builtin "len") (rLenO C sp E) := by
  intro pins s σ H xs us Q I r h
  obtain ⟨a, dx, fs, rfl, ha, q⟩ := h
  obtain ⟨u, rfl, ru⟩ := vals1 r
  obtain rfl : u = Value.ref a := ru
  obtain ⟨mA, J, _⟩ := ins_get I.hok ha
  obtain ⟨od, J, _⟩ := J.look
  refine Calls.call_function_entry kind_len plain_len entry_len (args_len1 _) ?_
  unfold Builtin.«len»
  refine wpAny_bind (m := oneArg "len" _) (wpAny_pure ?_)
  refine wpAny_bind (m := callSpecial? (.ref a) (PySem.Str.ofString "__len__")) (special_own I.kIn J hm.at_ hm.fn (wpAny_mono (run_sub F ⟨hr.in1, rfl⟩ hb hx I r q) (fun v s1 hv => ?_) fun _ _ e => e))
  obtain ⟨z, H1, I1, rz, n, rfl, hn, q1⟩ := hv
  obtain ⟨t, rfl⟩ : ∃ t, v = Value.int (n : Int) t := rz
  refine wpAny_bind (wpAny_holding (wpAny_pure ?_))
  refine wpAny_bind (wpAny_letGo ?_)
  show wpAny _ _ (if ((n : Nat) : Int) < 0 then _ else _) _ _ _
  rw [if_neg (by omega)]
  show wpAny _ _ (if ((n : Nat) : Int) ≥ 2 ^ 63 then _ else _) _ _ _
  rw [if_neg (by omega)]
  exact wpAny_bind (wpAny_mkInt (wpAny_pure ⟨_, rfl, ⟨.int (n : Int), H1, I1.tok _, ⟨_, rfl⟩, q1⟩⟩))
end
end FcO
namespace FcO
open PySem PySem.Spec PyProof.Rows L2
/-! ### == and != by an own __eq__, both answers -/
structure EqC (K : PySem.W.Frag) (C : Addr) : Prop where
  ne : PySem.W.findIn K (.ref C) "__ne__" = some (some (.builtin "object.__ne__"))
  ha : PySem.W.findIn K (.ref C) "__class__" = some (some (.builtin "object.__class__"))
  hn : PySem.W.specialIn K (.builtin "object.__class__") "__get__" = some (some (.builtin "getset_descriptor.__get__"))
  htk : PySem.W.takesIn K (.builtin "object.__class__") = some true
  hm : PySem.W.mroIn K C (.type "object") = some true
  same : PySem.W.kitOne K (.ref C) (.ref C) = some true
  no : ∀ T ∈ (["NoneType", "bool", "int", "str", "list", "tuple", "dict"] : List String), PySem.W.kitOne K (.type T) (.ref C) = some false
def eqB (K : PySem.W.Frag) (C : Addr) : Bool :=
  (decide (PySem.W.findIn K (.ref C) "__ne__" = some (some (.builtin "object.__ne__"))) && decide (PySem.W.findIn K (.ref C) "__class__" = some (some (.builtin "object.__class__")))) &&
  ((decide (PySem.W.specialIn K (.builtin "object.__class__") "__get__" = some (some (.builtin "getset_descriptor.__get__"))) && decide (PySem.W.takesIn K (.builtin "object.__class__") = some true)) &&
  ((decide (PySem.W.mroIn K C (.type "object") = some true) && decide (PySem.W.kitOne K (.ref C) (.ref C) = some true)) &&
   ((["NoneType", "bool", "int", "str", "list", "tuple", "dict"] : List String).all fun T => decide (PySem.W.kitOne K (.type T) (.ref C) = some false))))
theorem eqB_ok {K : PySem.W.Frag} {C : Addr} (h : eqB K C = true) : EqC K C := by
  unfold eqB at h
  obtain ⟨h1, h2⟩ := Bool.and_eq_true_iff.mp h
  obtain ⟨a1, a2⟩ := Bool.and_eq_true_iff.mp h1
  obtain ⟨h3, h4⟩ := Bool.and_eq_true_iff.mp h2
  obtain ⟨a3, a4⟩ := Bool.and_eq_true_iff.mp h3
  obtain ⟨h5, h6⟩ := Bool.and_eq_true_iff.mp h4
  obtain ⟨a5, a6⟩ := Bool.and_eq_true_iff.mp h5
  exact ⟨of_decide_eq_true a1, of_decide_eq_true a2, of_decide_eq_true a3, of_decide_eq_true a4, of_decide_eq_true a5, of_decide_eq_true a6, fun T hT => of_decide_eq_true (List.all_eq_true.mp h6 T hT)⟩
section
variable {X : Cx} {CX : CXT} {C f : Addr} {fd : FuncData} {ps : List Str} {sp : Sp} {E : XK} {k : Nat}
theorem ty_ins {K : PySem.W.Frag} {H : Hp} {a C dx : Addr} {fs : List (Str × V)} (c : Cls K C) (z : EqC K C) (h : H a = some (.ins C dx fs)) : TyX K H (.ref a) (.ref C) := .base (.ins h c z.ha z.hn z.htk z.hm)
def rEqO (K : PySem.W.Frag) (C : Addr) (sp : Sp) (E : XK) : R2 := fun x y H Q => ∃ (a dx : Addr) (fs : List (Str × V)) (tb : Value), x = .ref a ∧ H a = some (.ins C dx fs) ∧ TyX K H y tb ∧ PySem.W.notFirst K C tb = true ∧ sp [x, y] H (fun v H' => ∃ b, v = .bl b ∧ Q (.bl b) H') E
def rNeO (K : PySem.W.Frag) (C : Addr) (sp : Sp) (E : XK) : R2 := fun x y H Q => ∃ (a dx : Addr) (fs : List (Str × V)) (tb : Value), x = .ref a ∧ H a = some (.ins C dx fs) ∧ TyX K H y tb ∧ PySem.W.notFirst K C tb = true ∧ sp [x, y] H (fun v H' => ∃ b, v = .bl b ∧ Q (.bl (!b)) H') E
theorem op_eqO (F : FnOk X.prog X.w X.K X.mg X.base CX k f fd ps sp) (hr : Room k X.A) (hm : Meth X.K C "__eq__" f) (hb : Binds X.K fd ps []) (hx : Passes CX X E) : OpR X (compareOp .Eq) (rEqO X.K C sp E) := by
  intro pins s σ H x y v u Q I rx ry h
  obtain ⟨a, dx, fs, tb, rfl, ha, ty, nf, q⟩ := h
  obtain rfl : v = Value.ref a := rx
  obtain ⟨mA, J, _⟩ := ins_get I.hok ha
  obtain ⟨od, J, _⟩ := J.look
  obtain ⟨Pk, kx, pk, _⟩ := kit_of I ry ty
  obtain ⟨m, hF⟩ := I.fr
  show wpAny (model X.prog X.w) X.A (richCompare .Eq (.ref a) u) (EP X pins σ Q) X.xe s
  refine PySem.W.cmp_K (op := .Eq) (tb := tb) hr.units0 hF I.ok.mod.kin J (kx.ty _ _ I.kIn pk) nf hm.at_ hm.fn ?_
  refine wpAny_mono (run_sub F ⟨hr, rfl⟩ hb hx I (.cons (show L2.RelV (.ref a) (Value.ref a) from rfl) (.cons ry .nil)) q) (fun r s1 hv => ?_) fun _ _ e => e
  obtain ⟨z, H1, I1, rz, b, rfl, q1⟩ := hv
  cases rz
  exact ⟨.bl b, H1, I1, rfl, q1⟩
theorem op_neO (F : FnOk X.prog X.w X.K X.mg X.base CX k f fd ps sp) (hr : Room (k + 1) X.A) (hm : Meth X.K C "__eq__" f) (zc : EqC X.K C) (hb : Binds X.K fd ps []) (hx : Passes CX X E) : OpR X (compareOp .NotEq) (rNeO X.K C sp E) := by
  intro pins s σ H x y v u Q I rx ry h
  obtain ⟨a, dx, fs, tb, rfl, ha, ty, nf, q⟩ := h
  obtain rfl : v = Value.ref a := rx
  obtain ⟨mA, J, _⟩ := ins_get I.hok ha
  obtain ⟨od, J, _⟩ := J.look
  obtain ⟨Pk, kx, pk, _⟩ := kit_of I ry ty
  have hbT := kx.ty (model X.prog X.w) s.heap I.kIn pk
  have Xk := I.kIn
  have callE : wpAny (model X.prog X.w) X.A.in1 (call (.ref f) [.ref a, u]) (fun v s' => ∃ b, v = .bool b ∧ EP X pins σ Q (.bool (!b)) s') X.xe s := by
    refine wpAny_mono (run_sub F ⟨hr.in1, rfl⟩ hb hx I (.cons (show L2.RelV (.ref a) (Value.ref a) from rfl) (.cons ry .nil)) q) (fun r s1 hv => ?_) fun _ _ e => e
    obtain ⟨z, H1, I1, rz, b, rfl, q1⟩ := hv
    cases rz
    exact ⟨b, rfl, .bl (!b), H1, I1, rfl, q1⟩
  have inst : PySem.W.Looks (model X.prog X.w) s.heap (isInstance (.ref a) (.type "object")) true := J.type.andThen (PySem.W.looks_mroIn Xk zc.hm)
  have hbs : bindSpecial (.builtin "object.__ne__") (.ref a) = pure (.builtin "object.__ne__", [.ref a]) := PySem.F.cmp_object.ne.bind _
  have hu1 : X.A.in1.units < cLine := hr.in1.units0
  have callN : wpAny (model X.prog X.w) X.A (call (.builtin "object.__ne__") [.ref a, u]) (fun v s' => ∃ b, v = .bool b ∧ EP X pins σ Q (.bool b) s') X.xe s := by
    refine wpAny_call (codeAny_call_builtin PySem.F.cmp_object.ne.plain PySem.F.cmpEntry_ne (@PySem.W.check_slot (model X.prog X.w) _ _ _ "object.__ne__" "object" "__ne__" (.ref a) [u] [] _ PySem.F.cmpKind_ne PySem.F.cmpSplit_ne inst (PySem.F.cmpArgs_ne _ _) ?_))
    unfold Builtin.«object.__ne__»
    repeat (first
      | with_reducible refine wpAny_cRoomFor hu1 ?_
      | (refine wpAny_bind (m := callSpecialIfBound? (.ref a) (Str.ofString "__eq__") [u])
          (PySem.W.ifBound_K Xk J hm.at_ hm.fn (wpAny_mono callE (fun r s' hr => by
            obtain ⟨b, rfl, hq⟩ := hr
            repeat (first | exact ⟨_, rfl, hq⟩ | exact wpAny_pure ⟨_, rfl, hq⟩ | exact wpAny_truthy_bool ⟨_, rfl, hq⟩ | (refine wpAny_bind (m := truthy (.bool _)) (wpAny_truthy_bool ?_)) | wp_step)) fun _ _ e => e)))
      | wp_step)
  have one : wpAny (model X.prog X.w) X.A (tryCompare (.ref a) (cmpInfo .NotEq).2.1 u) (fun r s' => ∃ v, r = some v ∧ EP X pins σ Q v s') X.xe s := by
    unfold tryCompare
    refine wpAny_bind (m := callSpecialIfBound? (.ref a) (Str.ofString "__ne__") [u]) ?_
    simp only [callSpecialIfBound?, bindSpecialIfBound?]
    refine wpAny_holding (wpAny_bind (wpAny_bind (wpAny_bind (J.type.here ((PySem.W.looks_findIn Xk zc.ne).here ?_)))))
    simp only [hbs]
    refine wpAny_bind (wpAny_askSetting (wpAny_ite ?_))
    split
    · exact wpAny_bind (wpAny_pure (wpAny_pure (wpAny_bind (wpAny_mono callN (fun v s' h' => by
        obtain ⟨b, rfl, hq⟩ := h'
        exact wpAny_pure (wpAny_pure ⟨_, rfl, hq⟩)) fun _ _ h' => h'))))
    · exact wpAny_tryCatch (wpAny_bind (wpAny_pure (wpAny_pure (wpAny_bind (wpAny_mono callN (fun v s' h' => by
        obtain ⟨b, rfl, hq⟩ := h'
        exact wpAny_pure (wpAny_pure ⟨_, rfl, hq⟩)) fun _ _ h' => h')))))
  show wpAny (model X.prog X.w) X.A (richCompare .NotEq (.ref a) u) (EP X pins σ Q) X.xe s
  unfold richCompare
  simp only [oneThing_ref]
  refine wpAny_holding (wpAny_bind (wpAny_cRoomFor hr.units0 ?_))
  refine wpAny_bind (J.type.here (wpAny_bind (hbT.here ?_)))
  split
  · rename_i qq
    have e : PySem.W.subIn X.K tb (.ref C) = some false := by
      rcases Bool.or_eq_true_iff.mp nf with e | e
      · rw [beq_iff_eq.mp e] at qq; simp at qq
      · exact beq_iff_eq.mp e
    refine wpAny_bind ((PySem.W.looks_subIn Xk e).here ?_)
    simp only [Bool.false_eq_true, if_false]
    refine wpAny_bind (wpAny_mono one (fun r s' z => ?_) fun _ _ e => e)
    obtain ⟨v, rfl, hq⟩ := z
    exact wpAny_pure hq
  · refine wpAny_bind (wpAny_pure ?_)
    simp only [Bool.false_eq_true, if_false]
    refine wpAny_bind (wpAny_mono one (fun r s' z => ?_) fun _ _ e => e)
    obtain ⟨v, rfl, hq⟩ := z
    exact wpAny_pure hq
end
end FcO
namespace FcO
open PySem PySem.Spec PyProof.Rows L2
/-! ### C(k = v, ..): a new instance by keywords alone -/
def tMakeW (C : Addr) (sp : Sp) (g : List V → List V) (n : Nat) (E : XK) (tk : TA) : TE := fun σ H Q => tk σ H fun zs H1 => zs.length = n ∧ ∀ x dx, H1 x = none → H1 dx = none → dx ≠ x → sp (.ref x :: g zs) (upd (upd H1 dx (.own x)) x (.ins C dx [])) (fun v H3 => v = .non ∧ Q (.ref x) H3) E
section
variable {X : Cx} {CX : CXT} {C f : Addr} {fd : FuncData} {ps ks : List Str} {sp : Sp} {E : XK} {k : Nat} {x : Str} {p pos : Pos} {kws : List Keyword} {tk : TA} {g : List Value → List Value} {gV : List V → List V}
theorem pe_makeW (M : Mk X.K C f) (F : FnOk X.prog X.w X.K X.mg X.base CX k f fd ps sp) (hr : Room (k + 1) X.A) (hg : Gl X x) (hm : X.mg x = some (.ref C))
    (hb : ∀ (s : Shared) (y : Value) (ws : List Value), ws.length = ks.length → BindsTo s fd ⟨[y], ks.zip ws⟩ (ps.zip (y :: g ws))) (hrel : ∀ {zs : List V} {ws : List Value}, Vals zs ws → zs.length = ks.length → Vals (gV zs) (g ws)) (hx : Passes CX X E) (hkw : PK X kws tk)
    (hall : (backToKw pos (keywordEach kws X.env)).all (·.1.isSome) = true := by rfl) (hks : (backToKw pos (keywordEach kws X.env)).filterMap (·.1) = ks := by rfl) (hdb : (x == ("__debug__" : Str)) = false := by decide)
    (hpl : ((backTo pos (starEach [] X.env)).any (·.1) || (backToKw pos (keywordEach kws X.env)).any (·.1.isNone)) = false := by rfl) :
    PE X (.Call (.Name x p) [] kws pos) (tMakeW C sp gV ks.length E tk) := by
  refine ⟨fun pins s0 σ H0 Q I0 h0 => ?_⟩
  refine wpAny_Call_Name_kw (ld_glob I0 hg hm ?_ hdb)
  refine PySem.W.callWith_KW0 (h₀ := X.base) I0.ok.mod.kin M.kp hall (thn (hkw.run pos pins s0 σ H0 _ I0 h0) fun ws s ⟨zs, H, I, rz, l, h⟩ => ⟨I.kIn, ?_⟩) hpl
  rw [hks]
  have hq := h (s.heap.objs.size + 1) s.heap.objs.size (I.hok.fresh (Nat.le_succ _)) (I.hok.fresh (Nat.le_refl _)) (Nat.ne_of_lt (Nat.lt_succ_self _))
  have I2 := Inv.made (C := C) I
  have r2 : Vals (V.ref (s.heap.objs.size + 1) :: gV zs) (Value.ref (s.heap.objs.size + 1) :: g ws) := .cons (show L2.RelV (.ref _) (Value.ref _) from rfl) (hrel rz l)
  refine wpAny_call (make_map (f := f) I.kIn M.makes M.init (beq_iff_eq.mp M.fn) (codeAny_mono (F.run _ X.stack _ _ ⟨Value.ref (s.heap.objs.size + 1) :: [], ks.zip ws⟩ (Value.ref (s.heap.objs.size + 1) :: g ws) _ _ E (hr.make C [] (ks.zip ws))
    (I2.env0.make C [] (ks.zip ws)) (hb _ _ ws (rz.length.symm.trans l)) r2 hq) fun r s' hq' => ?_))
  cases r with
  | error e => exact hx pins σ _ _ e s' I2 hq'
  | ok fl =>
    cases fl with
    | ret u =>
      obtain ⟨v, H', I3, rv, ev, q3⟩ := I2.after hq'
      subst ev
      exact ⟨rv, ⟨V.ref (s.heap.objs.size + 1), H', I3, rfl, q3⟩⟩
    | next => exact False.elim hq'
    | brk => exact False.elim hq'
    | cont => exact False.elim hq'
end
end FcO

set_option maxRecDepth 100000
set_option maxHeartbeats 4000000
namespace FcX
open PySem PySem.Spec PyProof.Rows L2 FcR
/-! ### raise C(e), C an own class over ArithmeticError whose __init__ stores one field -/
def tMkR (C : Addr) (f : Str) (ta : TA) : L2.St → Hp → XK → Prop := fun σ H Q => ta σ H fun vs H1 => ∃ y, vs = [y] ∧ ∀ d, H1 d = none → Q (.ref C) (some d) (upd H1 d (.xd [(f, y)]))
theorem del_made {H : Hp} {a dx : Addr} {u1 u2 u3 o : HO} (h1 : H a = none) (h3 : dx ≠ a) : upd (del (upd (upd (upd H a u1) dx u2) a u3) a) dx o = upd H dx o := by
  funext b
  by_cases hb : b = dx
  · rw [hb, upd_same, upd_same]
  · rw [upd_ne hb, upd_ne hb]
    by_cases ha : b = a
    · rw [ha, del_same, h1]
    · rw [del_ne ha, upd_ne ha, upd_ne hb, upd_ne ha]
section
variable {X : Cx} {CX : CXT} {k : Nat} {C fI : Addr} {fd : FuncData} {f n x : Str} {p pos : Pos} {e : Expr} {te : TE}
theorem pmk_X (T : XC X.K C) (N : XI X.K C fI f) (G : FnOk X.prog X.w X.K X.mg X.base CX k fI fd ["self", n] (spX X.K C f)) (hr : Room (k + 1) X.A) (hb : Binds X.K fd ["self", n] []) (hx : Passes CX X (fun _ _ _ => False)) (hg : Gl X x) (hm : X.mg x = some (.ref C)) (ha : PE X e te)
    (hdb : (x == ("__debug__" : Str)) = false := by decide) (he : starEach [e] X.env = (false, eval e X.env) :: starEach [] X.env := by rfl) : PMk X (.Call (.Name x p) [e] [] pos) (tMkR C f (tCons te tNil)) := by
  intro pins s0 σ H0 Q I0 h
  refine wpAny_Call_Name_kw (ld_glob I0 hg hm ?_ hdb)
  refine PySem.W.callWith_K (h₀ := X.base) I0.ok.mod.kin T.kp (thn ((pa_cons (hs := he) ha pa_nil).run pos pins s0 σ H0 _ I0 h) fun us s1 ⟨vs, H, I, r1, y, ev, q⟩ => ⟨I.kIn, ?_⟩) he (by rfl)
  subst ev
  cases r1 with
  | @cons _ v _ _ r r2 =>
  cases r2
  show wpAny _ _ (call (.ref C) [v]) _ _ _
  obtain ⟨hp, g, dr, tk, os⟩ := s1
  obtain ⟨nm, N', qn, bs, bm, hdct, sn, sub, ab, col, dd, k0, k1, k2, k3, k5, hC, hT⟩ := PySem.W.excInit_of I.kIn T.ini
  have hsz : hp.objs.size ≤ hp.objs.size + 1 := Nat.le_succ _
  have hn : H (hp.objs.size + 1) = none := I.hok.fresh hsz
  have kk : ∀ b o, hp.get? b = some o → ((hp.push (PySem.W.kdv_tup [v])).push (PySem.HandSPX.excO C hp.objs.size)).get? b = some o := fun b o e => Heap.get?_push_of_some _ (Heap.get?_push_of_some _ e)
  have hget : ((hp.push (PySem.W.kdv_tup [v])).push (PySem.HandSPX.excO C hp.objs.size)).get? (hp.objs.size + 1) = some (PySem.HandSPX.excO C hp.objs.size) := by heap_get
  have I2 : Inv X pins σ (upd H (hp.objs.size + 1) (exo (hp.objs.size + 1) C none)) ⟨(hp.push (PySem.W.kdv_tup [v])).push (PySem.HandSPX.excO C hp.objs.size), g, dr, tk, os⟩ :=
    I.laid (t' := tk) (a := hp.objs.size + 1) (o := exo (hp.objs.size + 1) C none) (h' := (hp.push (PySem.W.kdv_tup [v])).push (PySem.HandSPX.excO C hp.objs.size)) kk hsz (exo_ok hget)
  have hq : spX X.K C f [.ref (hp.objs.size + 1), y] (upd H (hp.objs.size + 1) (exo (hp.objs.size + 1) C none)) (fun z H2 => z = .non ∧ ∃ (d : Addr) (fs : List (Str × V)), H2 (hp.objs.size + 1) = some (exo (hp.objs.size + 1) C (some d)) ∧ H2 d = some (exd d fs) ∧ H d = none ∧ Q (.ref C) (some d) (upd (del H2 (hp.objs.size + 1)) d (.xd fs))) (fun _ _ _ => False) :=
    ⟨hp.objs.size + 1, y, rfl, upd_same, fun dx h1 h2 => ⟨rfl, dx, [(f, y)], upd_same, by rw [upd_ne h2, upd_same], by rw [upd_ne h2] at h1; exact h1, by
      rw [del_made hn h2]
      exact q dx (by rw [upd_ne h2] at h1; exact h1)⟩⟩
  refine wpAny_call (callK F.excBase_ArithmeticError hT hC (PySem.W.looks_findIn I.kIn N.ini) (fun self => PySem.W.bind_fn I.kIn self N.fn) (by rw [sizeLine_eq]; show 1 ≤ _; decide)
    (codeAny_mono (G.run _ X.stack _ _ ⟨Value.ref (hp.objs.size + 1) :: [v], []⟩ [Value.ref (hp.objs.size + 1), v] [V.ref (hp.objs.size + 1), y] _ (fun _ _ _ => False) (hr.make C [v] []) (I2.env0.make C [v] []) (hb _ [Value.ref (hp.objs.size + 1), v] I2.kIn rfl) (.cons (show RelV (V.ref (hp.objs.size + 1)) (Value.ref (hp.objs.size + 1)) from rfl) (.cons r .nil)) hq) fun r s' hq' => ?_))
  cases r with
  | error er => exact hx pins σ _ _ er s' I2 hq'
  | ok fl =>
    cases fl with
    | ret u =>
      obtain ⟨v3, H2, os2, bare2, un2, hok2, rv, ev, d, fs, ea, ed, hd1, q2⟩ := hq'
      subst ev
      obtain ⟨h2, g2, d2, t2, os'⟩ := s'
      exact ⟨rv, mk_end (raises_own T.ex T.ty) I hsz kk un2 hok2 os2 bare2 ea ed hd1 q2⟩
    | next => exact False.elim hq'
    | brk => exact False.elim hq'
    | cont => exact False.elim hq'
end
end FcX

set_option maxRecDepth 100000
set_option maxHeartbeats 4000000
namespace FcX
open PySem PySem.Spec PyProof.Rows L2 FcR
/-! ### which clause takes which class -/
def xhB (K : PySem.W.Frag) (ns : List Str) : Bool := ns.all fun c => ns.all fun d => decide (PySem.W.exmOne K (.ref (He.ga K c)) (.ref (He.ga K d)) = some (c == d || d == "CopyError"))
theorem xh_own {K : PySem.W.Frag} {ns : List Str} (h : xhB K ns = true) {c d : Str} (hc : c ∈ ns) (hd : d ∈ ns) : PySem.W.exmOne K (.ref (He.ga K c)) (.ref (He.ga K d)) = some (c == d || d == "CopyError") := by
  have z := List.all_eq_true.mp h c hc
  simp only [List.all_eq_true, decide_eq_true_eq] at z
  exact z d hd
theorem XC.xf {K : PySem.W.Frag} {C : Addr} (T : XC K C) : XfC K C := ⟨T.ga, T.gt, T.ex, T.hd⟩
/-! ### several clauses, with or without a name -/
abbrev Cl := Value × Option Nat × (Addr → Value → Option Addr → TS)
def wMix (K : PySem.W.Frag) (Wout : WX) (D : Ends) : List Cl → WX
  | [] => Wout
  | (c, none, ts) :: r => fun cls d σ H => ∃ b, PySem.W.exmOne K cls c = some b ∧ (b = true → ∀ a, H a = none → ts a cls d D σ H) ∧ (b = false → wMix K Wout D r cls d σ H)
  | (c, some i, ts) :: r => fun cls d σ H => ∃ b, PySem.W.exmOne K cls c = some b ∧ (b = true → ∀ a, H a = none → ts a cls d { nx := fun σ' H' => D.nx (σ'.set i none) H', rt := D.rt, bk := fun σ' H' => D.bk (σ'.set i none) H', ct := fun σ' H' => D.ct (σ'.set i none) H' } (σ.set i (some (.ref a))) H) ∧ (b = false → wMix K Wout D r cls d σ H)
inductive HdsM (X : Cx) : List ExceptHandler → List Cl → Prop
  | nil : HdsM X [] []
  | cons {x : Str} {c : Value} {ts : Addr → Value → Option Addr → TS} {b₀ : Stmt} {suite : List Stmt} {np pos' : Pos} {hds : List ExceptHandler} {l : List Cl} (hc : Names X x c)
      (hsu : ∀ (a : Addr) (oe : Obj) (cls : Value) (d : Option Addr) (pn : List (Addr × Obj)), Zc cls d oe → (∃ vs, oe.data = .fields vs) → PSs (X.suite a ((a, oe) :: pn)) (b₀ :: suite) (ts a cls d)) (r : HdsM X hds l) :
      HdsM X (.ExceptHandler (some (.Name x np)) none (b₀ :: suite) pos' :: hds) ((c, none, ts) :: l)
  | as {x n : Str} {i : Nat} {c : Value} {ts : Addr → Value → Option Addr → TS} {b₀ : Stmt} {suite : List Stmt} {np pos' : Pos} {hds : List ExceptHandler} {l : List Cl} (hi : X.N[i]? = some n) (hln : X.env.kindOf n = some .local) (hc : Names X x c)
      (hsu : ∀ (a : Addr) (oe : Obj) (cls : Value) (d : Option Addr) (pn : List (Addr × Obj)), Zc cls d oe → (∃ vs, oe.data = .fields vs) → PSs (X.suite a ((a, oe) :: pn)) (b₀ :: suite) (ts a cls d)) (r : HdsM X hds l) :
      HdsM X (.ExceptHandler (some (.Name x np)) (some n) (b₀ :: suite) pos' :: hds) ((c, some i, ts) :: l)
section
variable {X : Cx} {body : List Stmt} {h₀ : ExceptHandler} {hds : List ExceptHandler} {l : List Cl} {pos : Pos} {tb : WX → TS} {Wout : WX}
theorem ps_try_mix (hs : X.stack = X.env :: X.outer) (hf : X.env.frame = some X.env.locals) (hN : X.N.Nodup) (tk : Takes X Wout)
    (hb : ∀ (W : WX) (pn : List (Addr × Obj)) (xe : Value → Shared → Prop), Takes (X.tr pn xe) W → PassesOwn (model X.prog X.w) X.A X.env xe → PSs (X.tr pn xe) body (tb W))
    (hh : HdsM X (h₀ :: hds) l) : PS X (.Try body (h₀ :: hds) [] [] pos) (fun D σ H => tb (wMix X.K Wout D l) D σ H) := by
  refine ⟨fun pins s σ H D I h => ?_⟩
  have ok := I.ok
  have hfr : X.A.frames = some (X.env :: X.outer) := by rw [ok.frames, hs]
  refine wpAny_Try_except ?_
  refine wpAny_mono ((hb (wMix X.K Wout D l) (X.pn ++ pins) (fun e s₁ => wpAny (model X.prog X.w) X.A (noteFrame e X.env) (fun _ s₂ => wpAny (model X.prog X.w) X.A (setFlight e none) (fun _ s₃ =>
    wpAny (model X.prog X.w) X.A (handleBy e X.env (h₀ :: hds)) (SP X pins D) X.xe s₃) X.xe s₂) X.xe s₁) (fun u s' xx => ?_) PassesOwn.looking).run [] s σ H D (I.toTry _) h) (fun f s1 hsp => ?_) (fun e s1 he => he)
  · obtain ⟨a, B, sI, pins', σ', H', cls, d, rfl, J', nb, up, sky, na, os, ag, w⟩ := xx
    have J : Inv X pins σ' H' sI := J'.ofTry ok
    have sky' : Sky B (X.env :: X.outer) a (Zc cls d) X.env.locals s'.heap := by rw [← hs]; exact sky
    show wpAny (model X.prog X.w) X.A (noteFrame (.ref a) X.env) _ _ _
    refine Sky.land Zc.steady hfr hf sky' fun h3 fl3 up3 => ?_
    have J3 : Inv X pins σ' H' { s' with heap := h3 } := J.landed nb fl3.1 (up.trans up3) os ag
    obtain ⟨oe3, vs3, he3, hz3, hd3⟩ := fl3.there
    have notFr : ∀ {h : Heap} {o : Obj} {vs : Array Value}, h.FunFrames B (X.env :: X.outer) → h.get? a = some o → o.data = .fields vs → a ∉ frs (X.env :: X.outer) := fun {h o vs} ff e dd hm => by
      obtain ⟨_, o', e', hnf⟩ := ff.mem hm
      rw [e] at e'; cases e'
      exact hnf _ dd
    have nfr := notFr fl3.2.2.1 he3 hd3
    have nL : a ≠ X.env.locals := fun z => nfr (List.mem_filterMap.mpr ⟨X.env, List.mem_cons_self, by rw [hf, z]⟩)
    have nF : a ∉ X.fs := fun hm => by
      obtain ⟨e, he, q⟩ := List.mem_filterMap.mp hm
      exact nfr (List.mem_filterMap.mpr ⟨e, List.mem_cons_of_mem _ he, q⟩)
    have S3 := J3.suite he3 hd3 na nL nF
    have LT : PySem.W.Looks (model X.prog X.w) h3 (typeOf (.ref a)) cls := fun A Q E s k q => wpAny_typeOf_ref (k _ _ he3) (by rw [hz3.1]; exact q)
    have test : ∀ {x : Str} {c : Value} {np : Pos} {Q : Value → Shared → Prop} {E : Value → Shared → Prop}, Names X x c → Q c { s' with heap := h3 } → wpAny (model X.prog X.w) (X.A.mark (some (.ref a))) (eval (.Name x np) X.env) Q E { s' with heap := h3 } := fun {x c np Q E} hc q => by
      obtain ⟨hg, hdbg, hm | ⟨hm, hv, hnn⟩⟩ := hc
      · exact ld_glob (X := X.suite a ((a, oe3) :: (X.pn ++ pins))) S3 hg hm q hdbg
      · exact ld_blt (X := X.suite a ((a, oe3) :: (X.pn ++ pins))) S3 hg hm hv q hnn hdbg
    have go : ∀ {hds' : List ExceptHandler} {l' : List Cl}, HdsM X hds' l' → wMix X.K Wout D l' cls d σ' H' →
        wpAny (model X.prog X.w) X.A (handleBy (.ref a) X.env hds') (SP X pins D) X.xe { s' with heap := h3 } := by
      intro hds' l' hk
      induction hk with
      | nil =>
        intro w
        refine wpAny_handleBy_nil ?_
        obtain ⟨k1, k2, k3, oe, vs, T, oT, ts', he, hz, hd, h1, hr⟩ := id fl3
        unfold PySem.passOn
        refine wpAny_bind (wpAny_field he hd h1 ?_)
        rw [if_neg (show ¬ ((Value.ref T == Value.none) = true) from by simp)]
        have fin : wpAny (model X.prog X.w) X.A (setFlight (.ref a) X.env.frame) (fun _ s4 => wpAny (model X.prog X.w) X.A (throw (.ref a) : Sem Flow) (SP X pins D) X.xe s4) X.xe { s' with heap := h3 } := by
          rw [hf]
          refine HandSPX.setFlight_upZ fl3 fun h4 hh4 up4 => wpAny_throw (tk _ _ ?_)
          exact ⟨a, B, sI, pins, σ', H', cls, d, rfl, J, nb, (up.trans up3).trans up4, .inr (.inr (by rw [hs]; exact hh4)), na, os, ag, w⟩
        first
          | exact wpAny_bind (wpAny_pure (wpAny_bind fin))
          | exact wpAny_bind fin
      | @cons x c ts b₀ suite np pos' hds2 l2 hc hsu r ih =>
        intro w
        obtain ⟨b, hb1, hyes, hno⟩ := w
        refine wpAny_handleBy_cons (codeAny_handlers_test ?_) (by intro q; cases q)
        have LM := PySem.W.exm_one (M := model X.prog X.w) (J3.kIn) LT hb1
        refine test hc (LM.here ?_)
        cases b with
        | true =>
          refine codeAny_handlers_suite ?_
          refine HandSPX.lands_againZ fl3 fun h4 fl4 up4 => ?_
          have J4 : Inv X pins σ' H' { s' with heap := h4 } := J.landed nb fl4.1 ((up.trans up3).trans up4) os ag
          obtain ⟨oe4, vs4, he4, hz4, hd4⟩ := fl4.there
          have S4 := J4.suite he4 hd4 na nL nF
          refine wpAny_mono ((hsu a oe4 cls d (X.pn ++ pins) hz4 ⟨_, hd4⟩).run [] _ _ H' _ S4 (hyes rfl a na)) (fun f s6 hsp => ?_) (fun _ _ z => False.elim z)
          cases f with
          | next =>
            obtain ⟨σ6, H6, S6, q6⟩ := hsp
            exact ⟨_, _, S6.unsuite ok, q6⟩
          | brk =>
            obtain ⟨σ6, H6, S6, q6⟩ := hsp
            exact ⟨_, _, S6.unsuite ok, q6⟩
          | cont =>
            obtain ⟨σ6, H6, S6, q6⟩ := hsp
            exact ⟨_, _, S6.unsuite ok, q6⟩
          | ret u =>
            obtain ⟨v6, σ6, H6, S6, r6, q6⟩ := hsp
            exact ⟨_, _, _, S6.unsuite ok, r6, q6⟩
        | false =>
          show wpAny _ X.A (handleBy (.ref a) X.env hds2) _ _ _
          exact ih (hno rfl)
      | @as x n i c ts b₀ suite np pos' hds2 l2 hi hln hc hsu r ih =>
        intro w
        obtain ⟨b, hb1, hyes, hno⟩ := w
        have hloc : Loc X.env.scope n := .inl hln
        refine wpAny_handleBy_cons (codeAny_handlers_test ?_) (by intro q; cases q)
        have LM := PySem.W.exm_one (M := model X.prog X.w) (J3.kIn) LT hb1
        refine test hc (LM.here ?_)
        cases b with
        | true =>
          refine codeAny_handlers_suite_as ?_
          refine HandSPX.lands_againZ fl3 fun h4 fl4 up4 => ?_
          have J4 : Inv X pins σ' H' { s' with heap := h4 } := J.landed nb fl4.1 ((up.trans up3).trans up4) os ag
          obtain ⟨oe4, vs4, he4, hz4, hd4⟩ := fl4.there
          have S4 := J4.suite he4 hd4 na nL nF
          refine store_ok (X := X.suite a ((a, oe4) :: (X.pn ++ pins))) (v := .ref a) S4 hN hi hloc rfl (fun s5 S5 => ?_) (.inr hln)
          refine wpAny_mono ((hsu a oe4 cls d (X.pn ++ pins) hz4 ⟨_, hd4⟩).run [] s5 _ H' _ S5 (hyes rfl a na)) (fun f s6 hsp => ?_) (fun _ _ z => False.elim z)
          have end_ : ∀ {σ6 : L2.St} {H6 : Hp} {Q : Shared → Prop}, Inv (X.suite a ((a, oe4) :: (X.pn ++ pins))) [] σ6 H6 s6 → (∀ s7, Inv X pins (σ6.set i none) H6 s7 → Q s7) →
              wpAny (model X.prog X.w) X.A (do bindName X.env n .none; unbindBehindTheSuite X.env n pos') (fun _ s7 => Q s7) X.xe s6 := fun {σ6 H6 Q} S6 hq => gone_ok (S6.unsuite ok) hN hi hln hq
          cases f with
          | next =>
            obtain ⟨σ6, H6, S6, q6⟩ := hsp
            exact end_ S6 fun s7 J7 => ⟨_, _, J7, q6⟩
          | brk =>
            obtain ⟨σ6, H6, S6, q6⟩ := hsp
            exact end_ S6 fun s7 J7 => ⟨_, _, J7, q6⟩
          | cont =>
            obtain ⟨σ6, H6, S6, q6⟩ := hsp
            exact end_ S6 fun s7 J7 => ⟨_, _, J7, q6⟩
          | ret u =>
            obtain ⟨v6, σ6, H6, S6, r6, q6⟩ := hsp
            exact end_ S6 fun s7 J7 => ⟨_, _, _, J7, r6, q6⟩
        | false =>
          show wpAny _ X.A (handleBy (.ref a) X.env hds2) _ _ _
          exact ih (hno rfl)
    exact go hh w
  · cases f with
    | next =>
      obtain ⟨σ', H', J', q⟩ := hsp
      exact wpAny_execs_nil ⟨σ', H', J'.ofTry ok, q⟩
    | brk =>
      obtain ⟨σ', H', J', q⟩ := hsp
      exact ⟨σ', H', J'.ofTry ok, q⟩
    | cont =>
      obtain ⟨σ', H', J', q⟩ := hsp
      exact ⟨σ', H', J'.ofTry ok, q⟩
    | ret u =>
      obtain ⟨v, σ', H', J', r, q⟩ := hsp
      exact ⟨v, σ', H', J'.ofTry ok, r, q⟩
end
/-! ### calls that may raise, in a try -/
/-- of several defs that the slot may hold -/
structure HeldX (P : Program) (w : World) (K : PySem.W.Frag) (mg : Str → Option Value) (base : Heap) (k : Nat) (f : Addr) (sp : Sp) : Prop where
  ex : ∃ (fd : FuncData) (ps : List Str), FnOk P w K mg base (L2.CX P w) k f fd ps sp ∧ PySem.W.keepIn K (.ref f) = true ∧ Binds K fd ps []
def tCallAX (i : Nat) (S : Addr → Sp → Prop) (W : WX) (t : TA) : TE := fun σ H Q => ∃ f sp, σ[i]? = some (some (.ref f)) ∧ S f sp ∧ t σ H fun vs H1 => sp vs H1 Q (WE W σ)
section
variable {X : Cx} {k i : Nat} {x : Str} {p pos : Pos} {e : Expr} {es : List Expr} {t : TA} {W : WX}
theorem pe_callAX {S : Addr → Sp → Prop} (A : ∀ f sp, S f sp → HeldX X.prog X.w X.K X.mg X.base k f sp) (hr : Room k X.A) (hN : X.N[i]? = some x) (hv : Vis X.env.scope x) (tk : Takes X W) (ha : PA X (e :: es) t)
    (hdb : (x == ("__debug__" : Str)) = false := by decide) (hcd : (x == ("__classdict__" : Str)) = false := by decide)
    (he : starEach (e :: es) X.env = (false, eval e X.env) :: starEach es X.env := by rfl) (hpl : (backTo pos (starEach es X.env)).any (·.1) = false := by rfl) : PE X (.Call (.Name x p) (e :: es) [] pos) (tCallAX i S W t) := by
  refine ⟨fun pins s σ H Q I h => ?_⟩
  obtain ⟨f, sp, hs, hS, ht⟩ := h
  obtain ⟨fd, ps, F, hk, hb⟩ := (A f sp hS).ex
  refine wpAny_Call_Name_kw (thn ((pe_var (pos := p) hN hv hdb hcd).run pins s σ H (fun v H1 => v = .ref f ∧ H1 = H) I ⟨.ref f, hs, rfl, rfl⟩) fun u s1 ⟨v, H1, I1, r1, q1⟩ => ?_)
  obtain ⟨rfl, rfl⟩ := q1
  cases r1
  refine PySem.W.callWith_K (h₀ := X.base) I.ok.mod.kin hk (thn (ha.run pos pins s1 σ _ _ I1 ht) fun us s2 ⟨vs, H2, I2, r, q⟩ => ⟨I2.kIn, ?_⟩) he hpl
  exact run_fnS F hr hb (passAt tk σ) I2 r q
end
end FcX

set_option maxRecDepth 100000
set_option maxHeartbeats 4000000
namespace FcX
open PySem PySem.Spec PyProof.Rows L2 FcR
/-! ### making an object, and calling a method, where it may raise: one of several promises -/
section
variable {X : Cx} {k : Nat} {f C : Addr} {S : Sp → Prop} {W : WX} {x m : Str} {p pos apos : Pos} {e o : Expr} {es : List Expr} {ta : TE} {t : TA}
def tMakeS (C : Addr) (S : Sp → Prop) (W : WX) (t : TA) : TE := fun σ H Q => t σ H fun vs H1 => ∃ sp, S sp ∧ ∀ x dx, H1 x = none → H1 dx = none → dx ≠ x →
  sp (.ref x :: vs) (upd (upd H1 dx (.own x)) x (.ins C dx [])) (fun v H2 => v = .non ∧ Q (.ref x) H2) (WE W σ)
theorem run_makeS {pins : List (Addr × Obj)} {σ : L2.St} {H : Hp} {s : Shared} {Q : VK} {us : List Value} {vs : List V} {sp : Sp} (M : Mk X.K C f) (h0 : HeldX X.prog X.w X.K X.mg X.base k f sp) (hr : Room (k + 1) X.A)
    (tk : Takes X W) (I : Inv X pins σ H s) (r : Vals vs us)
    (h : ∀ x dx, H x = none → H dx = none → dx ≠ x → sp (.ref x :: vs) (upd (upd H dx (.own x)) x (.ins C dx [])) (fun v H2 => v = .non ∧ Q (.ref x) H2) (WE W σ)) :
    wpAny (model X.prog X.w) X.A (call (.ref C) us) (EP X pins σ Q) X.xe s := by
  obtain ⟨fd, ps, F, _, hb⟩ := h0.ex
  have hq := h (s.heap.objs.size + 1) s.heap.objs.size (I.hok.fresh (Nat.le_succ _)) (I.hok.fresh (Nat.le_refl _)) (Nat.ne_of_lt (Nat.lt_succ_self _))
  have I2 := Inv.made (C := C) I
  have r2 : Vals (V.ref (s.heap.objs.size + 1) :: vs) (Value.ref (s.heap.objs.size + 1) :: us) := .cons rfl r
  have hl : (Value.ref (s.heap.objs.size + 1) :: us).length = ps.length := by
    have e := r2.length
    rw [F.len _ _ _ _ hq] at e
    exact e.symm
  have hb' := hb { s with heap := (s.heap.push _).push _ } (Value.ref (s.heap.objs.size + 1) :: us) I2.kIn (by rw [List.append_nil]; exact hl)
  rw [List.append_nil] at hb'
  refine wpAny_call (make_map (f := f) I.kIn M.makes M.init (beq_iff_eq.mp M.fn) (codeAny_mono (F.run _ X.stack _ _ ⟨Value.ref (s.heap.objs.size + 1) :: us, []⟩ (Value.ref (s.heap.objs.size + 1) :: us) _ _ (WE W σ) (hr.make C us [])
    (I2.env0.make C us []) hb' r2 hq) fun r s' hq' => ?_))
  cases r with
  | error e => exact passAt tk σ pins _ _ e s' I2 hq'
  | ok fl =>
    cases fl with
    | ret u =>
      obtain ⟨v, H', I3, rv, ev, q3⟩ := I2.after hq'
      subst ev
      exact ⟨rv, ⟨V.ref (s.heap.objs.size + 1), H', I3, rfl, q3⟩⟩
    | next => exact False.elim hq'
    | brk => exact False.elim hq'
    | cont => exact False.elim hq'
theorem pe_makeS (A : ∀ sp, S sp → HeldX X.prog X.w X.K X.mg X.base k f sp) (M : Mk X.K C f) (hr : Room (k + 1) X.A) (hg : Gl X x) (hm : X.mg x = some (.ref C)) (tk : Takes X W)
    (ha : PA X (e :: es) t) (hdb : (x == ("__debug__" : Str)) = false := by decide) (he : starEach (e :: es) X.env = (false, eval e X.env) :: starEach es X.env := by rfl) (hpl : (backTo pos (starEach es X.env)).any (·.1) = false := by rfl) :
    PE X (.Call (.Name x p) (e :: es) [] pos) (tMakeS C S W t) := by
  refine ⟨fun pins s σ H Q I h => ?_⟩
  refine wpAny_Call_Name_kw (ld_glob I hg hm ?_ hdb)
  refine PySem.W.callWith_K (h₀ := X.base) I.ok.mod.kin M.kp (thn (ha.run pos pins s σ H _ I h) fun us s1 ⟨vs, H1, I1, r, q⟩ => ⟨I1.kIn, ?_⟩) he hpl
  obtain ⟨sp, hS, q⟩ := q
  exact run_makeS M (A sp hS) hr tk I1 r q
def tMethS (C : Addr) (m : Str) (S : Sp → Prop) (W : WX) (ta : TE) (t : TA) : TE := fun σ H Q => ta σ H fun x H1 => ∃ a dx fs, x = .ref a ∧ H1 a = some (.ins C dx fs) ∧ fs.lookup m = none ∧
  t σ H1 fun vs H2 => ∃ sp, S sp ∧ sp (x :: vs) H2 Q (WE W σ)
theorem pe_methS {pl : Sem Bool} (A : ∀ sp, S sp → HeldX X.prog X.w X.K X.mg X.base k f sp) (he : PE X o ta) (c : Cls X.K C) (hm : Meth X.K C m f) (hr : Room k X.A) (tk : Takes X W) (ha : PA X (e :: es) t)
    (hst : starEach (e :: es) X.env = (false, eval e X.env) :: starEach es X.env := by rfl) (hpl : (backTo pos (starEach es X.env)).any (·.1) = false := by rfl)
    (ht : eval (.Call (.Attribute o m apos) (e :: es) [] pos) X.env = (do
      let ov ← eval o X.env
      standAt apos.atName
      let (f, first) ← holding [ov] (getMethod ov m pl)
      callWith pos f first (backTo pos (starEach (e :: es) X.env)) (backToKw pos (keywordEach [] X.env))) := by rfl) :
    PE X (.Call (.Attribute o m apos) (e :: es) [] pos) (tMethS C m S W ta t) := by
  refine ⟨fun pins s σ H Q I h => ?_⟩
  refine PySem.W.methodCall_KW (pl := pl) (thn (he.run pins s σ H _ I h) fun u s1 ⟨x, H1, I1, rx, a, dx, fs, ex, ea, l, q⟩ => ?_) ht
  subst ex
  obtain rfl : u = Value.ref a := rx
  refine getmeth_ok I1 ea c hm l ?_
  refine PySem.W.callWith_K (first := [.ref a]) (h₀ := X.base) I.ok.mod.kin hm.kp (thn (ha.run pos pins s1 σ H1 _ I1 q) fun us s2 ⟨vs, H2, I2, r, q2⟩ => ⟨I2.kIn, ?_⟩) hst hpl
  obtain ⟨sp, hS, q2⟩ := q2
  obtain ⟨fd, ps, F, _, hb⟩ := (A sp hS).ex
  exact run_fnS (us := .ref a :: us) (vs := .ref a :: vs) F hr hb (passAt tk σ) I2 (.cons rfl r) q2
end
end FcX

set_option maxRecDepth 100000
set_option maxHeartbeats 4000000
namespace FcL
open PySem PySem.Spec PyProof.Rows L2 FcR FcX LamX NdefX
/-! ### promises that hold where no repr is under way -/
structure FnG (P : Program) (w : World) (K : PySem.W.Frag) (mg : Str → Option Value) (base : Heap) (k : Nat) (f : Addr) (fd : FuncData) (ps : List Str) (sp : Sp) : Prop where
  len : ∀ vs H Q E, sp vs H Q E → vs.length = ps.length
  run : ∀ (A : Around) (outer : List Env) (s : Shared) (H : Hp) (args : Args) (us : List Value) (vs : List V) (Q : VK) (E : XK), A.guards = some [] → Room k A → Env0 P w K mg base A outer s H → BindsTo s fd args (ps.zip us) → Vals vs us → sp vs H Q E →
    codeAny (model P w) A (.call (.ref f) args) (CR (L2.CX P w) outer P w H s Q E) s
theorem FnG.of {P : Program} {w : World} {K : PySem.W.Frag} {mg : Str → Option Value} {base : Heap} {k : Nat} {f : Addr} {fd : FuncData} {ps : List Str} {sp : Sp} (F : FnOk P w K mg base (L2.CX P w) k f fd ps sp) : FnG P w K mg base k f fd ps sp :=
  ⟨F.len, fun A outer s H args us vs Q E _ hr e0 b r h => F.run A outer s H args us vs Q E hr e0 b r h⟩
theorem FnG.mono {P : Program} {w : World} {K : PySem.W.Frag} {mg : Str → Option Value} {base : Heap} {j k : Nat} {f : Addr} {fd : FuncData} {ps : List Str} {sp : Sp} (F : FnG P w K mg base j f fd ps sp) (h : j ≤ k) : FnG P w K mg base k f fd ps sp :=
  ⟨F.len, fun A outer s H args us vs Q E hg hr => F.run A outer s H args us vs Q E hg (hr.mono h)⟩
def OkG (P : Program) (w : World) (K : PySem.W.Frag) (mg : Str → Option Value) (base : Heap) (k : Nat) (at_ : Str × Option Str) (ps : List Str) (sp : Sp) : Prop :=
  ∃ fd, FnG P w K mg base k (He.fAd K at_) fd ps sp ∧ Binds K fd ps [] ∧ PySem.W.keepIn K (.ref (He.fAd K at_)) = true
section
variable {P : Program} {w : World} {K : PySem.W.Frag} {mg : Str → Option Value} {base : Heap} {x qual : Str} {params : Arguments} {body : List Stmt} {scope : Scope} {dvs : List V} {kws : List (Str × V)} {fd : FuncData} {at_ : Str × Option Str}
/-- such a def: its body knows the guards, and its code object -/
theorem okG {N ps : List Str} {k : Nat} {sp : Sp} (F : FunD K x qual params body scope dvs kws (He.fAd K at_) fd) (S : FnScope N ps scope) (len : ∀ vs H Q E, sp vs H Q E → vs.length = ps.length)
    (hbody : ∀ (cdv : Value) (A : Around) (outer : List Env) (s : Shared) (H : Hp) (vs : List V) (Q : VK) (E : XK), A.guards = some [] → cdv = .ref (He.codeOf K at_) → Room k (A.deeper (envOfC qual scope s.heap.objs.size (He.fAd K at_) cdv)) → sp vs H Q E →
      ∃ t, PSs (cxOf (L2.CX P w) P w K mg base N qual scope (He.fAd K at_) cdv A outer s H E) body t ∧ t { nx := fun _ H' => Q .non H', rt := Q } (start N vs) H) : FnG P w K mg base (k + 1) (He.fAd K at_) fd ps sp := by
  obtain ⟨oc, od, dV, kV, doc, pm, an, cdv, ct, osl, rfl, lk, hcd, _, _⟩ := F.ex
  obtain ⟨c, rfl⟩ := He.codeIn_ref hcd
  refine ⟨len, fun A outer s H args us vs Q E hg hr e0 hb r hsp => run_ofS lk hcd S hr e0 hb r (len _ _ _ _ hsp) fun hr' => ?_⟩
  exact hbody (.ref c) A outer s H vs Q E hg (by rw [He.codeOf_eq lk rfl]) hr' hsp
end
section
variable {X : Cx} {k : Nat} {f : Addr} {fd : FuncData} {ps : List Str} {sp : Sp} {x : Str} {p pos : Pos} {e : Expr} {es : List Expr} {t : TA}
theorem run_fnG {pins : List (Addr × Obj)} {σ : L2.St} {H : Hp} {s : Shared} {Q : VK} {us : List Value} {vs : List V} {base' : Heap} (F : FnG X.prog X.w X.K X.mg base' k f fd ps sp) (hg : X.A.guards = some []) (hr : Room k X.A) (hb : Binds X.K fd ps [])
    (e0 : Env0 X.prog X.w X.K X.mg base' X.A X.stack s H) (I : Inv X pins σ H s) (r : Vals vs us) (h : sp vs H Q (fun _ _ _ => False)) : wpAny (model X.prog X.w) X.A (call (.ref f) us) (EP X pins σ Q) X.xe s := by
  have hl : us.length = ps.length := by rw [← r.length]; exact F.len _ _ _ _ h
  have b := hb s us I.kIn (by rw [List.append_nil]; exact hl)
  rw [List.append_nil] at b
  refine wpAny_call (codeAny_mono (F.run X.A X.stack s H ⟨us, []⟩ us vs Q _ hg hr e0 b r h) fun r s' h' => ?_)
  cases r with
  | error e =>
    obtain ⟨_, _, _, _, _, _, _, _, _, _, _, _, z⟩ := h'
    exact z.elim
  | ok fl =>
    cases fl with
    | ret u => exact I.after h'
    | next => exact False.elim h'
    | brk => exact False.elim h'
    | cont => exact False.elim h'
/-- f(..), f such a def -/
theorem pe_callGd (F : FnG X.prog X.w X.K X.mg X.base k f fd ps sp) (hgd : X.A.guards = some []) (hr : Room k X.A) (hg : Gl X x) (hm : X.mg x = some (.ref f)) (hk : PySem.W.keepIn X.K (.ref f) = true) (hb : Binds X.K fd ps [])
    (ha : PA X (e :: es) t) (hdb : (x == ("__debug__" : Str)) = false := by decide) (he : starEach (e :: es) X.env = (false, eval e X.env) :: starEach es X.env := by rfl) (hpl : (backTo pos (starEach es X.env)).any (·.1) = false := by rfl) :
    PE X (.Call (.Name x p) (e :: es) [] pos) (tCall sp [] (fun _ _ _ => False) t) := by
  refine ⟨fun pins s σ H Q I h => ?_⟩
  refine wpAny_Call_Name_kw (ld_glob I hg hm ?_ hdb)
  refine PySem.W.callWith_K (h₀ := X.base) I.ok.mod.kin hk (thn (ha.run pos pins s σ H _ I h) fun us s1 ⟨vs, H1, I1, r, q⟩ => ⟨I1.kIn, ?_⟩) he hpl
  have q : sp (vs ++ []) H1 Q (fun _ _ _ => False) := q
  rw [List.append_nil] at q
  exact run_fnG F hgd hr hb I1.env0 I1 r q
end
/-! ### the tables of the defs that make lambdas -/
def tabsN (K : PySem.W.Frag) (tf : List He.Defn) : Bool := decide (tf.map fun p => (He.cT K p).2).Nodup
def lamQ (p : He.Defn) : Str := (p.1 ++ ".<locals>.") ++ "<lambda>"
def tabT (K : PySem.W.Frag) (tf : List He.Defn) : List (Addr × Str) := tf.map fun p => ((He.cT K p).2, lamQ p)
theorem tabT_m {K : PySem.W.Frag} {tf : List He.Defn} {i : Nat} {p : He.Defn} (h : tf[i]? = some p) : ((He.cT K p).2, lamQ p) ∈ tabT K tf := List.mem_map.mpr ⟨p, List.mem_of_getElem? h, rfl⟩
theorem tabT_u {K : PySem.W.Frag} {tf : List He.Defn} (nd : tabsN K tf = true) {i : Nat} {p : He.Defn} (h : tf[i]? = some p) : ∀ q ∈ tabT K tf, q.1 = (He.cT K p).2 → q.2 = lamQ p := fun q hq e => by
  obtain ⟨p', hp', rfl⟩ := List.mem_map.mp hq
  obtain ⟨j, hj⟩ := List.mem_iff_getElem?.mp hp'
  have nd := of_decide_eq_true nd
  have e1 : (tf.map fun p => (He.cT K p).2)[i]? = some (He.cT K p).2 := by rw [List.getElem?_map, h] <;> rfl
  have e2 : (tf.map fun p => (He.cT K p).2)[j]? = some (He.cT K p).2 := by rw [List.getElem?_map, hj, ← e] <;> rfl
  have ij := (List.getElem?_inj (List.getElem?_eq_some_iff.mp e1).1 nd).mp (e1.trans e2.symm)
  rw [← ij, h] at hj
  rw [Option.some.inj hj]
/-! ### the end of a law whose defs make lambdas, or look at texts by repr -/
def TabG (K : PySem.W.Frag) (base : Heap) (mg : Str → Option Value) (tf : List He.Defn) : Prop := ∀ p ∈ tf, TabB base mg (He.cT K p).1 (He.cT K p).2
theorem law_callG {P : Program} {w : World} {K : PySem.W.Frag} {mg mb : Str → Option Value} {k : Nat} {fa a : Addr} {cs : List (Addr × Addr)} {fd : FuncData} {x : Str} {sp : Sp} {s₁ : Shared} {vs : List Value} {ns : List Int}
    (KX : K.In s₁.heap) (hns : s₁.heap.Ns mainGlobals mg) (hb : s₁.heap.Ns builtinsNs mb) (hbb : ∀ x : Str, x ≠ "__name__" → mb x = bootBuiltins x) (hlim : s₁.heap.NoLimit) (hg : s₁.gens = #[])
    (hT : ∀ p ∈ cs, s₁.heap.get? p.2 = some { cls := .none, data := .fields #[] }) (nT : ∀ p ∈ cs, K.lookup p.2 = none) (C : ∀ p ∈ cs, PySem.W.CodeHd s₁.heap p.1 p.2)
    (hbm : ∃ (bm : Addr) (ob : Obj), mg "__builtins__" = some (.ref bm) ∧ bm ≠ builtinsNs ∧ s₁.heap.get? bm = some ob ∧ ob.cls = .type "module" ∧ ob.dict = some builtinsNs ∧ ob.data = .plain)
    (ha : s₁.heap.get? a = some { cls := .type "list", data := .seq vs.toArray }) (hi : IntsAre vs ns) (hl : ns.length ≤ sizeLine) (hr : Room k callerA)
    (F : ∀ base : Heap, K.In base → (∀ p ∈ cs, TabB base mg p.1 p.2) → FnG P w K mg base k fa fd [x] sp) (hbind : ∀ (s : Shared) (u : Value), BindsTo s fd ⟨[u], []⟩ [(x, u)])
    (hsp : ∀ H : Hp, (∀ p ∈ cs, H p.2 = some (.tbl #[])) → SqL K H a (ns.map V.int) → sp [.ref a] H (fun v _ => v = .bl true) fun _ _ _ => False) :
    codeAny (model P w) callerA (.call (.ref fa) ⟨[.ref a], []⟩) (fun r s' => r = .ok (.ret (.bool true)) ∧ OldK s₁.heap s'.heap ∧ s'.os = s₁.os ∧ AllBare s'.gens) s₁ := by
  classical
  let oa : Obj := { cls := .type "list", data := .seq vs.toArray }
  let Tb : Addr → Prop := fun b => ∃ p ∈ cs, p.2 = b
  let Sc : Addr → Prop := fun b => b = a ∧ K.lookup a = none
  let H : Hp := fun b => if Tb b then some (.tbl #[]) else if Sc b then some (.frz oa (.lst (ns.map V.int))) else none
  have tT : ∀ b, Tb b → s₁.heap.get? b = some { cls := .none, data := .fields #[] } := fun b ⟨p, hp, e⟩ => e ▸ hT p hp
  have nTa : ¬ Tb a := fun z => by
    have q := tT a z
    rw [ha] at q
    have z' : Data.seq vs.toArray _ = Data.fields #[] := congrArg Obj.data (Option.some.inj q)
    cases z'
  have hTb : ∀ b, Tb b → H b = some (.tbl #[]) := fun b z => if_pos z
  have hSc : K.lookup a = none → H a = some (.frz oa (.lst (ns.map V.int))) := fun z => (if_neg nTa).trans (if_pos ⟨rfl, z⟩)
  have inv : ∀ b, H b = none ∨ (Tb b ∧ H b = some (.tbl #[])) ∨ (Sc b ∧ H b = some (.frz oa (.lst (ns.map V.int)))) := fun b => by
    by_cases h1 : Tb b
    · exact .inr (.inl ⟨h1, hTb b h1⟩)
    · by_cases h2 : Sc b
      · exact .inr (.inr ⟨h2, (if_neg h1).trans (if_pos h2)⟩)
      · exact .inl ((if_neg h1).trans (if_neg h2))
  have none_of : ∀ {b : Addr} {o : Obj}, s₁.heap.get? b = some o → (∀ vs n, o.data ≠ .seq vs n) → o.data ≠ .fields #[] → H b = none := fun {b o} e n1 n2 => by
    rcases inv b with z | ⟨z, _⟩ | ⟨z, _⟩
    · exact z
    · rw [tT b z] at e
      cases e
      exact absurd rfl n2
    · rw [z.1, ha] at e
      cases e
      exact absurd rfl (n1 _ _)
  have rv := vals_ints hi
  have lenV := hi.length
  have hok : HOk P w H s₁.heap := fun b o e => by
    rcases inv b with z | ⟨z, q⟩ | ⟨z, q⟩
    · rw [z] at e
      cases e
    · rw [q] at e
      cases e
      exact tT b z
    · rw [q] at e
      cases e
      rw [z.1]
      exact ⟨ha, by rw [List.length_map]; exact hl, vs, _, rv, ha⟩
  have hS : SqL K H a (ns.map V.int) := by
    cases q : K.lookup a with
    | none => exact .inl (.inr ⟨oa, hSc q⟩)
    | some o =>
      have e := KX a o q
      rw [ha] at e
      cases e
      exact .inr ⟨_, vs.toArray, _, q, rfl, rfl, rfl, by rw [List.size_toArray, lenV]; exact hl, by simpa using rv⟩
  have up : ∀ {b : Addr} {o : Obj}, s₁.heap.get? b = some o → H b = none → (hidT s₁.heap H).get? b = some o := fun e n => hidT_get e n
  have nsK : ∀ {b : Addr} {m : Str → Option Value}, s₁.heap.Ns b m → (hidT s₁.heap H).Ns b m := fun {b m} ⟨o, es, ep, e, d, r⟩ => ⟨o, es, ep, up e (none_of e (fun _ _ z => by rw [d] at z; cases z) fun z => by rw [d] at z; cases z), d, r⟩
  have hKb : K.In (hidT s₁.heap H) := fun b o e => up (KX b o e) (by
    rcases inv b with z | ⟨⟨p, hp, z⟩, _⟩ | ⟨z, _⟩
    · exact z
    · rw [← z, nT p hp] at e
      cases e
    · rw [z.1, z.2] at e
      cases e)
  have hM : L2.Mod K mg (hidT s₁.heap H) := ⟨hKb, nsK hns, ⟨mb, nsK hb, hbb⟩, let ⟨mc, h1, h2⟩ := hlim; ⟨mc, nsK h1, h2⟩⟩
  have TB : ∀ p ∈ cs, TabB (hidT s₁.heap H) mg p.1 p.2 := fun p hp => by
    have notP : ∀ {b : Addr} {o : Obj}, s₁.heap.get? b = some o → o.data ≠ .fields #[] → b ≠ p.2 := fun {b o} e n z => by
      rw [z, hT p hp] at e
      cases e
      exact n rfl
    obtain ⟨og, eg, pg, e1, d1, _⟩ := id hns
    obtain ⟨bm, ob, b1, b2, b3, b4, b5, b6⟩ := hbm
    refine ⟨?_, ⟨bm, ob, b1, b2, fun z => ?_, notP b3 (by rw [b6]; exact fun z => by cases z), up b3 (none_of b3 (fun _ _ z => by rw [b6] at z; cases z) fun z => by rw [b6] at z; cases z), b4, b5, b6⟩, notP e1 fun z => by rw [d1] at z; cases z⟩
    · obtain ⟨o, us, file, tf, flags, tg, inF, text, tt, e1, r1, r2, r3, r4, r5, r6, r7, r8, hne⟩ := C p hp
      refine ⟨o, us, file, tf, flags, tg, inF, text, tt, up e1 (none_of e1 (fun _ _ z => by rw [r2] at z; cases z) fun z => ?_), r1, r2, r3, r4, r5, r6, r7, r8, hne⟩
      rw [r2] at z
      cases z
      simp at r3
    · rw [z, e1] at b3
      cases b3
      rw [d1] at b6
      cases b6
  have e0 : Env0 P w K mg (hidT s₁.heap H) callerA [] s₁ H := ⟨rfl, hM, fun b o e => of_hidT e, Nat.le_of_eq (hidT_size _ _), trivial, fun b hb => absurd (show b ∈ ([] : List Addr) from hb) (by simp), hok, .of_eq hg⟩
  refine codeAny_mono ((F _ hKb TB).run callerA [] s₁ H ⟨[.ref a], []⟩ [.ref a] [.ref a] _ _ rfl hr e0 (hbind s₁ (.ref a)) (.cons rfl .nil) (hsp H (fun p hp => hTb p.2 ⟨p, hp, rfl⟩) hS)) fun r s' h => ?_
  cases r with
  | error e =>
    obtain ⟨_, _, _, _, _, _, _, _, _, _, _, _, z⟩ := h
    exact z.elim
  | ok fl =>
    cases fl with
    | next => exact False.elim h
    | brk => exact False.elim h
    | cont => exact False.elim h
    | ret u =>
      obtain ⟨v, H', os, bare, un, hok', r', rfl⟩ := h
      obtain rfl : u = Value.bool true := r'
      have stays : ∀ b o, ¬ Tb b → s₁.heap.get? b = some o → s'.heap.get? b = some o := fun b o nb e => by
        rcases inv b with z | ⟨z, _⟩ | ⟨z, q⟩
        · exact un.keep b o e z (fun z => absurd (show b ∈ ([] : List Addr) from z) (by simp)) (by simp)
        · exact absurd z nb
        · obtain ⟨e2, _⟩ := hok' b _ (un.frzs b _ _ q)
          rw [z.1, ha] at e
          cases e
          exact e2
      have grown : ∀ p ∈ cs, ∃ more : Array Value, s'.heap.get? p.2 = some { cls := .none, data := .fields more } := fun p hp => by
        obtain ⟨more, z⟩ := un.tbls p.2 #[] (hTb p.2 ⟨p, hp, rfl⟩)
        exact ⟨_, hok' p.2 _ z⟩
      refine ⟨rfl, ⟨fun b o e => ?_, fun b o e => ?_⟩, os, bare⟩
      all_goals by_cases z : Tb b
      · obtain ⟨p, hp, rfl⟩ := z
        obtain ⟨more, hm⟩ := grown p hp
        rw [hT p hp] at e
        cases e
        exact .inr (.inl ⟨((C p hp).tab (hT p hp)).isCodeTable, rfl, #[], more, rfl, by rw [Array.empty_append]; exact hm⟩)
      · exact .inl (stays b o z e)
      · obtain ⟨p, hp, rfl⟩ := z
        obtain ⟨more, hm⟩ := grown p hp
        exact ⟨_, hm⟩
      · exact ⟨o, stays b o z e⟩
theorem walk_ofG {l : PySem.W.OpenLaw} {n k : Nat} {q : Program} {loose : List Str} {XP : (Str → Option Value) → Heap → Prop} {YP : World → Heap → Prop} {d : DefRec} {x : Str} (hn : l.most = some n) (hn2 : n ≤ sizeLine) (hdf : d.params.defaults = []) (hr : Room k callerA)
    (F : ∀ (w : World) (mg : Str → Option Value) (fa : Addr) (h : Heap), YP w h → h.Ns mainGlobals mg → mg d.name = some (.ref fa) → ∃ (K : PySem.W.Frag) (cs : List (Addr × Addr)) (fd : FuncData) (sp : Sp), K.In h ∧
      (∀ p ∈ cs, h.get? p.2 = some { cls := .none, data := .fields #[] }) ∧ (∀ p ∈ cs, K.lookup p.2 = none) ∧ (∀ p ∈ cs, PySem.W.CodeHd h p.1 p.2) ∧ (∀ (s : Shared) (u : Value), BindsTo s fd ⟨[u], []⟩ [(x, u)]) ∧
      (∀ (H : Hp) (a : Addr) (ns : List Int), ns.length ≤ n → (∀ p ∈ cs, H p.2 = some (.tbl #[])) → SqL K H a (ns.map V.int) → sp [.ref a] H (fun v _ => v = .bl true) fun _ _ _ => False) ∧
      ∀ base : Heap, K.In base → (∀ p ∈ cs, TabB base mg p.1 p.2) → FnG l.prog w K mg base k fa fd [x] sp) :
    PySem.W.WalkO q loose XP YP l.row.toRowW d [] (fun f vs => PySem.call f vs) := by
  refine Att.attach_callB hn hdf fun w s₀ s₁ mg mb fa o pm cd doc a vs ns G Y ho hd hcd hmg hobj hints hlen hbits hg => ?_
  obtain ⟨K, cs, fd, sp, KX, hT, nT, C, hb, hsp, hF⟩ := F w mg fa _ Y G.T.g hmg
  exact law_callG KX G.T.g G.T.b G.T.builtins G.T.nolimit hg hT nT C G.T.bmain hobj hints (Nat.le_trans hlen hn2) hr hF hb fun H hH hS => hsp H a ns hlen hH hS
end FcL

set_option maxRecDepth 100000
set_option maxHeartbeats 0

namespace Fc
open PySem PySem.Spec PyProof.Rows L2
def topS (i : Nat) : Stmt := PySem.Challenge.pw_finallycopies_k71_wrong_texts.main.body.getD i (.Pass ⟨0, 0, 0, 0⟩)
abbrev sd_wall : Stmt := topS 0
def d_wall : He.DefD := ⟨("_wall", none), "_wall", "_wall", defArgs sd_wall, defBody sd_wall, defScope sd_wall, [], []⟩
abbrev sd_InvalidCode___init__ : Stmt := inClass (topS 3) 0
def d_InvalidCode___init__ : He.DefD := ⟨("InvalidCode", some "__init__"), "__init__", "InvalidCode.__init__", defArgs sd_InvalidCode___init__, defBody sd_InvalidCode___init__, defScope sd_InvalidCode___init__, [], []⟩
abbrev sd_InvalidNumber___init__ : Stmt := inClass (topS 4) 0
def d_InvalidNumber___init__ : He.DefD := ⟨("InvalidNumber", some "__init__"), "__init__", "InvalidNumber.__init__", defArgs sd_InvalidNumber___init__, defBody sd_InvalidNumber___init__, defScope sd_InvalidNumber___init__, [], []⟩
abbrev sd_InvalidText___init__ : Stmt := inClass (topS 5) 0
def d_InvalidText___init__ : He.DefD := ⟨("InvalidText", some "__init__"), "__init__", "InvalidText.__init__", defArgs sd_InvalidText___init__, defBody sd_InvalidText___init__, defScope sd_InvalidText___init__, [], []⟩
abbrev sd_LimitExceeded___init__ : Stmt := inClass (topS 6) 0
def d_LimitExceeded___init__ : He.DefD := ⟨("LimitExceeded", some "__init__"), "__init__", "LimitExceeded.__init__", defArgs sd_LimitExceeded___init__, defBody sd_LimitExceeded___init__, defScope sd_LimitExceeded___init__, [], []⟩
abbrev sd_is_integer : Stmt := topS 8
def d_is_integer : He.DefD := ⟨("is_integer", none), "is_integer", "is_integer", defArgs sd_is_integer, defBody sd_is_integer, defScope sd_is_integer, [], []⟩
abbrev sd_is_between : Stmt := topS 9
def d_is_between : He.DefD := ⟨("is_between", none), "is_between", "is_between", defArgs sd_is_between, defBody sd_is_between, defScope sd_is_between, [], []⟩
abbrev sd_is_name : Stmt := topS 19
def d_is_name : He.DefD := ⟨("is_name", none), "is_name", "is_name", defArgs sd_is_name, defBody sd_is_name, defScope sd_is_name, [], []⟩
abbrev sd_is_statement : Stmt := topS 20
def d_is_statement : He.DefD := ⟨("is_statement", none), "is_statement", "is_statement", defArgs sd_is_statement, defBody sd_is_statement, defScope sd_is_statement, [], []⟩
abbrev sd_parts_in : Stmt := topS 21
def d_parts_in : He.DefD := ⟨("parts_in", none), "parts_in", "parts_in", defArgs sd_parts_in, defBody sd_parts_in, defScope sd_parts_in, [], []⟩
abbrev sd_Code___init__ : Stmt := inClass (topS 22) 0
def d_Code___init__ : He.DefD := ⟨("Code", some "__init__"), "__init__", "Code.__init__", defArgs sd_Code___init__, defBody sd_Code___init__, defScope sd_Code___init__, [], []⟩
abbrev sd_Code_check : Stmt := inClass (topS 22) 1
def d_Code_check : He.DefD := ⟨("Code", some "check"), "check", "Code.check", defArgs sd_Code_check, defBody sd_Code_check, defScope sd_Code_check, [], []⟩
abbrev sd_Code_keep : Stmt := inClass (topS 22) 2
def d_Code_keep : He.DefD := ⟨("Code", some "keep"), "keep", "Code.keep", defArgs sd_Code_keep, defBody sd_Code_keep, defScope sd_Code_keep, [], []⟩
abbrev sd_Code___eq__ : Stmt := inClass (topS 22) 3
def d_Code___eq__ : He.DefD := ⟨("Code", some "__eq__"), "__eq__", "Code.__eq__", defArgs sd_Code___eq__, defBody sd_Code___eq__, defScope sd_Code___eq__, [], []⟩
abbrev sd_Code___len__ : Stmt := inClass (topS 22) 4
def d_Code___len__ : He.DefD := ⟨("Code", some "__len__"), "__len__", "Code.__len__", defArgs sd_Code___len__, defBody sd_Code___len__, defScope sd_Code___len__, [], []⟩
abbrev sd_Code___getitem__ : Stmt := inClass (topS 22) 5
def d_Code___getitem__ : He.DefD := ⟨("Code", some "__getitem__"), "__getitem__", "Code.__getitem__", defArgs sd_Code___getitem__, defBody sd_Code___getitem__, defScope sd_Code___getitem__, [], []⟩
abbrev sd_Code___iter__ : Stmt := inClass (topS 22) 6
def d_Code___iter__ : He.DefD := ⟨("Code", some "__iter__"), "__iter__", "Code.__iter__", defArgs sd_Code___iter__, defBody sd_Code___iter__, defScope sd_Code___iter__, [], []⟩
abbrev sd_Code_check_number : Stmt := inClass (topS 22) 7
def d_Code_check_number : He.DefD := ⟨("Code", some "check_number"), "check_number", "Code.check_number", defArgs sd_Code_check_number, defBody sd_Code_check_number, defScope sd_Code_check_number, [], []⟩
abbrev sd_Code_is_place : Stmt := inClass (topS 22) 8
def d_Code_is_place : He.DefD := ⟨("Code", some "is_place"), "is_place", "Code.is_place", defArgs sd_Code_is_place, defBody sd_Code_is_place, defScope sd_Code_is_place, [], []⟩
abbrev sd_Code_check_place : Stmt := inClass (topS 22) 9
def d_Code_check_place : He.DefD := ⟨("Code", some "check_place"), "check_place", "Code.check_place", defArgs sd_Code_check_place, defBody sd_Code_check_place, defScope sd_Code_check_place, [], []⟩
abbrev sd_Code_kind : Stmt := inClass (topS 22) 10
def d_Code_kind : He.DefD := ⟨("Code", some "kind"), "kind", "Code.kind", defArgs sd_Code_kind, defBody sd_Code_kind, defScope sd_Code_kind, [], []⟩
abbrev sd_Code_parent : Stmt := inClass (topS 22) 11
def d_Code_parent : He.DefD := ⟨("Code", some "parent"), "parent", "Code.parent", defArgs sd_Code_parent, defBody sd_Code_parent, defScope sd_Code_parent, [], []⟩
abbrev sd_Code_parts : Stmt := inClass (topS 22) 12
def d_Code_parts : He.DefD := ⟨("Code", some "parts"), "parts", "Code.parts", defArgs sd_Code_parts, defBody sd_Code_parts, defScope sd_Code_parts, [], []⟩
abbrev sd_Code_places : Stmt := inClass (topS 22) 13
def d_Code_places : He.DefD := ⟨("Code", some "places"), "places", "Code.places", defArgs sd_Code_places, defBody sd_Code_places, defScope sd_Code_places, [], []⟩
abbrev sd_Code_entry : Stmt := inClass (topS 22) 14
def d_Code_entry : He.DefD := ⟨("Code", some "entry"), "entry", "Code.entry", defArgs sd_Code_entry, defBody sd_Code_entry, defScope sd_Code_entry, [], []⟩
abbrev sd_Code_entry_of : Stmt := inClass (topS 22) 15
def d_Code_entry_of : He.DefD := ⟨("Code", some "entry_of"), "entry_of", "Code.entry_of", defArgs sd_Code_entry_of, defBody sd_Code_entry_of, defScope sd_Code_entry_of, [], []⟩
abbrev sd_Code_layers : Stmt := inClass (topS 22) 16
def d_Code_layers : He.DefD := ⟨("Code", some "layers"), "layers", "Code.layers", defArgs sd_Code_layers, defBody sd_Code_layers, defScope sd_Code_layers, [], []⟩
abbrev sd_Code_layers_of : Stmt := inClass (topS 22) 17
def d_Code_layers_of : He.DefD := ⟨("Code", some "layers_of"), "layers_of", "Code.layers_of", defArgs sd_Code_layers_of, defBody sd_Code_layers_of, defScope sd_Code_layers_of, [], []⟩
abbrev sd_words_of : Stmt := topS 30
def d_words_of : He.DefD := ⟨("words_of", none), "words_of", "words_of", defArgs sd_words_of, defBody sd_words_of, defScope sd_words_of, [], []⟩
abbrev sd_show : Stmt := topS 31
def d_show : He.DefD := ⟨("show", none), "show", "show", defArgs sd_show, defBody sd_show, defScope sd_show, [], []⟩
abbrev sd_name_at : Stmt := topS 32
def d_name_at : He.DefD := ⟨("name_at", none), "name_at", "name_at", defArgs sd_name_at, defBody sd_name_at, defScope sd_name_at, [], []⟩
abbrev sd_number_at : Stmt := topS 33
def d_number_at : He.DefD := ⟨("number_at", none), "number_at", "number_at", defArgs sd_number_at, defBody sd_number_at, defScope sd_number_at, [], []⟩
abbrev sd_head_at : Stmt := topS 34
def d_head_at : He.DefD := ⟨("head_at", none), "head_at", "head_at", defArgs sd_head_at, defBody sd_head_at, defScope sd_head_at, [], []⟩
abbrev sd_built : Stmt := topS 35
def d_built : He.DefD := ⟨("built", none), "built", "built", defArgs sd_built, defBody sd_built, defScope sd_built, [], []⟩
abbrev sd_Reader___init__ : Stmt := inClass (topS 36) 0
def d_Reader___init__ : He.DefD := ⟨("Reader", some "__init__"), "__init__", "Reader.__init__", defArgs sd_Reader___init__, defBody sd_Reader___init__, defScope sd_Reader___init__, [], []⟩
abbrev sd_Reader_close : Stmt := inClass (topS 36) 1
def d_Reader_close : He.DefD := ⟨("Reader", some "close"), "close", "Reader.close", defArgs sd_Reader_close, defBody sd_Reader_close, defScope sd_Reader_close, [], []⟩
abbrev sd_Reader_statement : Stmt := inClass (topS 36) 2
def d_Reader_statement : He.DefD := ⟨("Reader", some "statement"), "statement", "Reader.statement", defArgs sd_Reader_statement, defBody sd_Reader_statement, defScope sd_Reader_statement, [], []⟩
abbrev sd_read : Stmt := topS 37
def d_read : He.DefD := ⟨("read", none), "read", "read", defArgs sd_read, defBody sd_read, defScope sd_read, [], []⟩
abbrev sd_law_cell_at : Stmt := topS 39
def d_law_cell_at : He.DefD := ⟨("_law_cell_at", none), "_law_cell_at", "_law_cell_at", defArgs sd_law_cell_at, defBody sd_law_cell_at, defScope sd_law_cell_at, [], []⟩
abbrev sd_law_source : Stmt := topS 40
def d_law_source : He.DefD := ⟨("_law_source", none), "_law_source", "_law_source", defArgs sd_law_source, defBody sd_law_source, defScope sd_law_source, [], []⟩
abbrev sd_law_draw : Stmt := topS 41
def d_law_draw : He.DefD := ⟨("_law_draw", none), "_law_draw", "_law_draw", defArgs sd_law_draw, defBody sd_law_draw, defScope sd_law_draw, [], []⟩
abbrev sd_law_choice : Stmt := topS 42
def d_law_choice : He.DefD := ⟨("_law_choice", none), "_law_choice", "_law_choice", defArgs sd_law_choice, defBody sd_law_choice, defScope sd_law_choice, [], []⟩
abbrev sd_law_name : Stmt := topS 43
def d_law_name : He.DefD := ⟨("_law_name", none), "_law_name", "_law_name", defArgs sd_law_name, defBody sd_law_name, defScope sd_law_name, [], []⟩
abbrev sd_law_leaf : Stmt := topS 44
def d_law_leaf : He.DefD := ⟨("_law_leaf", none), "_law_leaf", "_law_leaf", defArgs sd_law_leaf, defBody sd_law_leaf, defScope sd_law_leaf, [], []⟩
abbrev sd_law_statement : Stmt := topS 45
def d_law_statement : He.DefD := ⟨("_law_statement", none), "_law_statement", "_law_statement", defArgs sd_law_statement, defBody sd_law_statement, defScope sd_law_statement, [], []⟩
abbrev sd_law_parts : Stmt := topS 46
def d_law_parts : He.DefD := ⟨("_law_parts", none), "_law_parts", "_law_parts", defArgs sd_law_parts, defBody sd_law_parts, defScope sd_law_parts, [], []⟩
abbrev sd_law_words : Stmt := topS 47
def d_law_words : He.DefD := ⟨("_law_words", none), "_law_words", "_law_words", defArgs sd_law_words, defBody sd_law_words, defScope sd_law_words, [], []⟩
abbrev sd_law_is_name : Stmt := topS 48
def d_law_is_name : He.DefD := ⟨("_law_is_name", none), "_law_is_name", "_law_is_name", defArgs sd_law_is_name, defBody sd_law_is_name, defScope sd_law_is_name, [], []⟩
abbrev sd_law_is_number : Stmt := topS 49
def d_law_is_number : He.DefD := ⟨("_law_is_number", none), "_law_is_number", "_law_is_number", defArgs sd_law_is_number, defBody sd_law_is_number, defScope sd_law_is_number, [], []⟩
abbrev sd_law_wrong : Stmt := topS 50
def d_law_wrong : He.DefD := ⟨("_law_wrong", none), "_law_wrong", "_law_wrong", defArgs sd_law_wrong, defBody sd_law_wrong, defScope sd_law_wrong, [], []⟩
abbrev sd_law_outcome : Stmt := topS 51
def d_law_outcome : He.DefD := ⟨("_law_outcome", none), "_law_outcome", "_law_outcome", defArgs sd_law_outcome, defBody sd_law_outcome, defScope sd_law_outcome, [], []⟩
abbrev sd_law_word : Stmt := topS 52
def d_law_word : He.DefD := ⟨("_law_word", none), "_law_word", "_law_word", defArgs sd_law_word, defBody sd_law_word, defScope sd_law_word, [], []⟩
abbrev sd_law_spoiled : Stmt := topS 53
def d_law_spoiled : He.DefD := ⟨("_law_spoiled", none), "_law_spoiled", "_law_spoiled", defArgs sd_law_spoiled, defBody sd_law_spoiled, defScope sd_law_spoiled, [], []⟩
abbrev sd_law_built : Stmt := topS 54
def d_law_built : He.DefD := ⟨("_law_built", none), "_law_built", "_law_built", defArgs sd_law_built, defBody sd_law_built, defScope sd_law_built, [], []⟩
abbrev sd_law_of_code : Stmt := topS 55
def d_law_of_code : He.DefD := ⟨("_law_of_code", none), "_law_of_code", "_law_of_code", defArgs sd_law_of_code, defBody sd_law_of_code, defScope sd_law_of_code, [], []⟩
abbrev sd_law_right : Stmt := topS 56
def d_law_right : He.DefD := ⟨("_law_right", none), "_law_right", "_law_right", defArgs sd_law_right, defBody sd_law_right, defScope sd_law_right, [], []⟩
abbrev sd_law : Stmt := topS 57
def d_law : He.DefD := ⟨("law", none), "law", "law", defArgs sd_law, defBody sd_law, defScope sd_law, [], []⟩
def fnL0 : List He.DefD := [d_wall, d_InvalidCode___init__, d_InvalidNumber___init__, d_InvalidText___init__, d_LimitExceeded___init__, d_is_integer, d_is_between, d_is_name, d_is_statement, d_parts_in, d_Code___init__, d_Code_check, d_Code_keep, d_Code___eq__, d_Code___len__, d_Code___getitem__, d_Code___iter__, d_Code_check_number, d_Code_is_place, d_Code_check_place, d_Code_kind, d_Code_parent, d_Code_parts, d_Code_places, d_Code_entry, d_Code_entry_of, d_Code_layers, d_Code_layers_of, d_words_of, d_show]
def fnL1 : List He.DefD := [d_name_at, d_number_at, d_head_at, d_built, d_Reader___init__, d_Reader_close, d_Reader_statement, d_read, d_law_cell_at, d_law_source, d_law_draw, d_law_choice, d_law_name, d_law_leaf, d_law_statement, d_law_parts, d_law_words, d_law_is_name, d_law_is_number, d_law_wrong, d_law_outcome, d_law_word, d_law_spoiled, d_law_built, d_law_of_code, d_law_right, d_law]
def fnL : List He.DefD := fnL0 ++ fnL1
def faL0 : List He.Fa := [.glo "_wall", .glo "CopyError", .glo "InvalidCode", .glo "InvalidNumber", .glo "InvalidText", .glo "LimitExceeded", .glo "is_integer", .glo "is_between", .glo "SIZES", .glo "NAMED", .glo "JUMPS", .glo "is_name", .glo "is_statement", .glo "parts_in", .glo "Code", .glo "PARTS", .glo "words_of", .glo "show", .glo "name_at", .glo "number_at", .glo "head_at", .glo "built", .glo "Reader", .glo "read", .glo "_law_cell_at", .glo "_law_source", .glo "_law_draw", .glo "_law_choice", .glo "_law_name", .glo "_law_leaf"]
def faL1 : List He.Fa := [.glo "_law_statement", .glo "_law_parts", .glo "_law_words", .glo "_law_is_name", .glo "_law_is_number", .glo "_law_wrong", .glo "_law_outcome", .glo "_law_word", .glo "_law_spoiled", .glo "_law_built", .glo "_law_of_code", .glo "_law_right", .glo "law", .free "ArithmeticError", .free "TypeError", .free "all", .free "bool", .free "enumerate", .free "int", .free "isinstance", .free "len", .free "list", .free "max", .free "min", .free "range", .free "reversed", .free "str", .free "tuple", .int "MOST_STATEMENTS" 400, .int "MOST_DEEP" 100]
def faL2 : List He.Fa := [.int "MOST_BLOCKS" 25, .int "MOST_LETTERS_code" 8, .str "LETTERS_code" "abcdefghijklmnopqrstuvwxyz", .str "LETTERS_texts" "abcdefghijklmnopqrstuvwxyz", .str "DIGITS" "0123456789", .int "MOST_WORDS" 2000, .int "MOST_LETTERS_texts" 8, .int "MOST_NUMBER" 400, .cls "Code", .mkr "Code", .noat "Code" "children", .noat "Code" "kinds", .noat "Code" "labels", .noat "Code" "parents", .noat "Code" "statements", .meth "Code" "check", .meth "Code" "keep", .meth "Code" "__eq__", .meth "Code" "__len__", .meth "Code" "__getitem__", .meth "Code" "__iter__", .meth "Code" "check_number", .meth "Code" "is_place", .meth "Code" "check_place", .meth "Code" "kind", .meth "Code" "parent", .meth "Code" "parts", .meth "Code" "places", .meth "Code" "entry", .meth "Code" "entry_of"]
def faL3 : List He.Fa := [.meth "Code" "layers", .meth "Code" "layers_of", .cls "Reader", .mkr "Reader", .noat "Reader" "at", .noat "Reader" "begun", .noat "Reader" "done", .noat "Reader" "words", .meth "Reader" "close", .meth "Reader" "statement"]
def faL : List He.Fa := faL0 ++ faL1 ++ faL2 ++ faL3
def tabL : List He.Tab := [(fun K => He.ga K "SIZES", ["do", "call", "if", "while", "seq", "break", "continue", "return", "raise", "try", "final"]), (fun K => He.ga K "PARTS", ["do", "call", "if", "while"])]
def tfL : List He.Defn := []
def xN : List PySem.Str := ["CopyError", "InvalidCode", "InvalidNumber", "InvalidText", "LimitExceeded"]
def exB (K : PySem.W.Frag) : Bool := (He.tupB K "NAMED" [.str "do", .str "call", .str "if", .str "while"]) && (He.tupB K "JUMPS" [.str "break", .str "continue"]) && (He.valsB K (He.ga K "SIZES") [("do", .int 2), ("call", .int 2), ("if", .int 4), ("while", .int 3), ("seq", .int 2), ("break", .int 2), ("continue", .int 2), ("return", .int 1), ("raise", .int 1), ("try", .int 3), ("final", .int 3)]) && (He.valsB K (He.ga K "PARTS") [("do", .int 0), ("call", .int 0), ("if", .int 2), ("while", .int 1)]) && (FcX.xcB K (He.ga K "CopyError") && PySem.W.excIn K (He.ga K "CopyError") FcX.aeT "ArithmeticError.__new__") && (FcX.xcB K (He.ga K "InvalidCode") && FcX.xiB K (He.ga K "InvalidCode") (He.fAd K ("InvalidCode", some "__init__")) "number") && (FcX.xcB K (He.ga K "InvalidNumber") && FcX.xiB K (He.ga K "InvalidNumber") (He.fAd K ("InvalidNumber", some "__init__")) "number") && (FcX.xcB K (He.ga K "InvalidText") && FcX.xiB K (He.ga K "InvalidText") (He.fAd K ("InvalidText", some "__init__")) "at") && (FcX.xcB K (He.ga K "LimitExceeded") && FcX.xiB K (He.ga K "LimitExceeded") (He.fAd K ("LimitExceeded", some "__init__")) "limit") && (FcX.xkB K xN) && (FcO.eqB K (He.ga K "Code")) && (FcX.xhB K xN)
def looseL0 : List PySem.Str := ["_wall", "CopyError", "InvalidCode", "InvalidNumber", "InvalidText", "LimitExceeded", "is_integer", "is_between", "SIZES", "NAMED", "JUMPS", "is_name", "is_statement", "parts_in", "Code", "PARTS", "words_of", "show", "name_at", "number_at", "head_at", "built", "Reader", "read", "_law_cell_at", "_law_source", "_law_draw", "_law_choice", "_law_name", "_law_leaf"]
def looseL1 : List PySem.Str := ["_law_statement", "_law_parts", "_law_words", "_law_is_name", "_law_is_number", "_law_wrong", "_law_outcome", "_law_word", "_law_spoiled", "_law_built", "_law_of_code", "_law_right", "MOST_STATEMENTS", "MOST_DEEP", "MOST_BLOCKS", "MOST_LETTERS_code", "LETTERS_code", "LETTERS_texts", "DIGITS", "MOST_WORDS", "MOST_LETTERS_texts", "MOST_NUMBER"]
def looseL : List PySem.Str := looseL0 ++ looseL1
abbrev R : PySem.W.OpenRow := PySem.W.OpenLaw.row PySem.Challenge.rw_finallycopies_k71_wrong_texts
abbrev hk : PySem.W.Hook := He.hookX 4 faL fnL tabL tfL exB
def ob (s : PySem.W.SharedT) : He.AlX := He.obsX 4 faL fnL tabL tfL exB (HandSHeadRun.getT s)
theorem ob_eq (s : PySem.W.SharedT) : ob s = hk.obs s.abs := He.obsX_eq (HandSHeadRun.getT_eq s)
theorem map3 {α β γ δ : Type} {o : Option α} {f : α → β} {g : α → γ} {h : α → δ} {a : β} {b : γ} {c : δ} (h1 : o.map f = some a) (h2 : o.map g = some b) (h3 : o.map h = some c) : o.map (fun s => (f s, g s, h s)) = some (a, b, c) := by
  cases o with
  | none => cases h1
  | some x => cases h1; cases h2; cases h3; rfl
theorem mapP {α β γ : Type} {o : Option α} {h : α → β × γ} {c : β × γ} (h1 : o.map (fun s => (h s).1) = some c.1) (h2 : o.map (fun s => (h s).2) = some c.2) : o.map h = some c := by
  cases o with
  | none => cases h1
  | some x =>
    have e1 : (h x).1 = c.1 := Option.some.inj h1
    have e2 : (h x).2 = c.2 := Option.some.inj h2
    show some (h x) = some c
    rw [← Prod.eta (h x), ← Prod.eta c, e1, e2]
theorem runF_a (w : World) (os : PySem.OsState) : (HandSHeadRun.endF (HandSHeadRun.stepQ (HandSHeadRun.denQ HandSHeadRun.tabQ) R.prog (w.withFollow "special-get-raises" false)) 20000 R.prog (w.withFollow "special-get-raises" false) os).map (fun s => HandSHeadRun.looksF R.prog (PySem.W.boot_heap (w.withFollow "special-get-raises" false).params) s.abs) = some true := by kernel_rfl
theorem runF_b (w : World) (os : PySem.OsState) : (HandSHeadRun.endF (HandSHeadRun.stepQ (HandSHeadRun.denQ HandSHeadRun.tabQ) R.prog (w.withFollow "special-get-raises" false)) 20000 R.prog (w.withFollow "special-get-raises" false) os).map (fun s => HandSHeadRun.seenQ (PySem.W.view R.prog [57]) looseL (PySem.importedModules R.prog.main.body) (fun s => PySem.W.xlAt (PySem.W.view R.prog [57]) [] s && PySem.W.recOk R.toRowW.records s) s.abs) = some (PySem.W.openGood (PySem.W.view R.prog [57]) looseL) := by kernel_rfl
theorem runF_c (w : World) (os : PySem.OsState) : (HandSHeadRun.endF (HandSHeadRun.stepQ (HandSHeadRun.denQ HandSHeadRun.tabQ) R.prog (w.withFollow "special-get-raises" false)) 20000 R.prog (w.withFollow "special-get-raises" false) os).map (fun s => (ob s).1) = some (hk.val (w.withFollow "special-get-raises" false)).1 := by kernel_rfl
theorem runF_d (w : World) (os : PySem.OsState) : (HandSHeadRun.endF (HandSHeadRun.stepQ (HandSHeadRun.denQ HandSHeadRun.tabQ) R.prog (w.withFollow "special-get-raises" false)) 20000 R.prog (w.withFollow "special-get-raises" false) os).map (fun s => (ob s).2) = some (hk.val (w.withFollow "special-get-raises" false)).2 := by kernel_rfl
theorem runF (w : World) : HandSHeadRun.RunEq R (PySem.W.view R.prog [57]) hk ob 20000 looseL (w.withFollow "special-get-raises" false) := fun os => map3 (runF_a w os) (runF_b w os) (mapP (h := ob) (runF_c w os) (runF_d w os))
theorem runT_a (w : World) (os : PySem.OsState) : (HandSHeadRun.endF (HandSHeadRun.stepQ (HandSHeadRun.denQ HandSHeadRun.tabQ) R.prog (w.withFollow "special-get-raises" true)) 20000 R.prog (w.withFollow "special-get-raises" true) os).map (fun s => HandSHeadRun.looksF R.prog (PySem.W.boot_heap (w.withFollow "special-get-raises" true).params) s.abs) = some true := by kernel_rfl
theorem runT_b (w : World) (os : PySem.OsState) : (HandSHeadRun.endF (HandSHeadRun.stepQ (HandSHeadRun.denQ HandSHeadRun.tabQ) R.prog (w.withFollow "special-get-raises" true)) 20000 R.prog (w.withFollow "special-get-raises" true) os).map (fun s => HandSHeadRun.seenQ (PySem.W.view R.prog [57]) looseL (PySem.importedModules R.prog.main.body) (fun s => PySem.W.xlAt (PySem.W.view R.prog [57]) [] s && PySem.W.recOk R.toRowW.records s) s.abs) = some (PySem.W.openGood (PySem.W.view R.prog [57]) looseL) := by kernel_rfl
theorem runT_c (w : World) (os : PySem.OsState) : (HandSHeadRun.endF (HandSHeadRun.stepQ (HandSHeadRun.denQ HandSHeadRun.tabQ) R.prog (w.withFollow "special-get-raises" true)) 20000 R.prog (w.withFollow "special-get-raises" true) os).map (fun s => (ob s).1) = some (hk.val (w.withFollow "special-get-raises" true)).1 := by kernel_rfl
theorem runT_d (w : World) (os : PySem.OsState) : (HandSHeadRun.endF (HandSHeadRun.stepQ (HandSHeadRun.denQ HandSHeadRun.tabQ) R.prog (w.withFollow "special-get-raises" true)) 20000 R.prog (w.withFollow "special-get-raises" true) os).map (fun s => (ob s).2) = some (hk.val (w.withFollow "special-get-raises" true)).2 := by kernel_rfl
theorem runT (w : World) : HandSHeadRun.RunEq R (PySem.W.view R.prog [57]) hk ob 20000 looseL (w.withFollow "special-get-raises" true) := fun os => map3 (runT_a w os) (runT_b w os) (mapP (h := ob) (runT_c w os) (runT_d w os))
theorem run (w : World) : HandSHeadRun.RunEq R (PySem.W.view R.prog [57]) hk ob 20000 looseL w := PySem.W.byRow2 "special-get-raises" (P := fun w => HandSHeadRun.RunEq R (PySem.W.view R.prog [57]) hk ob 20000 looseL w) runF runT w
structure Tx (w : World) (h : Heap) (K : PySem.W.Frag) (mg : Str → Option Value) : Prop where
  X : K.In h
  G : h.Ns mainGlobals mg
  c : He.SaysX faL fnL tabL tfL exB w h K
section
variable {w : World} {h : Heap} {K : PySem.W.Frag} {mg : Str → Option Value}
theorem g_wall (T : Tx w h K mg) : mg "_wall" = some (.ref (He.ga K "_wall")) := He.glo_ok T.X T.G (T.c.t.d.fact 0 rfl)
theorem g_CopyError (T : Tx w h K mg) : mg "CopyError" = some (.ref (He.ga K "CopyError")) := He.glo_ok T.X T.G (T.c.t.d.fact 1 rfl)
theorem g_InvalidCode (T : Tx w h K mg) : mg "InvalidCode" = some (.ref (He.ga K "InvalidCode")) := He.glo_ok T.X T.G (T.c.t.d.fact 2 rfl)
theorem g_InvalidNumber (T : Tx w h K mg) : mg "InvalidNumber" = some (.ref (He.ga K "InvalidNumber")) := He.glo_ok T.X T.G (T.c.t.d.fact 3 rfl)
theorem g_InvalidText (T : Tx w h K mg) : mg "InvalidText" = some (.ref (He.ga K "InvalidText")) := He.glo_ok T.X T.G (T.c.t.d.fact 4 rfl)
theorem g_LimitExceeded (T : Tx w h K mg) : mg "LimitExceeded" = some (.ref (He.ga K "LimitExceeded")) := He.glo_ok T.X T.G (T.c.t.d.fact 5 rfl)
theorem g_is_integer (T : Tx w h K mg) : mg "is_integer" = some (.ref (He.ga K "is_integer")) := He.glo_ok T.X T.G (T.c.t.d.fact 6 rfl)
theorem g_is_between (T : Tx w h K mg) : mg "is_between" = some (.ref (He.ga K "is_between")) := He.glo_ok T.X T.G (T.c.t.d.fact 7 rfl)
theorem g_SIZES (T : Tx w h K mg) : mg "SIZES" = some (.ref (He.ga K "SIZES")) := He.glo_ok T.X T.G (T.c.t.d.fact 8 rfl)
theorem g_NAMED (T : Tx w h K mg) : mg "NAMED" = some (.ref (He.ga K "NAMED")) := He.glo_ok T.X T.G (T.c.t.d.fact 9 rfl)
theorem g_JUMPS (T : Tx w h K mg) : mg "JUMPS" = some (.ref (He.ga K "JUMPS")) := He.glo_ok T.X T.G (T.c.t.d.fact 10 rfl)
theorem g_is_name (T : Tx w h K mg) : mg "is_name" = some (.ref (He.ga K "is_name")) := He.glo_ok T.X T.G (T.c.t.d.fact 11 rfl)
theorem g_is_statement (T : Tx w h K mg) : mg "is_statement" = some (.ref (He.ga K "is_statement")) := He.glo_ok T.X T.G (T.c.t.d.fact 12 rfl)
theorem g_parts_in (T : Tx w h K mg) : mg "parts_in" = some (.ref (He.ga K "parts_in")) := He.glo_ok T.X T.G (T.c.t.d.fact 13 rfl)
theorem g_Code (T : Tx w h K mg) : mg "Code" = some (.ref (He.ga K "Code")) := He.glo_ok T.X T.G (T.c.t.d.fact 14 rfl)
theorem g_PARTS (T : Tx w h K mg) : mg "PARTS" = some (.ref (He.ga K "PARTS")) := He.glo_ok T.X T.G (T.c.t.d.fact 15 rfl)
theorem g_words_of (T : Tx w h K mg) : mg "words_of" = some (.ref (He.ga K "words_of")) := He.glo_ok T.X T.G (T.c.t.d.fact 16 rfl)
theorem g_show (T : Tx w h K mg) : mg "show" = some (.ref (He.ga K "show")) := He.glo_ok T.X T.G (T.c.t.d.fact 17 rfl)
theorem g_name_at (T : Tx w h K mg) : mg "name_at" = some (.ref (He.ga K "name_at")) := He.glo_ok T.X T.G (T.c.t.d.fact 18 rfl)
theorem g_number_at (T : Tx w h K mg) : mg "number_at" = some (.ref (He.ga K "number_at")) := He.glo_ok T.X T.G (T.c.t.d.fact 19 rfl)
theorem g_head_at (T : Tx w h K mg) : mg "head_at" = some (.ref (He.ga K "head_at")) := He.glo_ok T.X T.G (T.c.t.d.fact 20 rfl)
theorem g_built (T : Tx w h K mg) : mg "built" = some (.ref (He.ga K "built")) := He.glo_ok T.X T.G (T.c.t.d.fact 21 rfl)
theorem g_Reader (T : Tx w h K mg) : mg "Reader" = some (.ref (He.ga K "Reader")) := He.glo_ok T.X T.G (T.c.t.d.fact 22 rfl)
theorem g_read (T : Tx w h K mg) : mg "read" = some (.ref (He.ga K "read")) := He.glo_ok T.X T.G (T.c.t.d.fact 23 rfl)
theorem g_law_cell_at (T : Tx w h K mg) : mg "_law_cell_at" = some (.ref (He.ga K "_law_cell_at")) := He.glo_ok T.X T.G (T.c.t.d.fact 24 rfl)
theorem g_law_source (T : Tx w h K mg) : mg "_law_source" = some (.ref (He.ga K "_law_source")) := He.glo_ok T.X T.G (T.c.t.d.fact 25 rfl)
theorem g_law_draw (T : Tx w h K mg) : mg "_law_draw" = some (.ref (He.ga K "_law_draw")) := He.glo_ok T.X T.G (T.c.t.d.fact 26 rfl)
theorem g_law_choice (T : Tx w h K mg) : mg "_law_choice" = some (.ref (He.ga K "_law_choice")) := He.glo_ok T.X T.G (T.c.t.d.fact 27 rfl)
theorem g_law_name (T : Tx w h K mg) : mg "_law_name" = some (.ref (He.ga K "_law_name")) := He.glo_ok T.X T.G (T.c.t.d.fact 28 rfl)
theorem g_law_leaf (T : Tx w h K mg) : mg "_law_leaf" = some (.ref (He.ga K "_law_leaf")) := He.glo_ok T.X T.G (T.c.t.d.fact 29 rfl)
theorem g_law_statement (T : Tx w h K mg) : mg "_law_statement" = some (.ref (He.ga K "_law_statement")) := He.glo_ok T.X T.G (T.c.t.d.fact 30 rfl)
theorem g_law_parts (T : Tx w h K mg) : mg "_law_parts" = some (.ref (He.ga K "_law_parts")) := He.glo_ok T.X T.G (T.c.t.d.fact 31 rfl)
theorem g_law_words (T : Tx w h K mg) : mg "_law_words" = some (.ref (He.ga K "_law_words")) := He.glo_ok T.X T.G (T.c.t.d.fact 32 rfl)
theorem g_law_is_name (T : Tx w h K mg) : mg "_law_is_name" = some (.ref (He.ga K "_law_is_name")) := He.glo_ok T.X T.G (T.c.t.d.fact 33 rfl)
theorem g_law_is_number (T : Tx w h K mg) : mg "_law_is_number" = some (.ref (He.ga K "_law_is_number")) := He.glo_ok T.X T.G (T.c.t.d.fact 34 rfl)
theorem g_law_wrong (T : Tx w h K mg) : mg "_law_wrong" = some (.ref (He.ga K "_law_wrong")) := He.glo_ok T.X T.G (T.c.t.d.fact 35 rfl)
theorem g_law_outcome (T : Tx w h K mg) : mg "_law_outcome" = some (.ref (He.ga K "_law_outcome")) := He.glo_ok T.X T.G (T.c.t.d.fact 36 rfl)
theorem g_law_word (T : Tx w h K mg) : mg "_law_word" = some (.ref (He.ga K "_law_word")) := He.glo_ok T.X T.G (T.c.t.d.fact 37 rfl)
theorem g_law_spoiled (T : Tx w h K mg) : mg "_law_spoiled" = some (.ref (He.ga K "_law_spoiled")) := He.glo_ok T.X T.G (T.c.t.d.fact 38 rfl)
theorem g_law_built (T : Tx w h K mg) : mg "_law_built" = some (.ref (He.ga K "_law_built")) := He.glo_ok T.X T.G (T.c.t.d.fact 39 rfl)
theorem g_law_of_code (T : Tx w h K mg) : mg "_law_of_code" = some (.ref (He.ga K "_law_of_code")) := He.glo_ok T.X T.G (T.c.t.d.fact 40 rfl)
theorem g_law_right (T : Tx w h K mg) : mg "_law_right" = some (.ref (He.ga K "_law_right")) := He.glo_ok T.X T.G (T.c.t.d.fact 41 rfl)
theorem g_law (T : Tx w h K mg) : mg "law" = some (.ref (He.ga K "law")) := He.glo_ok T.X T.G (T.c.t.d.fact 42 rfl)
theorem fr_ArithmeticError (T : Tx w h K mg) : mg "ArithmeticError" = none := He.free_ok T.X T.G (T.c.t.d.fact 43 rfl)
theorem fr_TypeError (T : Tx w h K mg) : mg "TypeError" = none := He.free_ok T.X T.G (T.c.t.d.fact 44 rfl)
theorem fr_all (T : Tx w h K mg) : mg "all" = none := He.free_ok T.X T.G (T.c.t.d.fact 45 rfl)
theorem fr_bool (T : Tx w h K mg) : mg "bool" = none := He.free_ok T.X T.G (T.c.t.d.fact 46 rfl)
theorem fr_enumerate (T : Tx w h K mg) : mg "enumerate" = none := He.free_ok T.X T.G (T.c.t.d.fact 47 rfl)
theorem fr_int (T : Tx w h K mg) : mg "int" = none := He.free_ok T.X T.G (T.c.t.d.fact 48 rfl)
theorem fr_isinstance (T : Tx w h K mg) : mg "isinstance" = none := He.free_ok T.X T.G (T.c.t.d.fact 49 rfl)
theorem fr_len (T : Tx w h K mg) : mg "len" = none := He.free_ok T.X T.G (T.c.t.d.fact 50 rfl)
theorem fr_list (T : Tx w h K mg) : mg "list" = none := He.free_ok T.X T.G (T.c.t.d.fact 51 rfl)
theorem fr_max (T : Tx w h K mg) : mg "max" = none := He.free_ok T.X T.G (T.c.t.d.fact 52 rfl)
theorem fr_min (T : Tx w h K mg) : mg "min" = none := He.free_ok T.X T.G (T.c.t.d.fact 53 rfl)
theorem fr_range (T : Tx w h K mg) : mg "range" = none := He.free_ok T.X T.G (T.c.t.d.fact 54 rfl)
theorem fr_reversed (T : Tx w h K mg) : mg "reversed" = none := He.free_ok T.X T.G (T.c.t.d.fact 55 rfl)
theorem fr_str (T : Tx w h K mg) : mg "str" = none := He.free_ok T.X T.G (T.c.t.d.fact 56 rfl)
theorem fr_tuple (T : Tx w h K mg) : mg "tuple" = none := He.free_ok T.X T.G (T.c.t.d.fact 57 rfl)
theorem i_MOST_STATEMENTS (T : Tx w h K mg) : ∃ t, mg "MOST_STATEMENTS" = some (.int 400 t) := He.int_ok T.X T.G (T.c.t.d.fact 58 rfl)
theorem i_MOST_DEEP (T : Tx w h K mg) : ∃ t, mg "MOST_DEEP" = some (.int 100 t) := He.int_ok T.X T.G (T.c.t.d.fact 59 rfl)
theorem i_MOST_BLOCKS (T : Tx w h K mg) : ∃ t, mg "MOST_BLOCKS" = some (.int 25 t) := He.int_ok T.X T.G (T.c.t.d.fact 60 rfl)
theorem i_MOST_LETTERS_code (T : Tx w h K mg) : ∃ t, mg "MOST_LETTERS_code" = some (.int 8 t) := He.int_ok T.X T.G (T.c.t.d.fact 61 rfl)
theorem i_LETTERS_code (T : Tx w h K mg) : ∃ t, mg "LETTERS_code" = some (.str "abcdefghijklmnopqrstuvwxyz" t) := He.str_ok T.X T.G (T.c.t.d.fact 62 rfl)
theorem i_LETTERS_texts (T : Tx w h K mg) : ∃ t, mg "LETTERS_texts" = some (.str "abcdefghijklmnopqrstuvwxyz" t) := He.str_ok T.X T.G (T.c.t.d.fact 63 rfl)
theorem i_DIGITS (T : Tx w h K mg) : ∃ t, mg "DIGITS" = some (.str "0123456789" t) := He.str_ok T.X T.G (T.c.t.d.fact 64 rfl)
theorem i_MOST_WORDS (T : Tx w h K mg) : ∃ t, mg "MOST_WORDS" = some (.int 2000 t) := He.int_ok T.X T.G (T.c.t.d.fact 65 rfl)
theorem i_MOST_LETTERS_texts (T : Tx w h K mg) : ∃ t, mg "MOST_LETTERS_texts" = some (.int 8 t) := He.int_ok T.X T.G (T.c.t.d.fact 66 rfl)
theorem i_MOST_NUMBER (T : Tx w h K mg) : ∃ t, mg "MOST_NUMBER" = some (.int 400 t) := He.int_ok T.X T.G (T.c.t.d.fact 67 rfl)
theorem c_Code (T : Tx w h K mg) : Cls K (He.ga K "Code") := He.cls_ok (T.c.t.d.fact 68 rfl)
theorem mk_Code (T : Tx w h K mg) : Mk K (He.ga K "Code") (He.ma K (He.ga K "Code") "__init__") := He.mkr_ok (T.c.t.d.fact 69 rfl)
theorem na_Code_children (T : Tx w h K mg) : NoAttr K (He.ga K "Code") "children" := He.noat_ok (T.c.t.d.fact 70 rfl)
theorem na_Code_kinds (T : Tx w h K mg) : NoAttr K (He.ga K "Code") "kinds" := He.noat_ok (T.c.t.d.fact 71 rfl)
theorem na_Code_labels (T : Tx w h K mg) : NoAttr K (He.ga K "Code") "labels" := He.noat_ok (T.c.t.d.fact 72 rfl)
theorem na_Code_parents (T : Tx w h K mg) : NoAttr K (He.ga K "Code") "parents" := He.noat_ok (T.c.t.d.fact 73 rfl)
theorem na_Code_statements (T : Tx w h K mg) : NoAttr K (He.ga K "Code") "statements" := He.noat_ok (T.c.t.d.fact 74 rfl)
theorem me_Code_check (T : Tx w h K mg) : Meth K (He.ga K "Code") "check" (He.ma K (He.ga K "Code") "check") := He.meth_ok (T.c.t.d.fact 75 rfl)
theorem me_Code_keep (T : Tx w h K mg) : Meth K (He.ga K "Code") "keep" (He.ma K (He.ga K "Code") "keep") := He.meth_ok (T.c.t.d.fact 76 rfl)
theorem me_Code___eq__ (T : Tx w h K mg) : Meth K (He.ga K "Code") "__eq__" (He.ma K (He.ga K "Code") "__eq__") := He.meth_ok (T.c.t.d.fact 77 rfl)
theorem me_Code___len__ (T : Tx w h K mg) : Meth K (He.ga K "Code") "__len__" (He.ma K (He.ga K "Code") "__len__") := He.meth_ok (T.c.t.d.fact 78 rfl)
theorem me_Code___getitem__ (T : Tx w h K mg) : Meth K (He.ga K "Code") "__getitem__" (He.ma K (He.ga K "Code") "__getitem__") := He.meth_ok (T.c.t.d.fact 79 rfl)
theorem me_Code___iter__ (T : Tx w h K mg) : Meth K (He.ga K "Code") "__iter__" (He.ma K (He.ga K "Code") "__iter__") := He.meth_ok (T.c.t.d.fact 80 rfl)
theorem me_Code_check_number (T : Tx w h K mg) : Meth K (He.ga K "Code") "check_number" (He.ma K (He.ga K "Code") "check_number") := He.meth_ok (T.c.t.d.fact 81 rfl)
theorem me_Code_is_place (T : Tx w h K mg) : Meth K (He.ga K "Code") "is_place" (He.ma K (He.ga K "Code") "is_place") := He.meth_ok (T.c.t.d.fact 82 rfl)
theorem me_Code_check_place (T : Tx w h K mg) : Meth K (He.ga K "Code") "check_place" (He.ma K (He.ga K "Code") "check_place") := He.meth_ok (T.c.t.d.fact 83 rfl)
theorem me_Code_kind (T : Tx w h K mg) : Meth K (He.ga K "Code") "kind" (He.ma K (He.ga K "Code") "kind") := He.meth_ok (T.c.t.d.fact 84 rfl)
theorem me_Code_parent (T : Tx w h K mg) : Meth K (He.ga K "Code") "parent" (He.ma K (He.ga K "Code") "parent") := He.meth_ok (T.c.t.d.fact 85 rfl)
theorem me_Code_parts (T : Tx w h K mg) : Meth K (He.ga K "Code") "parts" (He.ma K (He.ga K "Code") "parts") := He.meth_ok (T.c.t.d.fact 86 rfl)
theorem me_Code_places (T : Tx w h K mg) : Meth K (He.ga K "Code") "places" (He.ma K (He.ga K "Code") "places") := He.meth_ok (T.c.t.d.fact 87 rfl)
theorem me_Code_entry (T : Tx w h K mg) : Meth K (He.ga K "Code") "entry" (He.ma K (He.ga K "Code") "entry") := He.meth_ok (T.c.t.d.fact 88 rfl)
theorem me_Code_entry_of (T : Tx w h K mg) : Meth K (He.ga K "Code") "entry_of" (He.ma K (He.ga K "Code") "entry_of") := He.meth_ok (T.c.t.d.fact 89 rfl)
theorem me_Code_layers (T : Tx w h K mg) : Meth K (He.ga K "Code") "layers" (He.ma K (He.ga K "Code") "layers") := He.meth_ok (T.c.t.d.fact 90 rfl)
theorem me_Code_layers_of (T : Tx w h K mg) : Meth K (He.ga K "Code") "layers_of" (He.ma K (He.ga K "Code") "layers_of") := He.meth_ok (T.c.t.d.fact 91 rfl)
theorem c_Reader (T : Tx w h K mg) : Cls K (He.ga K "Reader") := He.cls_ok (T.c.t.d.fact 92 rfl)
theorem mk_Reader (T : Tx w h K mg) : Mk K (He.ga K "Reader") (He.ma K (He.ga K "Reader") "__init__") := He.mkr_ok (T.c.t.d.fact 93 rfl)
theorem na_Reader_at (T : Tx w h K mg) : NoAttr K (He.ga K "Reader") "at" := He.noat_ok (T.c.t.d.fact 94 rfl)
theorem na_Reader_begun (T : Tx w h K mg) : NoAttr K (He.ga K "Reader") "begun" := He.noat_ok (T.c.t.d.fact 95 rfl)
theorem na_Reader_done (T : Tx w h K mg) : NoAttr K (He.ga K "Reader") "done" := He.noat_ok (T.c.t.d.fact 96 rfl)
theorem na_Reader_words (T : Tx w h K mg) : NoAttr K (He.ga K "Reader") "words" := He.noat_ok (T.c.t.d.fact 97 rfl)
theorem me_Reader_close (T : Tx w h K mg) : Meth K (He.ga K "Reader") "close" (He.ma K (He.ga K "Reader") "close") := He.meth_ok (T.c.t.d.fact 98 rfl)
theorem me_Reader_statement (T : Tx w h K mg) : Meth K (He.ga K "Reader") "statement" (He.ma K (He.ga K "Reader") "statement") := He.meth_ok (T.c.t.d.fact 99 rfl)
theorem F_wall (T : Tx w h K mg) : ∃ fd, FunD K "_wall" "_wall" (defArgs sd_wall) (defBody sd_wall) (defScope sd_wall) [] [] (He.fAd K ("_wall", none)) fd := T.c.t.d.def_ 0 rfl
theorem F_InvalidCode___init__ (T : Tx w h K mg) : ∃ fd, FunD K "__init__" "InvalidCode.__init__" (defArgs sd_InvalidCode___init__) (defBody sd_InvalidCode___init__) (defScope sd_InvalidCode___init__) [] [] (He.fAd K ("InvalidCode", some "__init__")) fd := T.c.t.d.def_ 1 rfl
theorem F_InvalidNumber___init__ (T : Tx w h K mg) : ∃ fd, FunD K "__init__" "InvalidNumber.__init__" (defArgs sd_InvalidNumber___init__) (defBody sd_InvalidNumber___init__) (defScope sd_InvalidNumber___init__) [] [] (He.fAd K ("InvalidNumber", some "__init__")) fd := T.c.t.d.def_ 2 rfl
theorem F_InvalidText___init__ (T : Tx w h K mg) : ∃ fd, FunD K "__init__" "InvalidText.__init__" (defArgs sd_InvalidText___init__) (defBody sd_InvalidText___init__) (defScope sd_InvalidText___init__) [] [] (He.fAd K ("InvalidText", some "__init__")) fd := T.c.t.d.def_ 3 rfl
theorem F_LimitExceeded___init__ (T : Tx w h K mg) : ∃ fd, FunD K "__init__" "LimitExceeded.__init__" (defArgs sd_LimitExceeded___init__) (defBody sd_LimitExceeded___init__) (defScope sd_LimitExceeded___init__) [] [] (He.fAd K ("LimitExceeded", some "__init__")) fd := T.c.t.d.def_ 4 rfl
theorem F_is_integer (T : Tx w h K mg) : ∃ fd, FunD K "is_integer" "is_integer" (defArgs sd_is_integer) (defBody sd_is_integer) (defScope sd_is_integer) [] [] (He.fAd K ("is_integer", none)) fd := T.c.t.d.def_ 5 rfl
theorem F_is_between (T : Tx w h K mg) : ∃ fd, FunD K "is_between" "is_between" (defArgs sd_is_between) (defBody sd_is_between) (defScope sd_is_between) [] [] (He.fAd K ("is_between", none)) fd := T.c.t.d.def_ 6 rfl
theorem F_is_name (T : Tx w h K mg) : ∃ fd, FunD K "is_name" "is_name" (defArgs sd_is_name) (defBody sd_is_name) (defScope sd_is_name) [] [] (He.fAd K ("is_name", none)) fd := T.c.t.d.def_ 7 rfl
theorem F_is_statement (T : Tx w h K mg) : ∃ fd, FunD K "is_statement" "is_statement" (defArgs sd_is_statement) (defBody sd_is_statement) (defScope sd_is_statement) [] [] (He.fAd K ("is_statement", none)) fd := T.c.t.d.def_ 8 rfl
theorem F_parts_in (T : Tx w h K mg) : ∃ fd, FunD K "parts_in" "parts_in" (defArgs sd_parts_in) (defBody sd_parts_in) (defScope sd_parts_in) [] [] (He.fAd K ("parts_in", none)) fd := T.c.t.d.def_ 9 rfl
theorem F_Code___init__ (T : Tx w h K mg) : ∃ fd, FunD K "__init__" "Code.__init__" (defArgs sd_Code___init__) (defBody sd_Code___init__) (defScope sd_Code___init__) [] [] (He.fAd K ("Code", some "__init__")) fd := T.c.t.d.def_ 10 rfl
theorem F_Code_check (T : Tx w h K mg) : ∃ fd, FunD K "check" "Code.check" (defArgs sd_Code_check) (defBody sd_Code_check) (defScope sd_Code_check) [] [] (He.fAd K ("Code", some "check")) fd := T.c.t.d.def_ 11 rfl
theorem F_Code_keep (T : Tx w h K mg) : ∃ fd, FunD K "keep" "Code.keep" (defArgs sd_Code_keep) (defBody sd_Code_keep) (defScope sd_Code_keep) [] [] (He.fAd K ("Code", some "keep")) fd := T.c.t.d.def_ 12 rfl
theorem F_Code___eq__ (T : Tx w h K mg) : ∃ fd, FunD K "__eq__" "Code.__eq__" (defArgs sd_Code___eq__) (defBody sd_Code___eq__) (defScope sd_Code___eq__) [] [] (He.fAd K ("Code", some "__eq__")) fd := T.c.t.d.def_ 13 rfl
theorem F_Code___len__ (T : Tx w h K mg) : ∃ fd, FunD K "__len__" "Code.__len__" (defArgs sd_Code___len__) (defBody sd_Code___len__) (defScope sd_Code___len__) [] [] (He.fAd K ("Code", some "__len__")) fd := T.c.t.d.def_ 14 rfl
theorem F_Code___getitem__ (T : Tx w h K mg) : ∃ fd, FunD K "__getitem__" "Code.__getitem__" (defArgs sd_Code___getitem__) (defBody sd_Code___getitem__) (defScope sd_Code___getitem__) [] [] (He.fAd K ("Code", some "__getitem__")) fd := T.c.t.d.def_ 15 rfl
theorem F_Code___iter__ (T : Tx w h K mg) : ∃ fd, FunD K "__iter__" "Code.__iter__" (defArgs sd_Code___iter__) (defBody sd_Code___iter__) (defScope sd_Code___iter__) [] [] (He.fAd K ("Code", some "__iter__")) fd := T.c.t.d.def_ 16 rfl
theorem F_Code_check_number (T : Tx w h K mg) : ∃ fd, FunD K "check_number" "Code.check_number" (defArgs sd_Code_check_number) (defBody sd_Code_check_number) (defScope sd_Code_check_number) [] [] (He.fAd K ("Code", some "check_number")) fd := T.c.t.d.def_ 17 rfl
theorem F_Code_is_place (T : Tx w h K mg) : ∃ fd, FunD K "is_place" "Code.is_place" (defArgs sd_Code_is_place) (defBody sd_Code_is_place) (defScope sd_Code_is_place) [] [] (He.fAd K ("Code", some "is_place")) fd := T.c.t.d.def_ 18 rfl
theorem F_Code_check_place (T : Tx w h K mg) : ∃ fd, FunD K "check_place" "Code.check_place" (defArgs sd_Code_check_place) (defBody sd_Code_check_place) (defScope sd_Code_check_place) [] [] (He.fAd K ("Code", some "check_place")) fd := T.c.t.d.def_ 19 rfl
theorem F_Code_kind (T : Tx w h K mg) : ∃ fd, FunD K "kind" "Code.kind" (defArgs sd_Code_kind) (defBody sd_Code_kind) (defScope sd_Code_kind) [] [] (He.fAd K ("Code", some "kind")) fd := T.c.t.d.def_ 20 rfl
theorem F_Code_parent (T : Tx w h K mg) : ∃ fd, FunD K "parent" "Code.parent" (defArgs sd_Code_parent) (defBody sd_Code_parent) (defScope sd_Code_parent) [] [] (He.fAd K ("Code", some "parent")) fd := T.c.t.d.def_ 21 rfl
theorem F_Code_parts (T : Tx w h K mg) : ∃ fd, FunD K "parts" "Code.parts" (defArgs sd_Code_parts) (defBody sd_Code_parts) (defScope sd_Code_parts) [] [] (He.fAd K ("Code", some "parts")) fd := T.c.t.d.def_ 22 rfl
theorem F_Code_places (T : Tx w h K mg) : ∃ fd, FunD K "places" "Code.places" (defArgs sd_Code_places) (defBody sd_Code_places) (defScope sd_Code_places) [] [] (He.fAd K ("Code", some "places")) fd := T.c.t.d.def_ 23 rfl
theorem F_Code_entry (T : Tx w h K mg) : ∃ fd, FunD K "entry" "Code.entry" (defArgs sd_Code_entry) (defBody sd_Code_entry) (defScope sd_Code_entry) [] [] (He.fAd K ("Code", some "entry")) fd := T.c.t.d.def_ 24 rfl
theorem F_Code_entry_of (T : Tx w h K mg) : ∃ fd, FunD K "entry_of" "Code.entry_of" (defArgs sd_Code_entry_of) (defBody sd_Code_entry_of) (defScope sd_Code_entry_of) [] [] (He.fAd K ("Code", some "entry_of")) fd := T.c.t.d.def_ 25 rfl
theorem F_Code_layers (T : Tx w h K mg) : ∃ fd, FunD K "layers" "Code.layers" (defArgs sd_Code_layers) (defBody sd_Code_layers) (defScope sd_Code_layers) [] [] (He.fAd K ("Code", some "layers")) fd := T.c.t.d.def_ 26 rfl
theorem F_Code_layers_of (T : Tx w h K mg) : ∃ fd, FunD K "layers_of" "Code.layers_of" (defArgs sd_Code_layers_of) (defBody sd_Code_layers_of) (defScope sd_Code_layers_of) [] [] (He.fAd K ("Code", some "layers_of")) fd := T.c.t.d.def_ 27 rfl
theorem F_words_of (T : Tx w h K mg) : ∃ fd, FunD K "words_of" "words_of" (defArgs sd_words_of) (defBody sd_words_of) (defScope sd_words_of) [] [] (He.fAd K ("words_of", none)) fd := T.c.t.d.def_ 28 rfl
theorem F_show (T : Tx w h K mg) : ∃ fd, FunD K "show" "show" (defArgs sd_show) (defBody sd_show) (defScope sd_show) [] [] (He.fAd K ("show", none)) fd := T.c.t.d.def_ 29 rfl
theorem F_name_at (T : Tx w h K mg) : ∃ fd, FunD K "name_at" "name_at" (defArgs sd_name_at) (defBody sd_name_at) (defScope sd_name_at) [] [] (He.fAd K ("name_at", none)) fd := T.c.t.d.def_ 30 rfl
theorem F_number_at (T : Tx w h K mg) : ∃ fd, FunD K "number_at" "number_at" (defArgs sd_number_at) (defBody sd_number_at) (defScope sd_number_at) [] [] (He.fAd K ("number_at", none)) fd := T.c.t.d.def_ 31 rfl
theorem F_head_at (T : Tx w h K mg) : ∃ fd, FunD K "head_at" "head_at" (defArgs sd_head_at) (defBody sd_head_at) (defScope sd_head_at) [] [] (He.fAd K ("head_at", none)) fd := T.c.t.d.def_ 32 rfl
theorem F_built (T : Tx w h K mg) : ∃ fd, FunD K "built" "built" (defArgs sd_built) (defBody sd_built) (defScope sd_built) [] [] (He.fAd K ("built", none)) fd := T.c.t.d.def_ 33 rfl
theorem F_Reader___init__ (T : Tx w h K mg) : ∃ fd, FunD K "__init__" "Reader.__init__" (defArgs sd_Reader___init__) (defBody sd_Reader___init__) (defScope sd_Reader___init__) [] [] (He.fAd K ("Reader", some "__init__")) fd := T.c.t.d.def_ 34 rfl
theorem F_Reader_close (T : Tx w h K mg) : ∃ fd, FunD K "close" "Reader.close" (defArgs sd_Reader_close) (defBody sd_Reader_close) (defScope sd_Reader_close) [] [] (He.fAd K ("Reader", some "close")) fd := T.c.t.d.def_ 35 rfl
theorem F_Reader_statement (T : Tx w h K mg) : ∃ fd, FunD K "statement" "Reader.statement" (defArgs sd_Reader_statement) (defBody sd_Reader_statement) (defScope sd_Reader_statement) [] [] (He.fAd K ("Reader", some "statement")) fd := T.c.t.d.def_ 36 rfl
theorem F_read (T : Tx w h K mg) : ∃ fd, FunD K "read" "read" (defArgs sd_read) (defBody sd_read) (defScope sd_read) [] [] (He.fAd K ("read", none)) fd := T.c.t.d.def_ 37 rfl
theorem F_law_cell_at (T : Tx w h K mg) : ∃ fd, FunD K "_law_cell_at" "_law_cell_at" (defArgs sd_law_cell_at) (defBody sd_law_cell_at) (defScope sd_law_cell_at) [] [] (He.fAd K ("_law_cell_at", none)) fd := T.c.t.d.def_ 38 rfl
theorem F_law_source (T : Tx w h K mg) : ∃ fd, FunD K "_law_source" "_law_source" (defArgs sd_law_source) (defBody sd_law_source) (defScope sd_law_source) [] [] (He.fAd K ("_law_source", none)) fd := T.c.t.d.def_ 39 rfl
theorem F_law_draw (T : Tx w h K mg) : ∃ fd, FunD K "_law_draw" "_law_draw" (defArgs sd_law_draw) (defBody sd_law_draw) (defScope sd_law_draw) [] [] (He.fAd K ("_law_draw", none)) fd := T.c.t.d.def_ 40 rfl
theorem F_law_choice (T : Tx w h K mg) : ∃ fd, FunD K "_law_choice" "_law_choice" (defArgs sd_law_choice) (defBody sd_law_choice) (defScope sd_law_choice) [] [] (He.fAd K ("_law_choice", none)) fd := T.c.t.d.def_ 41 rfl
theorem F_law_name (T : Tx w h K mg) : ∃ fd, FunD K "_law_name" "_law_name" (defArgs sd_law_name) (defBody sd_law_name) (defScope sd_law_name) [] [] (He.fAd K ("_law_name", none)) fd := T.c.t.d.def_ 42 rfl
theorem F_law_leaf (T : Tx w h K mg) : ∃ fd, FunD K "_law_leaf" "_law_leaf" (defArgs sd_law_leaf) (defBody sd_law_leaf) (defScope sd_law_leaf) [] [] (He.fAd K ("_law_leaf", none)) fd := T.c.t.d.def_ 43 rfl
theorem F_law_statement (T : Tx w h K mg) : ∃ fd, FunD K "_law_statement" "_law_statement" (defArgs sd_law_statement) (defBody sd_law_statement) (defScope sd_law_statement) [] [] (He.fAd K ("_law_statement", none)) fd := T.c.t.d.def_ 44 rfl
theorem F_law_parts (T : Tx w h K mg) : ∃ fd, FunD K "_law_parts" "_law_parts" (defArgs sd_law_parts) (defBody sd_law_parts) (defScope sd_law_parts) [] [] (He.fAd K ("_law_parts", none)) fd := T.c.t.d.def_ 45 rfl
theorem F_law_words (T : Tx w h K mg) : ∃ fd, FunD K "_law_words" "_law_words" (defArgs sd_law_words) (defBody sd_law_words) (defScope sd_law_words) [] [] (He.fAd K ("_law_words", none)) fd := T.c.t.d.def_ 46 rfl
theorem F_law_is_name (T : Tx w h K mg) : ∃ fd, FunD K "_law_is_name" "_law_is_name" (defArgs sd_law_is_name) (defBody sd_law_is_name) (defScope sd_law_is_name) [] [] (He.fAd K ("_law_is_name", none)) fd := T.c.t.d.def_ 47 rfl
theorem F_law_is_number (T : Tx w h K mg) : ∃ fd, FunD K "_law_is_number" "_law_is_number" (defArgs sd_law_is_number) (defBody sd_law_is_number) (defScope sd_law_is_number) [] [] (He.fAd K ("_law_is_number", none)) fd := T.c.t.d.def_ 48 rfl
theorem F_law_wrong (T : Tx w h K mg) : ∃ fd, FunD K "_law_wrong" "_law_wrong" (defArgs sd_law_wrong) (defBody sd_law_wrong) (defScope sd_law_wrong) [] [] (He.fAd K ("_law_wrong", none)) fd := T.c.t.d.def_ 49 rfl
theorem F_law_outcome (T : Tx w h K mg) : ∃ fd, FunD K "_law_outcome" "_law_outcome" (defArgs sd_law_outcome) (defBody sd_law_outcome) (defScope sd_law_outcome) [] [] (He.fAd K ("_law_outcome", none)) fd := T.c.t.d.def_ 50 rfl
theorem F_law_word (T : Tx w h K mg) : ∃ fd, FunD K "_law_word" "_law_word" (defArgs sd_law_word) (defBody sd_law_word) (defScope sd_law_word) [] [] (He.fAd K ("_law_word", none)) fd := T.c.t.d.def_ 51 rfl
theorem F_law_spoiled (T : Tx w h K mg) : ∃ fd, FunD K "_law_spoiled" "_law_spoiled" (defArgs sd_law_spoiled) (defBody sd_law_spoiled) (defScope sd_law_spoiled) [] [] (He.fAd K ("_law_spoiled", none)) fd := T.c.t.d.def_ 52 rfl
theorem F_law_built (T : Tx w h K mg) : ∃ fd, FunD K "_law_built" "_law_built" (defArgs sd_law_built) (defBody sd_law_built) (defScope sd_law_built) [] [] (He.fAd K ("_law_built", none)) fd := T.c.t.d.def_ 53 rfl
theorem F_law_of_code (T : Tx w h K mg) : ∃ fd, FunD K "_law_of_code" "_law_of_code" (defArgs sd_law_of_code) (defBody sd_law_of_code) (defScope sd_law_of_code) [] [] (He.fAd K ("_law_of_code", none)) fd := T.c.t.d.def_ 54 rfl
theorem F_law_right (T : Tx w h K mg) : ∃ fd, FunD K "_law_right" "_law_right" (defArgs sd_law_right) (defBody sd_law_right) (defScope sd_law_right) [] [] (He.fAd K ("_law_right", none)) fd := T.c.t.d.def_ 55 rfl
theorem F_law (T : Tx w h K mg) : ∃ fd, FunD K "law" "law" (defArgs sd_law) (defBody sd_law) (defScope sd_law) [] [] (He.fAd K ("law", none)) fd := T.c.t.d.def_ 56 rfl
theorem t_NAMED (T : Tx w h K mg) (H : Hp) : SqT K H (He.ga K "NAMED") [.str "do", .str "call", .str "if", .str "while"] := He.tupB_ok (x := "NAMED") (vs := [.str "do", .str "call", .str "if", .str "while"]) (He.ba (He.ba (He.ba (He.ba (He.ba (He.ba (He.ba (He.ba (He.ba (He.ba (He.ba T.c.more).1).1).1).1).1).1).1).1).1).1).1 H
theorem t_JUMPS (T : Tx w h K mg) (H : Hp) : SqT K H (He.ga K "JUMPS") [.str "break", .str "continue"] := He.tupB_ok (x := "JUMPS") (vs := [.str "break", .str "continue"]) (He.ba (He.ba (He.ba (He.ba (He.ba (He.ba (He.ba (He.ba (He.ba (He.ba (He.ba T.c.more).1).1).1).1).1).1).1).1).1).1).2 H
theorem d_SIZES (T : Tx w h K mg) : ∃ es n, KDict K w (He.ga K "SIZES") es n := T.c.t.tab 0 rfl
theorem dk_SIZES (T : Tx w h K mg) : He.dicW K (He.ga K "SIZES") = some (He.keysIn w.params ["do", "call", "if", "while", "seq", "break", "continue", "return", "raise", "try", "final"]) := Option.some.inj (show some (He.dicW K (He.ga K "SIZES")) = some (some (He.keysIn w.params ["do", "call", "if", "while", "seq", "break", "continue", "return", "raise", "try", "final"])) from congrArg (fun z : He.AlT => z.2[0]?) T.c.t)
theorem v_SIZES (T : Tx w h K mg) {q : Str × He.Dv} (hq : q ∈ ([("do", .int 2), ("call", .int 2), ("if", .int 4), ("while", .int 3), ("seq", .int 2), ("break", .int 2), ("continue", .int 2), ("return", .int 1), ("raise", .int 1), ("try", .int 3), ("final", .int 3)] : List (Str × He.Dv))) : ∃ u, PySem.W.nsIn K (He.ga K "SIZES") q.1 = some (some u) ∧ RelV (q.2.v K) u := He.valsB_ok (He.ba (He.ba (He.ba (He.ba (He.ba (He.ba (He.ba (He.ba (He.ba (He.ba T.c.more).1).1).1).1).1).1).1).1).1).2 hq
theorem d_PARTS (T : Tx w h K mg) : ∃ es n, KDict K w (He.ga K "PARTS") es n := T.c.t.tab 1 rfl
theorem dk_PARTS (T : Tx w h K mg) : He.dicW K (He.ga K "PARTS") = some (He.keysIn w.params ["do", "call", "if", "while"]) := Option.some.inj (show some (He.dicW K (He.ga K "PARTS")) = some (some (He.keysIn w.params ["do", "call", "if", "while"])) from congrArg (fun z : He.AlT => z.2[1]?) T.c.t)
theorem v_PARTS (T : Tx w h K mg) {q : Str × He.Dv} (hq : q ∈ ([("do", .int 0), ("call", .int 0), ("if", .int 2), ("while", .int 1)] : List (Str × He.Dv))) : ∃ u, PySem.W.nsIn K (He.ga K "PARTS") q.1 = some (some u) ∧ RelV (q.2.v K) u := He.valsB_ok (He.ba (He.ba (He.ba (He.ba (He.ba (He.ba (He.ba (He.ba (He.ba T.c.more).1).1).1).1).1).1).1).1).2 hq
theorem x_CopyError (T : Tx w h K mg) : FcX.XC K (He.ga K "CopyError") := FcX.xcB_ok (He.ba ((He.ba (He.ba (He.ba (He.ba (He.ba (He.ba (He.ba (He.ba T.c.more).1).1).1).1).1).1).1).2)).1
theorem xi_CopyError (T : Tx w h K mg) : PySem.W.excIn K (He.ga K "CopyError") FcX.aeT "ArithmeticError.__new__" = true := (He.ba ((He.ba (He.ba (He.ba (He.ba (He.ba (He.ba (He.ba (He.ba T.c.more).1).1).1).1).1).1).1).2)).2
theorem x_InvalidCode (T : Tx w h K mg) : FcX.XC K (He.ga K "InvalidCode") := FcX.xcB_ok (He.ba ((He.ba (He.ba (He.ba (He.ba (He.ba (He.ba (He.ba T.c.more).1).1).1).1).1).1).2)).1
theorem xi_InvalidCode (T : Tx w h K mg) : FcX.XI K (He.ga K "InvalidCode") (He.fAd K ("InvalidCode", some "__init__")) "number" := FcX.xiB_ok (He.ba ((He.ba (He.ba (He.ba (He.ba (He.ba (He.ba (He.ba T.c.more).1).1).1).1).1).1).2)).2
theorem x_InvalidNumber (T : Tx w h K mg) : FcX.XC K (He.ga K "InvalidNumber") := FcX.xcB_ok (He.ba ((He.ba (He.ba (He.ba (He.ba (He.ba (He.ba T.c.more).1).1).1).1).1).2)).1
theorem xi_InvalidNumber (T : Tx w h K mg) : FcX.XI K (He.ga K "InvalidNumber") (He.fAd K ("InvalidNumber", some "__init__")) "number" := FcX.xiB_ok (He.ba ((He.ba (He.ba (He.ba (He.ba (He.ba (He.ba T.c.more).1).1).1).1).1).2)).2
theorem x_InvalidText (T : Tx w h K mg) : FcX.XC K (He.ga K "InvalidText") := FcX.xcB_ok (He.ba ((He.ba (He.ba (He.ba (He.ba (He.ba T.c.more).1).1).1).1).2)).1
theorem xi_InvalidText (T : Tx w h K mg) : FcX.XI K (He.ga K "InvalidText") (He.fAd K ("InvalidText", some "__init__")) "at" := FcX.xiB_ok (He.ba ((He.ba (He.ba (He.ba (He.ba (He.ba T.c.more).1).1).1).1).2)).2
theorem x_LimitExceeded (T : Tx w h K mg) : FcX.XC K (He.ga K "LimitExceeded") := FcX.xcB_ok (He.ba ((He.ba (He.ba (He.ba (He.ba T.c.more).1).1).1).2)).1
theorem xi_LimitExceeded (T : Tx w h K mg) : FcX.XI K (He.ga K "LimitExceeded") (He.fAd K ("LimitExceeded", some "__init__")) "limit" := FcX.xiB_ok (He.ba ((He.ba (He.ba (He.ba (He.ba T.c.more).1).1).1).2)).2
theorem xk (T : Tx w h K mg) : FcX.xkB K xN = true := (He.ba (He.ba (He.ba T.c.more).1).1).2
theorem eq_Code (T : Tx w h K mg) : FcO.EqC K (He.ga K "Code") := FcO.eqB_ok (He.ba (He.ba T.c.more).1).2
theorem xh (T : Tx w h K mg) : FcX.xhB K xN = true := (He.ba T.c.more).2
end
end Fc

set_option maxRecDepth 100000
set_option maxHeartbeats 4000000
namespace Fc
open PySem PySem.Spec PyProof.Rows L2 FcR
open Evl (Ex)
/-! ### written tables with text keys: a key that is not there -/
theorem find_none_of {P : Params} {z : Str} : ∀ {l : List DictEntry} {ks : List Str}, l.map He.keyOf = He.keysIn P ks → z ∉ ks → l.find? (·.key.isStr z) = none ∧ l.any (·.refKey) = false
  | [], _, _, _ => ⟨rfl, rfl⟩
  | e :: r, [], h, _ => by cases h
  | e :: r, k :: ks, h, hz => by
    have h1 : He.keyOf e :: r.map He.keyOf = some (k, PyData.keyHash P k) :: He.keysIn P ks := h
    injection h1 with h2 h3
    obtain ⟨i1, i2⟩ := find_none_of (z := z) h3 fun y => hz (List.mem_cons_of_mem _ y)
    unfold He.keyOf at h2
    split at h2
    · rename_i x t q
      have h4 := Option.some.inj h2
      obtain ⟨h5, h6⟩ := Prod.mk.inj h4
      have ne : x ≠ z := fun y => hz (by rw [← y, h5]; exact List.mem_cons_self)
      constructor
      · rw [List.find?_cons]
        have e1 : e.key.isStr z = false := by
          rw [q]
          show (x == z) = false
          simpa using ne
        rw [e1]
        exact i1
      · rw [List.any_cons, i2]
        have e2 : e.refKey = false := by
          unfold DictEntry.refKey
          rw [q] <;> rfl
        rw [e2] <;> rfl
    · cases h2
theorem ns_none {K : PySem.W.Frag} {P : Params} {a : Addr} {ks : List Str} {z : Str} (h : He.dicW K a = some (He.keysIn P ks)) (hz : z ∉ ks) : PySem.W.nsIn K a z = some none := by
  unfold He.dicW at h
  unfold PySem.W.nsIn
  cases q : K.lookup a with
  | none => rw [q] at h; cases h
  | some o =>
    obtain ⟨oc, od, dt, osl⟩ := o
    rw [q] at h
    cases oc with
    | type c =>
      cases od with
      | none =>
        cases dt with
        | dict es n =>
          have h1 : (match decide (c = "dict") && (osl.isEmpty && !(a == sysModules)) with
            | true => some (es.toList.map He.keyOf)
            | false => none) = some (He.keysIn P ks) := h
          split at h1
          · obtain ⟨i1, i2⟩ := find_none_of (z := z) (Option.some.inj h1) hz
            show (match es.toList.find? (·.key.isStr z) with
              | some e => some (some e.val)
              | none => if es.toList.any (·.refKey) then none else some none) = some none
            rw [i1, i2]
            rfl
          · cases h1
        | _ => cases h
      | some b => cases dt <;> cases h
    | _ => cases od <;> cases dt <;> cases h
/-! ### the kinds of data -/
def tyD : PyData → String
  | .none => "NoneType"
  | .bool _ => "bool"
  | .int _ => "int"
  | .str _ => "str"
  | .list _ => "list"
  | .tuple _ => "tuple"
  | .dict _ => "dict"
theorem ty_lst {K : PySem.W.Frag} {H : Hp} {a : Addr} {xs : List V} (h : SqL K H a xs) : TyX K H (.ref a) (.type "list") := by
  rcases h with (h | ⟨o, h⟩) | ⟨o, its, n, hk, hc, _⟩
  · exact .base (.lst h)
  · exact .base (.frz h)
  · exact .kList hk hc
theorem ty_tup {K : PySem.W.Frag} {H : Hp} {a : Addr} {xs : List V} (h : SqT K H a xs) : TyX K H (.ref a) (.type "tuple") := by
  rcases h with (h | ⟨o, h⟩) | ⟨o, its, n, hk, hc, _⟩
  · exact .base (.tup h)
  · exact .fTuple h
  · exact .kTuple hk hc
theorem dp_ty {K : PySem.W.Frag} {H : Hp} {v : V} {d : PyData} (h : Dp K H v d) : TyX K H v (.type (tyD d)) := by
  cases h with
  | non => exact .base .non
  | bl b => exact .base (.bl b)
  | int i => exact .base (.int i)
  | str x => exact .base (.str x)
  | lst h _ => exact ty_lst h
  | tup h _ => exact ty_tup h
def isT (n : String) (d : PyData) : Bool := tyD d == n
theorem k_str {K : PySem.W.Frag} : ∀ d : PyData, PySem.W.kitOne K (.type (tyD d)) (.type "str") = some (isT "str" d)
  | .none => kit_ty (show kitB "NoneType" "str" = some false by decide +kernel)
  | .bool _ => kit_ty (show kitB "bool" "str" = some false by decide +kernel)
  | .int _ => kit_ty (show kitB "int" "str" = some false by decide +kernel)
  | .str _ => kit_ty (show kitB "str" "str" = some true by decide +kernel)
  | .list _ => kit_ty (show kitB "list" "str" = some false by decide +kernel)
  | .tuple _ => kit_ty (show kitB "tuple" "str" = some false by decide +kernel)
  | .dict _ => kit_ty (show kitB "dict" "str" = some false by decide +kernel)
theorem k_tuple {K : PySem.W.Frag} : ∀ d : PyData, PySem.W.kitOne K (.type (tyD d)) (.type "tuple") = some (isT "tuple" d)
  | .none => kit_ty (show kitB "NoneType" "tuple" = some false by decide +kernel)
  | .bool _ => kit_ty (show kitB "bool" "tuple" = some false by decide +kernel)
  | .int _ => kit_ty (show kitB "int" "tuple" = some false by decide +kernel)
  | .str _ => kit_ty (show kitB "str" "tuple" = some false by decide +kernel)
  | .list _ => kit_ty (show kitB "list" "tuple" = some false by decide +kernel)
  | .tuple _ => kit_ty (show kitB "tuple" "tuple" = some true by decide +kernel)
  | .dict _ => kit_ty (show kitB "dict" "tuple" = some false by decide +kernel)
theorem k_list {K : PySem.W.Frag} : ∀ d : PyData, PySem.W.kitOne K (.type (tyD d)) (.type "list") = some (isT "list" d)
  | .none => kit_ty (show kitB "NoneType" "list" = some false by decide +kernel)
  | .bool _ => kit_ty (show kitB "bool" "list" = some false by decide +kernel)
  | .int _ => kit_ty (show kitB "int" "list" = some false by decide +kernel)
  | .str _ => kit_ty (show kitB "str" "list" = some false by decide +kernel)
  | .list _ => kit_ty (show kitB "list" "list" = some true by decide +kernel)
  | .tuple _ => kit_ty (show kitB "tuple" "list" = some false by decide +kernel)
  | .dict _ => kit_ty (show kitB "dict" "list" = some false by decide +kernel)
theorem k_bool {K : PySem.W.Frag} : ∀ d : PyData, PySem.W.kitOne K (.type (tyD d)) (.type "bool") = some (isT "bool" d)
  | .none => kit_ty (show kitB "NoneType" "bool" = some false by decide +kernel)
  | .bool _ => kit_ty (show kitB "bool" "bool" = some true by decide +kernel)
  | .int _ => kit_ty (show kitB "int" "bool" = some false by decide +kernel)
  | .str _ => kit_ty (show kitB "str" "bool" = some false by decide +kernel)
  | .list _ => kit_ty (show kitB "list" "bool" = some false by decide +kernel)
  | .tuple _ => kit_ty (show kitB "tuple" "bool" = some false by decide +kernel)
  | .dict _ => kit_ty (show kitB "dict" "bool" = some false by decide +kernel)
def isIntB : PyData → Bool
  | .int _ => true
  | .bool _ => true
  | _ => false
theorem k_int {K : PySem.W.Frag} : ∀ d : PyData, PySem.W.kitOne K (.type (tyD d)) (.type "int") = some (isIntB d)
  | .none => kit_ty (show kitB "NoneType" "int" = some false by decide +kernel)
  | .bool _ => kit_ty (show kitB "bool" "int" = some true by decide +kernel)
  | .int _ => kit_ty (show kitB "int" "int" = some true by decide +kernel)
  | .str _ => kit_ty (show kitB "str" "int" = some false by decide +kernel)
  | .list _ => kit_ty (show kitB "list" "int" = some false by decide +kernel)
  | .tuple _ => kit_ty (show kitB "tuple" "int" = some false by decide +kernel)
  | .dict _ => kit_ty (show kitB "dict" "int" = some false by decide +kernel)
/-! ### names and statements -/
def letters : List Nat := (Str.ofString "abcdefghijklmnopqrstuvwxyz").cps.toList
def nameOk (x : Str) : Bool := (decide ((1 : Int) ≤ x.length) && decide ((x.length : Int) ≤ 8)) && x.cps.toList.all fun c => decide (c ∈ letters)
def isName : PyData → Bool
  | .str x => nameOk x
  | _ => false
def isNum (lo hi : Int) : PyData → Bool
  | .int n => decide (lo ≤ n) && decide (n ≤ hi)
  | _ => false
def kNamed : List Str := ["do", "call", "if", "while"]
def kJumps : List Str := ["break", "continue"]
def kSizes : List (Str × Int) := [("do", 2), ("call", 2), ("if", 4), ("while", 3), ("seq", 2), ("break", 2), ("continue", 2), ("return", 1), ("raise", 1), ("try", 3), ("final", 3)]
def nonEmptyT : PyData → Bool
  | .tuple (_ :: _) => true
  | _ => false
def isStm : PyData → Int → Bool
  | .tuple (.str k :: r), loops => (match kSizes.lookup k with
    | none => false
    | some n => if (r.length : Int) + 1 ≠ n then false else
      if k ∈ kNamed then isName (r.getD 0 .none) else if k ∈ kJumps then isNum 1 loops (r.getD 0 .none) else
        (if k ≠ "seq" then true else nonEmptyT (r.getD 0 .none)))
  | _, _ => false
/-- the parts that are looked at -/
def partsD : PyData → List PyData
  | .tuple (.str k :: r) => if k = "seq" then (match r with
      | .tuple ps :: _ => ps.take 401
      | _ => []) else if k ∈ kNamed then r.drop 1 else if k = "try" ∨ k = "final" then r else []
  | _ => []
end Fc

set_option maxRecDepth 100000
set_option maxHeartbeats 4000000
namespace Fc
open PySem PySem.Spec PyProof.Rows L2 FcR
open Evl (Ex)
/-! ### what the laws of the second family draw by -/
/-- a source of draws, with at most so many mixed numbers -/
def SrcB (H : Hp) (p : Addr) (n : Nat) : Prop := ∃ x y z : Int, H p = some (.lst [.int x, .int y, .int z]) ∧ 0 ≤ y ∧ y < 2147483647 ∧ 0 ≤ z ∧ z ≤ (n : Int)
theorem SrcB.kp {H H' : Hp} {p : Addr} {n : Nat} (h : SrcB H p n) (e : ∀ o, H p = some o → H' p = some o) : SrcB H' p n := by
  obtain ⟨x, y, z, h, r⟩ := h
  exact ⟨x, y, z, e _ h, r⟩
theorem SrcB.up {H : Hp} {p : Addr} {n m : Nat} (h : SrcB H p n) (e : n ≤ m) : SrcB H p m := by
  obtain ⟨x, y, z, h, a, b, c, d⟩ := h
  exact ⟨x, y, z, h, a, b, c, by omega⟩
theorem gr_kp {F H H' : Hp} {p : Addr} (x : Ex F H) (f : F p = none) (k : ∀ b o, b ≠ p → H b = some o → H' b = some o) : Gr (fun b => b = p) F H F H' :=
  ⟨Evl.Ex.refl _, fun b o e => k b o (fun z => by rw [z, f] at e; cases e) (x b o e), fun _ _ e _ => e, fun b o e n => k b o n e⟩
def sp_choiceB (K : PySem.W.Frag) : Sp := fun vs H Q _ => ∃ (p a : Addr) (n : Nat) (xs : List V), vs = [.ref p, .ref a] ∧ SrcB H p n ∧ n ≤ 1000000000 ∧ H a = some (.lst xs) ∧ a ≠ p ∧ xs ≠ [] ∧ xs.length < 1000 ∧
  ∀ (H' : Hp) (x : V), x ∈ xs → SrcB H' p (n + 1) → (∀ b o, b ≠ p → H b = some o → H' b = some o) → Q x H'
def nmB : List Str := ["a", "b", "x", "y", "loop", "zzzzzzzz", "do", "final"]
def sp_nameB : Sp := fun vs H Q _ => ∃ (p : Addr) (n : Nat), vs = [.ref p] ∧ SrcB H p n ∧ n ≤ 1000000000 ∧
  ∀ (H' : Hp) (x : Str), x ∈ nmB → SrcB H' p (n + 1) → (∀ b o, b ≠ p → H b = some o → H' b = some o) → Q (.str x) H'
def sp_cellB (K : PySem.W.Frag) : Sp := fun vs H Q _ => ∃ (a : Addr) (ns : List Int) (k : Nat), vs = [.ref a, .int (k : Int)] ∧ SqL K H a (ns.map V.int) ∧ Q (.int (ns.getD k 0)) H
def sp_sourceB : Sp := fun vs H Q _ => ∃ c : Int, vs = [.int c] ∧ ∀ (p : Addr) (H' : Hp), H p = none → Ex H H' → SrcB H' p 0 → (∀ b, b ≠ p → H' b = H b) → Q (.ref p) H'
def sp_drawB : Sp := fun vs H Q _ => ∃ (p : Addr) (n : Nat) (m : Int), vs = [.ref p, .int m] ∧ SrcB H p n ∧ n ≤ 1000000000 ∧ 0 < m ∧ m < 1073741824 ∧
  ∀ (v : Int) (H' : Hp), 0 ≤ v → v < m → SrcB H' p (n + 1) → (∀ b o, b ≠ p → H b = some o → H' b = some o) → Q (.int v) H'
section
variable {P : Program} {w : World} {h : Heap} {K : PySem.W.Frag} {mg : Str → Option Value} {base : Heap}
abbrev N_law_cell_at : List Str := ["_law_script", "_law_index"]
theorem sc_law_cell_at : FnScope N_law_cell_at ["_law_script", "_law_index"] (defScope sd_law_cell_at) := ⟨rfl, rfl, rfl, by decide +kernel, rfl, by decide +kernel, by decide +kernel⟩
theorem ok_law_cell_at (T : Tx w h K mg) : Ok P w K mg base 1 ("_law_cell_at", none) ["_law_script", "_law_index"] (sp_cellB K) := by
  obtain ⟨fd, F⟩ := F_law_cell_at T
  refine ⟨fd, ?_, F.bindsN (fun _ _ _ _ _ _ us hl => match us, hl with | [_, _], _ => rfl), F.kp⟩
  refine F.ok sc_law_cell_at (fun vs H Q E h => ?_) (fun cdv A outer s H vs Q E hr h => ?_)
  · obtain ⟨a, ns, k, rfl, hs, q⟩ := h
    rfl
  · obtain ⟨a, ns, k, rfl, hs, q⟩ := h
    refine ⟨_, PSs.nox (pss_cons (ps_if (pt_cmpR op_lt (pv 1) (pe_callB call_len_seq rfl (fr_len T) b_len (pa_cons (pv 0) pa_nil)) (nomark _)) (pss_one (ps_ret (pe_ix ix_list (pv 0) (pv 1) (fun _ _ => rfl)))) pss_nil) (pss_one (ps_ret pe_int))), ?_⟩
    refine ⟨_, rfl, _, rfl, a, _, rfl, .inl hs, _, _, rfl, rfl, _, rfl, ite_of (fun h1 => ?_) (fun h1 => ?_)⟩
    · have hk : k < ns.length := by
        have := of_decide_eq_true h1
        rw [List.length_map] at this
        omega
      refine ⟨_, rfl, _, rfl, a, _, _, .int (ns.getD k 0), rfl, rfl, hs, atI_nat ?_, q⟩
      rw [List.getElem?_map, List.getD_eq_getElem?_getD, List.getElem?_eq_getElem hk] <;> rfl
    · have hk : ns.length ≤ k := by
        have := of_decide_eq_false h1
        rw [List.length_map] at this
        omega
      have e : ns.getD k 0 = 0 := by rw [List.getD_eq_getElem?_getD, List.getElem?_eq_none hk] <;> rfl
      rw [e] at q
      exact q
abbrev N_law_source : List Str := ["_law_cell"]
theorem sc_law_source : FnScope N_law_source ["_law_cell"] (defScope sd_law_source) := ⟨rfl, rfl, rfl, by decide +kernel, rfl, by decide +kernel, by decide +kernel⟩
theorem ok_law_source (T : Tx w h K mg) : Ok P w K mg base 1 ("_law_source", none) ["_law_cell"] (sp_sourceB) := by
  obtain ⟨fd, F⟩ := F_law_source T
  refine ⟨fd, ?_, F.bindsN (fun _ _ _ _ _ _ us hl => match us, hl with | [_], _ => rfl), F.kp⟩
  refine F.ok sc_law_source (fun vs H Q E h => ?_) (fun cdv A outer s H vs Q E hr h => ?_)
  · obtain ⟨c, rfl, q⟩ := h
    rfl
  · obtain ⟨c, rfl, q⟩ := h
    refine ⟨_, PSs.nox (pss_one (ps_ret (pe_lst (pa_cons (pe_op op_mul (pv 0) (pe_callTy call_int1 rfl (fr_int T) b_int (pa_cons (pe_cmpR op_ge (pv 0) (pe_op op_pow pe_int pe_int) (nomark _)) pa_nil))) (pa_cons (pe_op op_mod (pe_callTy call_int1 rfl (fr_int T) b_int (pa_cons (pv 0) pa_nil)) pe_int) (pa_cons pe_int pa_nil)))))), ?_⟩
    refine ⟨_, rfl, _, rfl, _, _, rfl, rfl, (by unfold CPow; decide), _, _, rfl, rfl, .inr ⟨_, rfl, _, _, rfl, rfl, ?_, _, rfl, .inl ⟨_, rfl, _, _, rfl, rfl, (by first | (show (0 : Int) < _; decide) | (show (0 : Int) < _ ∧ _ < (1073741824 : Int); decide)), sz (by simp), ?_⟩⟩⟩
    · refine .inr ?_
      by_cases h1 : decide ((10 : Int) ^ (18 : Int).toNat ≤ c) = true
      · rw [if_pos h1] <;> decide
      · rw [if_neg h1] <;> decide
    · intro p1 n1
      generalize e1 : upd _ p1 _ = H1
      obtain ⟨x1, s1, o1⟩ := new_of e1 n1
      clear e1
      exact q p1 H1 n1 x1 ⟨_, _, _, s1, Int.emod_nonneg _ (by decide), Int.emod_lt_of_pos _ (by decide), Int.le_refl _, Int.le_refl _⟩ o1
abbrev N_law_draw : List Str := ["_law_source_here", "_law_bound", "_law_result", "_law_prime", "_law_mixed"]
theorem sc_law_draw : FnScope N_law_draw ["_law_source_here", "_law_bound"] (defScope sd_law_draw) := ⟨rfl, rfl, rfl, by decide +kernel, rfl, by decide +kernel, by decide +kernel⟩
theorem ok_law_draw (T : Tx w h K mg) : Ok P w K mg base 1 ("_law_draw", none) ["_law_source_here", "_law_bound"] (sp_drawB) := by
  obtain ⟨fd, F⟩ := F_law_draw T
  refine ⟨fd, ?_, F.bindsN (fun _ _ _ _ _ _ us hl => match us, hl with | [_, _], _ => rfl), F.kp⟩
  refine F.ok sc_law_draw (fun vs H Q E h => ?_) (fun cdv A outer s H vs Q E hr h => ?_)
  · obtain ⟨p, n, m, rfl, ⟨x, y, z, hp, y0, y1, z0, z1⟩, hn, h1, h2, q⟩ := h
    rfl
  · obtain ⟨p, n, m, rfl, ⟨x, y, z, hp, y0, y1, z0, z1⟩, hn, h1, h2, q⟩ := h
    refine ⟨_, PSs.nox (pss_cons (ps_if (pt_cmpR op_gt (pe_ix ix_list (pv 0) pe_int (fun _ _ => rfl)) pe_int (nomark _)) (pss_cons (ps_set (i := 2) sc_law_draw.nd rfl (Or.inl rfl) (pe_op op_mod (pe_callTy call_int1 rfl (fr_int T) b_int (pa_cons (pe_ix ix_list (pv 0) pe_int (fun _ _ => rfl)) pa_nil)) (pv 1))) (pss_cons (ps_asg (pe_op op_fdiv (pe_ix ix_list (pv 0) pe_int (fun _ _ => rfl)) (pv 1)) (pg_sub (pv 0) pe_int set_list)) (pss_one (ps_ret (pv 2))))) pss_nil) (pss_cons (ps_asg (pe_op op_add (pe_ix ix_list (pv 0) pe_int (fun _ _ => rfl)) pe_int) (pg_sub (pv 0) pe_int set_list)) (pss_cons (ps_set (i := 3) sc_law_draw.nd rfl (Or.inl rfl) (pe_ix ix_list (pe_lst (pa_cons pe_int (pa_cons pe_int (pa_cons pe_int (pa_cons pe_int (pa_cons pe_int pa_nil)))))) (pe_op op_mod (pe_callTy call_int1 rfl (fr_int T) b_int (pa_cons (pe_ix ix_list (pv 0) pe_int (fun _ _ => rfl)) pa_nil)) pe_int) (fun _ _ => rfl))) (pss_cons (ps_set (i := 4) sc_law_draw.nd rfl (Or.inl rfl) (pe_op op_mod (pe_callTy call_int1 rfl (fr_int T) b_int (pa_cons (pe_op op_pow (pe_op op_add (pe_op op_add (pe_ix ix_list (pv 0) pe_int (fun _ _ => rfl)) (pe_op op_mul pe_int (pe_ix ix_list (pv 0) pe_int (fun _ _ => rfl)))) pe_int) pe_int) pa_nil)) (pv 3))) (pss_cons (ps_set (i := 4) sc_law_draw.nd rfl (Or.inl rfl) (pe_op op_mod (pe_callTy call_int1 rfl (fr_int T) b_int (pa_cons (pe_op op_mul (pe_op op_add (pv 4) (pe_ix ix_list (pv 0) pe_int (fun _ _ => rfl))) (pe_op op_add (pe_op op_fdiv (pv 4) pe_int) pe_int)) pa_nil)) (pv 3))) (pss_cons (ps_set (i := 4) sc_law_draw.nd rfl (Or.inl rfl) (pe_op op_mod (pe_callTy call_int1 rfl (fr_int T) b_int (pa_cons (pe_op op_mul (pv 4) (pe_op op_add (pe_op op_add (pe_op op_fdiv (pv 4) pe_int) pe_int) (pe_ix ix_list (pv 0) pe_int (fun _ _ => rfl)))) pa_nil)) pe_int)) (pss_one (ps_ret (pe_op op_mod (pe_callTy call_int1 rfl (fr_int T) b_int (pa_cons (pe_op op_fdiv (pv 4) pe_int) pa_nil)) (pv 1)))))))))), ?_⟩
    have hs := Evl.sq_of (K := K) hp
    refine ⟨_, rfl, p, _, _, _, rfl, rfl, hs, rfl, _, _, rfl, rfl, _, rfl, ite_of (fun h3 => ?_) (fun h3 => ?_)⟩
    · refine ⟨_, rfl, p, _, _, _, rfl, rfl, hs, rfl, .inl ⟨_, rfl, _, rfl, _, _, rfl, rfl, h1, ?_⟩⟩
      refine ⟨_, rfl, p, _, _, _, rfl, rfl, hs, rfl, _, rfl, _, _, rfl, rfl, ⟨h1, h2⟩, _, rfl, p, _, _, 0, rfl, rfl, hp, rfl, ?_⟩
      exact ⟨_, rfl, q _ _ (Int.emod_nonneg _ (by omega)) (Int.emod_lt_of_pos _ h1) ⟨_, _, _, upd_same, y0, y1, z0, by omega⟩ fun b o hb e => by rw [upd_ne hb]; exact e⟩
    · refine ⟨_, rfl, p, _, _, _, rfl, rfl, hs, rfl, _, _, rfl, rfl, _, rfl, p, _, _, 2, rfl, rfl, hp, rfl, ?_⟩
      have hs2 := Evl.sq_of (K := K) (upd_same (H := H) (a := p) (o := .lst [.int x, .int y, .int (z + 1)]))
      refine ⟨sz (by simp), ?_⟩
      have hu : upd H p (.lst [.int x, .int y, .int (z + 1)]) p = some (.lst [.int x, .int y, .int (z + 1)]) := upd_same
      have ou : ∀ b, b ≠ p → upd H p (.lst [.int x, .int y, .int (z + 1)]) b = H b := fun b hb => upd_ne hb
      have e3 : upd H p (.lst ([V.int x, V.int y, V.int z].set 2 ((fun i j => V.int (i + j)) z 1))) = upd H p (.lst [.int x, .int y, .int (z + 1)]) := rfl
      rw [e3]
      generalize upd H p (.lst [.int x, .int y, .int (z + 1)]) = H3 at hs2 hu ou
      intro p4 n4
      generalize e4 : upd _ p4 _ = H4
      obtain ⟨x4, s4, o4⟩ := new_of e4 n4
      clear e4
      have hs4 := Evl.sq_of (K := K) (x4 _ _ hu)
      have i0 := Int.emod_nonneg (z + 1) (show (5 : Int) ≠ 0 by decide)
      have i1 := Int.emod_lt_of_pos (z + 1) (show (0 : Int) < 5 by decide)
      obtain ⟨j, hj⟩ : ∃ j : Nat, (z + 1) % 5 = (j : Int) := ⟨((z + 1) % 5).toNat, by omega⟩
      obtain ⟨pr, hpr, pr0, pr1⟩ : ∃ pr : Int, [V.int 2147483629, .int 2147483587, .int 2147483579, .int 2147483563, .int 2147483549][j]? = some (.int pr) ∧ 0 < pr ∧ pr < 2147483648 := by
        have : j = 0 ∨ j = 1 ∨ j = 2 ∨ j = 3 ∨ j = 4 := by omega
        rcases this with rfl | rfl | rfl | rfl | rfl <;> exact ⟨_, rfl, by decide, by decide⟩
      refine ⟨_, rfl, p, _, _, _, rfl, rfl, hs4, rfl, .inl ⟨_, rfl, _, _, rfl, rfl, (show (0 : Int) < 5 by decide), ?_⟩⟩
      refine ⟨p4, _, (j : Int), .int pr, rfl, congrArg V.int hj, Evl.sq_of s4, atI_nat hpr, ?_⟩
      refine ⟨_, rfl, p, _, _, _, rfl, rfl, hs4, rfl, _, rfl, p, _, _, _, rfl, rfl, hs4, rfl, _, _, rfl, rfl, .inl (by show (-(2 ^ 64) < (5413 : Int) ∧ (5413 : Int) < 2 ^ 64); decide), _, _, rfl, rfl, _, _, rfl, rfl, _, _, rfl, rfl, ⟨by decide, by decide, by show (y + 5413 * (z + 1) + 23).natAbs < 2 ^ 64; omega⟩, .inl ⟨_, rfl, _, rfl, _, _, rfl, rfl, pr0, ?_⟩⟩
      generalize (y + 5413 * (z + 1) + 23) ^ (3 : Int).toNat = r1
      have b1 := Int.emod_nonneg r1 (show pr ≠ 0 by omega)
      have b2 := Int.emod_lt_of_pos r1 pr0
      refine ⟨_, rfl, _, rfl, p, _, _, _, rfl, rfl, hs4, rfl, _, _, rfl, rfl, _, rfl, _, _, rfl, rfl, (by first | (show (0 : Int) < _; decide) | (show (0 : Int) < _ ∧ _ < (1073741824 : Int); decide)), _, _, rfl, rfl, _, _, rfl, rfl, .inr ?_, .inl ⟨_, rfl, _, rfl, _, _, rfl, rfl, pr0, ?_⟩⟩
      · have : r1 % pr / 1013 ≤ r1 % pr := Int.ediv_le_self _ b1
        have : 0 ≤ r1 % pr / 1013 := Int.ediv_nonneg b1 (by decide)
        constructor <;> omega
      generalize (r1 % pr + (z + 1)) * (r1 % pr / 1013 + 69001) = r2
      have b3 := Int.emod_nonneg r2 (show pr ≠ 0 by omega)
      have b4 := Int.emod_lt_of_pos r2 pr0
      refine ⟨_, rfl, _, rfl, _, _, rfl, rfl, (by first | (show (0 : Int) < _; decide) | (show (0 : Int) < _ ∧ _ < (1073741824 : Int); decide)), _, _, rfl, rfl, _, rfl, p, _, _, _, rfl, rfl, hs4, rfl, _, _, rfl, rfl, _, _, rfl, rfl, .inl (by constructor <;> omega), .inl ⟨_, rfl, _, _, rfl, rfl, (by first | (show (0 : Int) < _; decide) | (show (0 : Int) < _ ∧ _ < (1073741824 : Int); decide)), ?_⟩⟩
      refine ⟨_, rfl, _, _, rfl, rfl, (by first | (show (0 : Int) < _; decide) | (show (0 : Int) < _ ∧ _ < (1073741824 : Int); decide)), .inl ⟨_, rfl, _, rfl, _, _, rfl, rfl, h1, ?_⟩⟩
      exact q _ _ (Int.emod_nonneg _ (by omega)) (Int.emod_lt_of_pos _ h1) ⟨_, _, _, x4 _ _ hu, y0, y1, by omega, by omega⟩ fun b o hb e => x4 _ _ (by rw [ou b hb]; exact e)
abbrev N_law_choice : List Str := ["_law_source_here", "_law_items"]
theorem sc_law_choice : FnScope N_law_choice ["_law_source_here", "_law_items"] (defScope sd_law_choice) := ⟨rfl, rfl, rfl, by decide +kernel, rfl, by decide +kernel, by decide +kernel⟩
theorem ok_law_choice (T : Tx w h K mg) : Ok P w K mg base 2 ("_law_choice", none) ["_law_source_here", "_law_items"] (sp_choiceB K) := by
  obtain ⟨fd, F⟩ := F_law_choice T
  refine ⟨fd, ?_, F.bindsN (fun _ _ _ _ _ _ us hl => match us, hl with | [_, _], _ => rfl), F.kp⟩
  obtain ⟨fd_law_draw, G_law_draw, bi_law_draw, kp_law_draw⟩ := ok_law_draw (P := P) (base := base) T
  refine F.ok sc_law_choice (fun vs H Q E h => ?_) (fun cdv A outer s H vs Q E hr h => ?_)
  · obtain ⟨p, a, n, xs, rfl, hp, hn, ha, hne, hk, hl, q⟩ := h
    rfl
  · obtain ⟨p, a, n, xs, rfl, hp, hn, ha, hne, hk, hl, q⟩ := h
    refine ⟨_, PSs.nox (pss_one (ps_ret (pe_ix ix_list (pv 1) (pe_call G_law_draw (hr.mono (by decide)) rfl (g_law_draw T) kp_law_draw bi_law_draw .nil passF (pa_cons (pv 0) (pa_cons (pe_callB call_len_seq rfl (fr_len T) b_len (pa_cons (pv 1) pa_nil)) pa_nil))) (fun _ _ => rfl)))), ?_⟩
    have lk : 0 < xs.length := List.length_pos_iff.mpr hk
    refine ⟨_, rfl, _, rfl, _, rfl, a, _, rfl, .inl (Evl.sq_of ha), ?_⟩
    refine ⟨p, n, _, rfl, hp, hn, (by omega), (by omega), fun v H1 v0 v1 s1 o1 => ?_⟩
    obtain ⟨j, rfl⟩ : ∃ j : Nat, v = (j : Int) := ⟨v.toNat, by omega⟩
    have hj : j < xs.length := by omega
    refine ⟨a, _, _, xs[j], rfl, rfl, Evl.sq_of (o1 a _ hne ha), atI_nat (List.getElem?_eq_getElem hj), ?_⟩
    exact q H1 _ (List.getElem_mem hj) s1 o1
abbrev N_law_name : List Str := ["_law_source_here"]
theorem sc_law_name : FnScope N_law_name ["_law_source_here"] (defScope sd_law_name) := ⟨rfl, rfl, rfl, by decide +kernel, rfl, by decide +kernel, by decide +kernel⟩
theorem ok_law_name (T : Tx w h K mg) : Ok P w K mg base 3 ("_law_name", none) ["_law_source_here"] (sp_nameB) := by
  obtain ⟨fd, F⟩ := F_law_name T
  refine ⟨fd, ?_, F.bindsN (fun _ _ _ _ _ _ us hl => match us, hl with | [_], _ => rfl), F.kp⟩
  obtain ⟨fd_law_choice, G_law_choice, bi_law_choice, kp_law_choice⟩ := ok_law_choice (P := P) (base := base) T
  refine F.ok sc_law_name (fun vs H Q E h => ?_) (fun cdv A outer s H vs Q E hr h => ?_)
  · obtain ⟨p, n, rfl, hp, hn, q⟩ := h
    rfl
  · obtain ⟨p, n, rfl, hp, hn, q⟩ := h
    refine ⟨_, PSs.nox (pss_one (ps_ret (pe_call G_law_choice (hr.mono (by decide)) rfl (g_law_choice T) kp_law_choice bi_law_choice .nil passF (pa_cons (pv 0) (pa_cons (pe_lst (pa_cons pe_str (pa_cons pe_str (pa_cons pe_str (pa_cons pe_str (pa_cons pe_str (pa_cons pe_str (pa_cons pe_str (pa_cons pe_str pa_nil))))))))) pa_nil))))), ?_⟩
    refine ⟨_, rfl, sz (by simp), ?_⟩
    intro p1 n1
    generalize e1 : upd _ p1 _ = H1
    obtain ⟨x1, s1, o1⟩ := new_of e1 n1
    clear e1
    have pn : p1 ≠ p := fun z => by obtain ⟨_, _, _, h, _⟩ := hp; rw [z, h] at n1; cases n1
    refine ⟨p, p1, n, nmB.map V.str, rfl, hp.kp fun o h => x1 _ _ h, hn, s1, pn, (by simp [nmB]), (by simp [nmB]), fun H2 x hx s2 o2 => ?_⟩
    obtain ⟨nm, hm, rfl⟩ := List.mem_map.mp hx
    exact q H2 nm hm s2 fun b o hb e => o2 b o hb (x1 _ _ e)
end

end Fc

set_option maxRecDepth 100000
set_option maxHeartbeats 4000000
namespace Fc
open PySem PySem.Spec PyProof.Rows L2 FcR
open Evl (Ex)
def sp_is_integer (K : PySem.W.Frag) : Sp := fun vs H Q _ => ∃ (v : V) (t : Value) (b1 b2 : Bool), vs = [v] ∧ TyX K H v t ∧ PySem.W.kitOne K t (.type "int") = some b1 ∧ PySem.W.kitOne K t (.type "bool") = some b2 ∧ Q (.bl (b1 && !b2)) H
def sp_is_between (K : PySem.W.Frag) : Sp := fun vs H Q _ => ∃ (v : V) (i j : Int), vs = [v, .int i, .int j] ∧
  ((∃ n, v = .int n ∧ Q (.bl (decide (i ≤ n) && decide (n ≤ j))) H) ∨ (∃ t b1 b2, TyX K H v t ∧ PySem.W.kitOne K t (.type "int") = some b1 ∧ PySem.W.kitOne K t (.type "bool") = some b2 ∧ (b1 && !b2) = false ∧ Q (.bl false) H))
theorem k_ii {K : PySem.W.Frag} : PySem.W.kitOne K (.type "int") (.type "int") = some true := kit_ty (by decide +kernel)
theorem k_ib {K : PySem.W.Frag} : PySem.W.kitOne K (.type "int") (.type "bool") = some false := kit_ty (by decide +kernel)
section
variable {P : Program} {w : World} {h : Heap} {K : PySem.W.Frag} {mg : Str → Option Value} {base : Heap}
abbrev N_is_integer : List Str := ["value"]
theorem sc_is_integer : FnScope N_is_integer ["value"] (defScope sd_is_integer) := ⟨rfl, rfl, rfl, by decide +kernel, rfl, by decide +kernel, by decide +kernel⟩
theorem ok_is_integer (T : Tx w h K mg) : Ok P w K mg base 1 ("is_integer", none) ["value"] (sp_is_integer K) := by
  obtain ⟨fd, F⟩ := F_is_integer T
  refine ⟨fd, ?_, F.bindsN (fun _ _ _ _ _ _ us hl => match us, hl with | [_], _ => rfl), F.kp⟩
  refine F.ok sc_is_integer (fun vs H Q E h => ?_) (fun cdv A outer s H vs Q E hr h => ?_)
  · obtain ⟨v, t, b1, b2, rfl, ty, k1, k2, q⟩ := h
    rfl
  · obtain ⟨v, t, b1, b2, rfl, ty, k1, k2, q⟩ := h
    refine ⟨_, PSs.nox (pss_one (ps_ret (pe_and (pe_callB call_isi rfl (fr_isinstance T) b_isinstance (pa_cons (pv 0) (pa_cons (pe_bltn (v := .ty "int") rfl (fr_int T) b_int rfl) pa_nil))) (pe_one (pe_not (pe_callB call_isi rfl (fr_isinstance T) b_isinstance (pa_cons (pv 0) (pa_cons (pe_bltn (v := .ty "bool") rfl (fr_bool T) b_bool rfl) pa_nil)))))))), ?_⟩
    refine ⟨_, rfl, v, .ty "int", t, _, b1, rfl, .ty _, ty, k1, _, rfl, ite_of (fun h1 => ?_) (fun h1 => ?_)⟩
    · subst h1
      exact ⟨_, rfl, v, .ty "bool", t, _, b2, rfl, .ty _, ty, k2, _, rfl, q⟩
    · subst h1
      exact q
abbrev N_is_between : List Str := ["value", "low", "high"]
theorem sc_is_between : FnScope N_is_between ["value", "low", "high"] (defScope sd_is_between) := ⟨rfl, rfl, rfl, by decide +kernel, rfl, by decide +kernel, by decide +kernel⟩
theorem ok_is_between (T : Tx w h K mg) : Ok P w K mg base 2 ("is_between", none) ["value", "low", "high"] (sp_is_between K) := by
  obtain ⟨fd, F⟩ := F_is_between T
  refine ⟨fd, ?_, F.bindsN (fun _ _ _ _ _ _ us hl => match us, hl with | [_, _, _], _ => rfl), F.kp⟩
  obtain ⟨fd_is_integer, G_is_integer, bi_is_integer, kp_is_integer⟩ := ok_is_integer (P := P) (base := base) T
  refine F.ok sc_is_between (fun vs H Q E h => ?_) (fun cdv A outer s H vs Q E hr h => ?_)
  · obtain ⟨v, i, j, rfl, q⟩ := h
    rfl
  · obtain ⟨v, i, j, rfl, q⟩ := h
    refine ⟨_, PSs.nox (pss_one (ps_ret (pe_and (pe_call G_is_integer (hr.mono (by decide)) rfl (g_is_integer T) kp_is_integer bi_is_integer .nil passF (pa_cons (pv 0) pa_nil)) (pe_one (pe_chain op_le op_le (pv 1) (pv 0) (pv 2)))))), ?_⟩
    rcases q with ⟨n, rfl, q⟩ | ⟨t, b1, b2, ty, k1, k2, hb, q⟩
    · refine ⟨_, rfl, .int n, .type "int", true, false, rfl, .base (.int n), k_ii, k_ib, _, rfl, itT rfl ?_⟩
      refine ⟨_, rfl, _, rfl, _, _, rfl, rfl, _, rfl, ite_of (fun h1 => ?_) (fun h1 => ?_)⟩
      · refine ⟨_, rfl, _, _, rfl, rfl, ?_⟩
        rw [h1] at q
        exact q
      · rw [h1] at q
        exact q
    · refine ⟨_, rfl, v, t, b1, b2, rfl, ty, k1, k2, _, rfl, itF hb q⟩
end

end Fc

set_option maxRecDepth 100000
set_option maxHeartbeats 4000000
namespace Fc
open PySem PySem.Spec PyProof.Rows L2 FcR
open Evl (Ex)
/-! ### names -/
def sp_is_name (K : PySem.W.Frag) : Sp := fun vs H Q _ => ∃ (v : V) (d : PyData), vs = [v] ∧ Dp K H v d ∧ (∀ x, d = .str x → x.length ≤ 100000) ∧ ∀ H', Ex H H' → Q (.bl (isName d)) H'
theorem take_one {α : Type} {l : List α} {i : Nat} {x : α} (h : l[i]? = some x) : l.take (i + 1) = l.take i ++ [x] := by
  rw [List.take_add_one, h] <;> rfl
section
variable {P : Program} {w : World} {h : Heap} {K : PySem.W.Frag} {mg : Str → Option Value} {base : Heap}
abbrev N_is_name : List Str := ["value", "sign"]
theorem sc_is_name : FnScope N_is_name ["value"] (defScope sd_is_name) := ⟨rfl, rfl, rfl, by decide +kernel, rfl, by decide +kernel, by decide +kernel⟩
theorem ok_is_name (T : Tx w h K mg) : Ok P w K mg base 1 ("is_name", none) ["value"] (sp_is_name K) := by
  obtain ⟨fd, F⟩ := F_is_name T
  refine ⟨fd, ?_, F.bindsN (fun _ _ _ _ _ _ us hl => match us, hl with | [_], _ => rfl), F.kp⟩
  obtain ⟨tm_LETTERS_code, m_LETTERS_code⟩ := i_LETTERS_code T
  obtain ⟨tm_MOST_LETTERS_code, m_MOST_LETTERS_code⟩ := i_MOST_LETTERS_code T
  refine F.ok sc_is_name (fun vs H Q E h => ?_) (fun cdv A outer s H vs Q E hr h => ?_)
  · obtain ⟨v, d, rfl, hd, hl, q⟩ := h
    rfl
  · obtain ⟨v, d, rfl, hd, hl, q⟩ := h
    refine ⟨_, PSs.nox (pss_one (ps_ret (pe_and (pe_callB call_isi rfl (fr_isinstance T) b_isinstance (pa_cons (pv 0) (pa_cons (pe_bltn (v := .ty "str") rfl (fr_str T) b_str rfl) pa_nil))) (pe_and (pe_chain op_le op_le pe_int (pe_callB call_len_str rfl (fr_len T) b_len (pa_cons (pv 0) pa_nil)) (pe_glob (v := .int 8) rfl m_MOST_LETTERS_code ⟨_, rfl⟩)) (pe_one (pe_callB (cr_all rfl) rfl (fr_all T) b_all (pa_cons (pe_lc (own := [("sign", 1)]) rfl sc_is_name.nd (pi_str (pv 0)) (blkOk_by (N := N_is_name) (sc := defScope sd_is_name) (by decide +kernel)) (fun _ _ _ _ _ => (pg_name (i := 1) sc_is_name.nd rfl (Or.inl rfl))) (fun _ _ _ _ _ => pts_nil) (fun _ _ _ _ _ => (pe_cmpR op_in_sign (pv 1) (pe_glob (v := .str "abcdefghijklmnopqrstuvwxyz") rfl m_LETTERS_code ⟨_, rfl⟩) (by rfl)))) pa_nil))))))), ?_⟩
    refine ⟨_, rfl, v, .ty "str", _, _, _, rfl, .ty _, dp_ty hd, k_str d, _, rfl, ite_of (fun h1 => ?_) (fun h1 => ?_)⟩
    · obtain ⟨x, rfl⟩ : ∃ x, d = .str x := by cases d <;> first | exact ⟨_, rfl⟩ | cases h1
      obtain rfl := dp_str hd
      have hx := hl x rfl
      have e1 : isName (.str x) = ((decide ((1 : Int) ≤ x.length) && decide ((x.length : Int) ≤ 8)) && x.cps.toList.all fun c => decide (c ∈ letters)) := rfl
      rw [e1] at q
      refine ⟨_, rfl, x, rfl, sz hx, _, _, rfl, rfl, _, rfl, ite_of (fun h2 => ?_) (fun h2 => ?_)⟩
      · refine ⟨_, _, rfl, rfl, _, rfl, ite_of (fun h3 => ?_) (fun h3 => ?_)⟩
        · refine ⟨_, rfl, x, rfl, fun D hD => lc_it walk_str (fun i H' => Ex H H' ∧ H' D = some (.lst ((x.cps.toList.take i).map fun c => V.bl (decide (c ∈ letters))))) ?_ (fun _ _ _ _ => True.intro) ?_ ?_⟩
          · exact ⟨exu (Evl.Ex.refl H) hD, upd_same⟩
          · rintro i y H1 H2 hi ⟨k1, k2⟩ ⟨rfl, c, hc, rfl⟩
            refine ⟨rfl, ?_⟩
            refine ⟨_, rfl, c, _, rfl, rfl, _, k2, szl ?_, exm k1 hD, ?_⟩
            · have e2 : x.cps.size = x.length := rfl
              rw [List.length_map, List.length_take]
              omega
            · have hc' : x.cps.toList[i]? = some c := by simpa using hc
              rw [take_one hc', List.map_append, upd_same] <;> rfl
          · rintro H1 ⟨k1, k2⟩
            refine ⟨D, x.cps.toList.map fun c => decide (c ∈ letters), rfl, Evl.sq_of ?_, ?_⟩
            · have e4 : x.cps.size = x.cps.toList.length := by simp
              rw [k2, e4, List.take_length, List.map_map] <;> rfl
            · rw [h2, h3] at q
              have e3 : ((x.cps.toList.map fun c => decide (c ∈ letters)).all id) = x.cps.toList.all fun c => decide (c ∈ letters) := by simp [List.all_map]
              rw [e3]
              exact q H1 k1
        · rw [h2, h3] at q
          exact q H (Evl.Ex.refl H)
      · refine ⟨_, rfl, itF rfl ?_⟩
        rw [h2] at q
        exact q H (Evl.Ex.refl H)
    · have e : isName d = false := by cases d <;> first | rfl | cases h1
      rw [e] at q
      exact q H (Evl.Ex.refl H)
end

end Fc

set_option maxRecDepth 100000
set_option maxHeartbeats 4000000
namespace Fc
open PySem PySem.Spec PyProof.Rows L2 FcR
open Evl (Ex)
/-! ### statements, whatever their parts are -/
theorem at0 {α : Type} {v : α} {r : List α} : atI (v :: r) 0 = some v := atI_nat (j := 0) rfl
theorem at1 {α : Type} {u v : α} {r : List α} : atI (u :: v :: r) 1 = some v := atI_nat (j := 1) rfl
theorem at2 {α : Type} {t u v : α} {r : List α} : atI (t :: u :: v :: r) 2 = some v := atI_nat (j := 2) rfl
def szD (d : PyData) : Prop := ∀ k x r, d = .tuple (k :: .str x :: r) → x.length ≤ 100000
def sp_is_statement (K : PySem.W.Frag) : Sp := fun vs H Q _ => ∃ (v : V) (d : PyData) (loops : Int), vs = [v, .int loops] ∧ Dp K H v d ∧ PyData.canLay0 d = true ∧ szD d ∧ ∀ H', Ex H H' → Q (.bl (isStm d loops)) H'
theorem eqv_nil (ds : List PyData) : PyData.eqv (.tuple ds) (.tuple []) = ds.isEmpty := by
  cases ds <;> simp [PyData.eqv, PyData.eqvAll]
theorem min_nil (d : PyData) : min d.depth (PyData.tuple []).depth ≤ 200 := Nat.le_trans (Nat.min_le_right _ _) (by decide)
theorem inV_strs (k : Str) (l : List Str) : inV (.str k) (l.map V.str) = decide (k ∈ l) := by
  unfold inV
  rw [List.any_map]
  induction l with
  | nil => rfl
  | cons a l ih =>
    rw [List.any_cons, ih]
    show ((a == k) || decide (k ∈ l)) = decide (k ∈ a :: l)
    by_cases h : a = k
    · subst h; simp
    · have h2 : (a == k) = false := by simpa using h
      have h3 : ¬ k = a := fun e => h e.symm
      simp [h2, h3]
theorem flat_strs (l : List Str) : (l.map V.str).all flatV = true := by
  rw [List.all_map]
  exact List.all_eq_true.mpr fun _ _ => rfl
theorem named_two {k : Str} {n : Int} (h : k ∈ kNamed) (e : kSizes.lookup k = some n) : 2 ≤ n := by
  simp only [kNamed, List.mem_cons, List.not_mem_nil, or_false] at h
  rcases h with rfl | rfl | rfl | rfl
  · have : kSizes.lookup ("do" : Str) = some 2 := by decide +kernel
    rw [this] at e; cases e; decide
  · have : kSizes.lookup ("call" : Str) = some 2 := by decide +kernel
    rw [this] at e; cases e; decide
  · have : kSizes.lookup ("if" : Str) = some 4 := by decide +kernel
    rw [this] at e; cases e; decide
  · have : kSizes.lookup ("while" : Str) = some 3 := by decide +kernel
    rw [this] at e; cases e; decide
theorem jumps_two {k : Str} {n : Int} (h : k ∈ kJumps) (e : kSizes.lookup k = some n) : n = 2 := by
  simp only [kJumps, List.mem_cons, List.not_mem_nil, or_false] at h
  rcases h with rfl | rfl
  · have : kSizes.lookup ("break" : Str) = some 2 := by decide +kernel
    rw [this] at e; cases e; rfl
  · have : kSizes.lookup ("continue" : Str) = some 2 := by decide +kernel
    rw [this] at e; cases e; rfl
theorem seq_two {n : Int} (e : kSizes.lookup ("seq" : Str) = some n) : n = 2 := by
  have : kSizes.lookup ("seq" : Str) = some 2 := by decide +kernel
  rw [this] at e; cases e; rfl
theorem lookup_mem {k : Str} {n : Int} : ∀ {l : List (Str × Int)}, l.lookup k = some n → (k, n) ∈ l
  | [], h => by cases h
  | (a, b) :: l, h => by
    rw [List.lookup_cons] at h
    by_cases e : k = a
    · subst e
      have e2 : (k == k) = true := by simp
      rw [e2] at h
      cases h
      exact List.mem_cons_self
    · have e2 : (k == a) = false := by simpa using e
      rw [e2] at h
      exact List.mem_cons_of_mem _ (lookup_mem h)
theorem lookup_none {k : Str} : ∀ {l : List (Str × Int)}, l.lookup k = none → k ∉ l.map (·.1)
  | [], _ => fun h => by cases h
  | (a, b) :: l, h => by
    rw [List.lookup_cons] at h
    by_cases e : k = a
    · subst e
      have e2 : (k == k) = true := by simp
      rw [e2] at h
      cases h
    · have e2 : (k == a) = false := by simpa using e
      rw [e2] at h
      intro m
      rcases List.mem_cons.mp m with m | m
      · exact e m
      · exact lookup_none h m
section
variable {P : Program} {w : World} {h : Heap} {K : PySem.W.Frag} {mg : Str → Option Value} {base : Heap}
theorem sizes_ns (T : Tx w h K mg) (k : Str) : ∃ r, PySem.W.nsIn K (He.ga K "SIZES") k = some r ∧ (match kSizes.lookup k with
    | none => r = none
    | some n => ∃ u, r = some u ∧ RelV (.int n) u) := by
  cases e : kSizes.lookup k with
  | none => exact ⟨none, ns_none (dk_SIZES T) (lookup_none e), rfl⟩
  | some n =>
    have m := lookup_mem e
    have m2 : (k, He.Dv.int n) ∈ ([("do", .int 2), ("call", .int 2), ("if", .int 4), ("while", .int 3), ("seq", .int 2), ("break", .int 2), ("continue", .int 2), ("return", .int 1), ("raise", .int 1), ("try", .int 3), ("final", .int 3)] : List (Str × He.Dv)) :=
      List.mem_map_of_mem (f := fun q : Str × Int => (q.1, He.Dv.int q.2)) m
    obtain ⟨u, e1, e2⟩ := v_SIZES T m2
    exact ⟨some u, e1, u, rfl, e2⟩
abbrev N_is_statement : List Str := ["value", "loops"]
theorem sc_is_statement : FnScope N_is_statement ["value", "loops"] (defScope sd_is_statement) := ⟨rfl, rfl, rfl, by decide +kernel, rfl, by decide +kernel, by decide +kernel⟩
theorem ok_is_statement (T : Tx w h K mg) : Ok P w K mg base 3 ("is_statement", none) ["value", "loops"] (sp_is_statement K) := by
  obtain ⟨fd, F⟩ := F_is_statement T
  refine ⟨fd, ?_, F.bindsN (fun _ _ _ _ _ _ us hl => match us, hl with | [_, _], _ => rfl), F.kp⟩
  obtain ⟨fd_is_between, G_is_between, bi_is_between, kp_is_between⟩ := ok_is_between (P := P) (base := base) T
  obtain ⟨fd_is_name, G_is_name, bi_is_name, kp_is_name⟩ := ok_is_name (P := P) (base := base) T
  obtain ⟨es, nE, D⟩ := d_SIZES T
  refine F.ok sc_is_statement (fun vs H Q E h => ?_) (fun cdv A outer s H vs Q E hr h => ?_)
  · obtain ⟨v, d, loops, rfl, hd, hc, hz, q⟩ := h
    rfl
  · obtain ⟨v, d, loops, rfl, hd, hc, hz, q⟩ := h
    refine ⟨_, PSs.nox (pss_cons (ps_if (PW.pt (pw_or (pt_not (pt_val (pe_callB call_isi rfl (fr_isinstance T) b_isinstance (pa_cons (pv 0) (pa_cons (pe_bltn (v := .ty "tuple") rfl (fr_tuple T) b_tuple rfl) pa_nil))))) (pw_or (pt_cmpR (op_eqM hr) (pv 0) (pe_tup pa_nil) (nomark _)) (pw_or1 (pt_not (pt_val (pe_callB call_isi rfl (fr_isinstance T) b_isinstance (pa_cons (pe_ix ix_tup (pv 0) pe_int (fun _ _ => rfl)) (pa_cons (pe_bltn (v := .ty "str") rfl (fr_str T) b_str rfl) pa_nil))))))))) (pss_one (ps_ret pe_bl)) pss_nil) (pss_cons (ps_if (PW.pt (pw_or (pt_cmpR (op_notIn_kd D) (pe_ix ix_tup (pv 0) pe_int (fun _ _ => rfl)) (pe_glob (v := .ref (He.ga K "SIZES")) rfl (g_SIZES T) rfl) (by rfl)) (pw_or1 (pt_cmpR op_ne (pe_callB call_len_seq rfl (fr_len T) b_len (pa_cons (pv 0) pa_nil)) (pe_ix ix_kdict (pe_glob (v := .ref (He.ga K "SIZES")) rfl (g_SIZES T) rfl) (pe_ix ix_tup (pv 0) pe_int (fun _ _ => rfl)) (fun _ _ => rfl)) (nomark _))))) (pss_one (ps_ret pe_bl)) pss_nil) (pss_cons (ps_if (pt_cmpR op_in_seq (pe_ix ix_tup (pv 0) pe_int (fun _ _ => rfl)) (pe_glob (v := .ref (He.ga K "NAMED")) rfl (g_NAMED T) rfl) (by rfl)) (pss_one (ps_ret (pe_call G_is_name (hr.mono (by decide)) rfl (g_is_name T) kp_is_name bi_is_name .nil passF (pa_cons (pe_ix ix_tup (pv 0) pe_int (fun _ _ => rfl)) pa_nil)))) pss_nil) (pss_cons (ps_if (pt_cmpR op_in_seq (pe_ix ix_tup (pv 0) pe_int (fun _ _ => rfl)) (pe_glob (v := .ref (He.ga K "JUMPS")) rfl (g_JUMPS T) rfl) (by rfl)) (pss_one (ps_ret (pe_call G_is_between (hr.mono (by decide)) rfl (g_is_between T) kp_is_between bi_is_between .nil passF (pa_cons (pe_ix ix_tup (pv 0) pe_int (fun _ _ => rfl)) (pa_cons pe_int (pa_cons (pv 1) pa_nil)))))) pss_nil) (pss_one (ps_ret (pe_or (pe_cmpR op_ne (pe_ix ix_tup (pv 0) pe_int (fun _ _ => rfl)) pe_str (nomark _)) (pe_one (pe_and (pe_callB call_isi rfl (fr_isinstance T) b_isinstance (pa_cons (pe_ix ix_tup (pv 0) pe_int (fun _ _ => rfl)) (pa_cons (pe_bltn (v := .ty "tuple") rfl (fr_tuple T) b_tuple rfl) pa_nil))) (pe_one (pe_cmpR (op_neM hr) (pe_ix ix_tup (pv 0) pe_int (fun _ _ => rfl)) (pe_tup pa_nil) (nomark _)))))))))))), ?_⟩
    refine ⟨_, rfl, v, .ty "tuple", _, _, _, rfl, .ty _, dp_ty hd, k_tuple d, _, rfl, ite_of (fun h1 => ?_) (fun h1 => ?_)⟩
    · have e : isStm d loops = false := by cases d <;> first | rfl | cases h1
      rw [e] at q
      exact q H (Evl.Ex.refl H)
    obtain ⟨ds, rfl⟩ : ∃ ds, d = .tuple ds := by cases d <;> first | exact ⟨_, rfl⟩ | cases h1
    obtain ⟨a, xs, rfl, hS, hA⟩ := dp_tup hd
    -- value == ()
    refine ⟨_, rfl, sz (by decide), fun p hp => ?_⟩
    have x1 : Ex H (upd H p (.tup [])) := exu (Evl.Ex.refl H) hp
    refine ⟨.tuple ds, .tuple [], dp_ex x1 hd, .tup (Evl.st_of upd_same) .nil, hc, rfl, min_nil _, _, rfl, ite_of (fun h2 => ?_) (fun h2 => ?_)⟩
    · rw [eqv_nil] at h2
      cases ds with
      | nil => exact q _ x1
      | cons _ _ => cases h2
    rw [eqv_nil] at h2
    cases hA with
    | nil => cases h2
    | @cons v0 xr d0 dr h0 hA =>
    have hS1 := Evl.ex_t x1 hS
    -- not isinstance(value[0], str)
    refine ⟨_, rfl, a, _, _, _, rfl, rfl, hS1, at0, v0, .ty "str", _, _, _, rfl, .ty _, dp_ty (dp_ex x1 h0), k_str d0, _, rfl, ite_of (fun h3 => ?_) (fun h3 => ?_)⟩
    · have e : isStm (.tuple (d0 :: dr)) loops = false := by cases d0 <;> first | rfl | cases h3
      rw [e] at q
      exact q _ x1
    obtain ⟨k, rfl⟩ : ∃ k, d0 = .str k := by cases d0 <;> first | exact ⟨_, rfl⟩ | cases h3
    obtain rfl := dp_str h0
    have el := dpA_len hA
    obtain ⟨r, n1, n2⟩ := sizes_ns T k
    -- value[0] not in SIZES
    refine ⟨_, rfl, a, _, _, _, rfl, rfl, hS1, at0, k, r, rfl, rfl, n1, _, rfl, ite_of (fun h4 => ?_) (fun h4 => ?_)⟩
    · have e : isStm (.tuple (.str k :: dr)) loops = false := by
        cases e1 : kSizes.lookup k with
        | none => simp only [isStm, e1]
        | some n =>
          rw [e1] at n2
          obtain ⟨u, rfl, _⟩ := n2
          cases h4
      rw [e] at q
      exact q _ x1
    cases e1 : kSizes.lookup k with
    | none =>
      rw [e1] at n2
      subst n2
      cases h4
    | some n =>
    rw [e1] at n2
    obtain ⟨u, rfl, ru⟩ := n2
    have q' : ∀ b, (isStm (.tuple (.str k :: dr)) loops = b) → ∀ H', Ex H H' → Q (.bl b) H' := fun b e => by rw [← e]; exact q
    -- len(value) != SIZES[value[0]]
    refine ⟨_, rfl, a, _, rfl, .inr hS1, _, rfl, a, _, _, _, rfl, rfl, hS1, at0, _, k, .int n, rfl, rfl, ⟨es, nE, u, D.at_, D.lit, n1, ru⟩, rfl, _, rfl, ite_of (fun h5 => ?_) (fun h5 => ?_)⟩
    · refine q' false ?_ _ x1
      have h6 : ¬ ((dr.length : Int) + 1 = n) := by
        intro e
        have : decide (V.int ((V.str k :: xr).length : Int) = V.int n) = true := decide_eq_true (by rw [List.length_cons, el]; congr 1)
        rw [this] at h5
        cases h5
      simp only [isStm, e1, if_pos h6]
    have hn : (dr.length : Int) + 1 = n := by
      have h6 : decide (V.int ((V.str k :: xr).length : Int) = V.int n) = true := by
        cases z : decide (V.int ((V.str k :: xr).length : Int) = V.int n) with
        | true => rfl
        | false => rw [z] at h5; cases h5
      have h7 := V.int.inj (of_decide_eq_true h6)
      rw [List.length_cons, el] at h7
      omega
    have es0 : isStm (.tuple (.str k :: dr)) loops = (if k ∈ kNamed then isName (dr.getD 0 .none) else if k ∈ kJumps then isNum 1 loops (dr.getD 0 .none) else (if k ≠ "seq" then true else nonEmptyT (dr.getD 0 .none))) := by
      simp only [isStm, e1, if_neg (show ¬ ((dr.length : Int) + 1 ≠ n) from fun z => z hn)]
    -- value[0] in NAMED
    refine ⟨_, rfl, a, _, _, _, rfl, rfl, hS1, at0, He.ga K "NAMED", _, rfl, .inr (t_NAMED T _), rfl, flat_strs kNamed, _, rfl, ite_of (fun h6 => ?_) (fun h6 => ?_)⟩
    · have h6 : inV (.str k) (kNamed.map V.str) = true := h6
      rw [inV_strs] at h6
      have hk := of_decide_eq_true h6
      have n2 := named_two hk e1
      cases hA with
      | nil => simp at hn; omega
      | @cons v1 xr d1 dr g1 hA =>
      refine ⟨_, rfl, a, _, _, _, rfl, rfl, hS1, at1, v1, d1, rfl, dp_ex x1 g1, fun x e => hz (.str k) x dr (by rw [e]), fun H' x2 => q' _ ?_ H' (x1.trans x2)⟩
      rw [es0, if_pos hk] <;> rfl
    have h6 : inV (.str k) (kNamed.map V.str) = false := h6
    rw [inV_strs] at h6
    have hk : ¬ k ∈ kNamed := of_decide_eq_false h6
    -- value[0] in JUMPS
    refine ⟨_, rfl, a, _, _, _, rfl, rfl, hS1, at0, He.ga K "JUMPS", _, rfl, .inr (t_JUMPS T _), rfl, flat_strs kJumps, _, rfl, ite_of (fun h7 => ?_) (fun h7 => ?_)⟩
    · have h7 : inV (.str k) (kJumps.map V.str) = true := h7
      rw [inV_strs] at h7
      have hj := of_decide_eq_true h7
      have n2 := jumps_two hj e1
      cases hA with
      | nil => simp at hn; omega
      | @cons v1 xr d1 dr g1 hA =>
      have e2 : isStm (.tuple (.str k :: d1 :: dr)) loops = isNum 1 loops d1 := by rw [es0, if_neg hk, if_pos hj] <;> rfl
      refine ⟨_, rfl, a, _, _, _, rfl, rfl, hS1, at1, _, rfl, v1, 1, loops, rfl, ?_⟩
      cases d1 with
      | int m =>
        obtain rfl := dp_int g1
        exact .inl ⟨m, rfl, q' _ e2 _ x1⟩
      | _ => exact .inr ⟨_, _, _, dp_ty (dp_ex x1 g1), k_int _, k_bool _, rfl, q' _ e2 _ x1⟩
    have h7 : inV (.str k) (kJumps.map V.str) = false := h7
    rw [inV_strs] at h7
    have hj : ¬ k ∈ kJumps := of_decide_eq_false h7
    rw [if_neg hk, if_neg hj] at es0
    -- value[0] != 'seq' or ..
    refine ⟨_, rfl, a, _, _, _, rfl, rfl, hS1, at0, rfl, _, rfl, ite_of (fun h8 => ?_) (fun h8 => ?_)⟩
    · have hs : k ≠ "seq" := by
        intro e
        subst e
        have z : decide (V.str "seq" = V.str "seq") = true := decide_eq_true rfl
        rw [z] at h8
        cases h8
      exact q' true (by rw [es0, if_pos hs]) _ x1
    have hs : k = "seq" := by
      cases z : decide (V.str k = V.str "seq") with
      | true => exact V.str.inj (of_decide_eq_true z)
      | false => rw [z] at h8; cases h8
    subst hs
    have n2 := seq_two e1
    cases hA with
    | nil => simp at hn; omega
    | @cons v1 xr d1 dr g1 hA =>
    rw [if_neg (fun z => z rfl)] at es0
    refine ⟨_, rfl, a, _, _, _, rfl, rfl, hS1, at1, v1, .ty "tuple", _, _, _, rfl, .ty _, dp_ty (dp_ex x1 g1), k_tuple d1, _, rfl, ite_of (fun h9 => ?_) (fun h9 => ?_)⟩
    · obtain ⟨es2, rfl⟩ : ∃ ds, d1 = .tuple ds := by cases d1 <;> first | exact ⟨_, rfl⟩ | cases h9
      refine ⟨_, rfl, a, _, _, _, rfl, rfl, hS1, at1, sz (by decide), fun p2 hp2 => ?_⟩
      have x2 : Ex H (upd (upd H p (.tup [])) p2 (.tup [])) := exu x1 hp2
      have hc1 : PyData.canLay0 (.tuple es2) = true := by
        have z : (PyData.canLay0 (.str "seq") && (PyData.canLay0 (.tuple es2) && PyData.canLayAll0 dr)) = true := hc
        exact (Bool.and_eq_true_iff.mp (Bool.and_eq_true_iff.mp z).2).1
      refine ⟨.tuple es2, .tuple [], dp_ex x2 g1, .tup (Evl.st_of upd_same) .nil, hc1, rfl, min_nil _, q' _ ?_ _ x2⟩
      rw [es0, eqv_nil]
      cases es2 <;> rfl
    · refine q' false ?_ _ x1
      rw [es0]
      cases d1 <;> first | rfl | cases h9
end

end Fc

set_option maxRecDepth 100000
set_option maxHeartbeats 4000000
namespace Fc
open PySem PySem.Spec PyProof.Rows L2 FcR
open Evl (Ex)
/-! ### slices -/
theorem sIx_le (n d : Nat) (o : Option Int) (h : d ≤ n) : HT.sIx n d o ≤ n ∨ ∃ v, o = some v ∧ v < 0 := by
  cases o with
  | none => exact .inl h
  | some v =>
    by_cases hv : v < 0
    · exact .inr ⟨v, rfl, hv⟩
    · refine .inl ?_
      show (if v < 0 then (v + (n : Int)).toNat else min v.toNat n) ≤ n
      rw [if_neg hv]
      exact Nat.min_le_right _ _
theorem sl_any {K : PySem.W.Frag} {H : Hp} {a : Addr} {xs : List V} {lo hi : Option Int} {Q : VK} (hS : SqT K H a xs) (k : ∀ p H', Ex H H' → SqT K H' p (cutV xs lo hi) → Q (.ref p) H') : rSlA K (.ref a) lo hi H Q := by
  refine ⟨a, xs, rfl, hS, fun h => k a H (Evl.Ex.refl H) ?_, fun _ p hp => k p _ (exu (Evl.Ex.refl H) hp) (Evl.st_of upd_same)⟩
  have e : cutV xs lo hi = xs := by
    unfold cutV
    rw [h.1, h.2]
    simp
  rw [e]
  exact hS
theorem cut_from (xs : List V) (n : Nat) : cutV xs (some (n : Int)) none = xs.drop n := by
  unfold cutV
  rw [HT.sIx_none, HT.sIx_nat]
  by_cases h : n ≤ xs.length
  · rw [Nat.min_eq_left h, List.take_of_length_le (by rw [List.length_drop]; omega)]
  · rw [Nat.min_eq_right (by omega), List.drop_eq_nil_of_le (by omega), List.drop_eq_nil_of_le (by omega)]
    simp
theorem cut_to (xs : List V) (n : Nat) : cutV xs none (some (n : Int)) = xs.take n := by
  unfold cutV
  rw [HT.sIx_none, HT.sIx_nat]
  simp only [List.drop_zero, Nat.sub_zero]
  by_cases h : n ≤ xs.length
  · rw [Nat.min_eq_left h]
  · rw [Nat.min_eq_right (by omega), List.take_of_length_le (Nat.le_refl _), List.take_of_length_le (by omega)]
/-! ### the parts that are looked at -/
def sp_parts_in (K : PySem.W.Frag) : Sp := fun vs H Q _ => ∃ (F : Hp) (v : V) (d : PyData) (loops : Int), vs = [v] ∧ Ex F H ∧ Dp K F v d ∧ isStm d loops = true ∧
  ∀ p H' xs, H p = none → Ex H H' → H' p = some (.lst xs) → DpAll K F xs (partsD d) → Q (.ref p) H'
theorem isStm_shape {d : PyData} {loops : Int} (h : isStm d loops = true) : ∃ k r n, d = .tuple (.str k :: r) ∧ kSizes.lookup k = some n ∧ (r.length : Int) + 1 = n ∧
    (if k ∈ kNamed then isName (r.getD 0 .none) else if k ∈ kJumps then isNum 1 loops (r.getD 0 .none) else (if k ≠ "seq" then true else nonEmptyT (r.getD 0 .none))) = true := by
  unfold isStm at h
  split at h
  · rename_i k r
    split at h
    · cases h
    · rename_i n e
      split at h
      · cases h
      · rename_i hn
        exact ⟨k, r, n, rfl, e, Decidable.not_not.mp hn, h⟩
  · cases h
theorem fresh_up {H H' : Hp} {p : Addr} (e : Ex H H') (h : H' p = none) : H p = none := Evl.fresh_back e h
section
variable {P : Program} {w : World} {h : Heap} {K : PySem.W.Frag} {mg : Str → Option Value} {base : Heap}
abbrev N_parts_in : List Str := ["statement"]
theorem sc_parts_in : FnScope N_parts_in ["statement"] (defScope sd_parts_in) := ⟨rfl, rfl, rfl, by decide +kernel, rfl, by decide +kernel, by decide +kernel⟩
theorem ok_parts_in (T : Tx w h K mg) : Ok P w K mg base 1 ("parts_in", none) ["statement"] (sp_parts_in K) := by
  obtain ⟨fd, F⟩ := F_parts_in T
  refine ⟨fd, ?_, F.bindsN (fun _ _ _ _ _ _ us hl => match us, hl with | [_], _ => rfl), F.kp⟩
  obtain ⟨tm_MOST_STATEMENTS, m_MOST_STATEMENTS⟩ := i_MOST_STATEMENTS T
  refine F.ok sc_parts_in (fun vs H Q E h => ?_) (fun cdv A outer s H vs Q E hr h => ?_)
  · obtain ⟨F0, v, d, loops, rfl, xF, hd, hs, q⟩ := h
    rfl
  · obtain ⟨F0, v, d, loops, rfl, xF, hd, hs, q⟩ := h
    refine ⟨_, PSs.nox (pss_cons (ps_if (pt_cmpR op_eq (pe_ix ix_tup (pv 0) pe_int (fun _ _ => rfl)) pe_str (nomark _)) (pss_one (ps_ret (pe_callTy call_list_of rfl (fr_list T) b_list (pa_cons (pe_slice sl_tupA (pe_ix ix_tup (pv 0) pe_int (fun _ _ => rfl)) po_none (po_some (pe_op op_add (pe_glob (v := .int 400) rfl m_MOST_STATEMENTS ⟨_, rfl⟩) pe_int))) pa_nil)))) pss_nil) (pss_cons (ps_if (pt_cmpR op_in_seq (pe_ix ix_tup (pv 0) pe_int (fun _ _ => rfl)) (pe_glob (v := .ref (He.ga K "NAMED")) rfl (g_NAMED T) rfl) (by rfl)) (pss_one (ps_ret (pe_callTy call_list_of rfl (fr_list T) b_list (pa_cons (pe_slice sl_tupA (pv 0) (po_some pe_int) po_none) pa_nil)))) pss_nil) (pss_one (ps_ret (pe_ifExp (pt_cmpR op_in_seq (pe_ix ix_tup (pv 0) pe_int (fun _ _ => rfl)) (pe_tup (pa_cons pe_str (pa_cons pe_str pa_nil))) (by rfl)) (pe_callTy call_list_of rfl (fr_list T) b_list (pa_cons (pe_slice sl_tupA (pv 0) (po_some pe_int) po_none) pa_nil)) (pe_lst pa_nil)))))), ?_⟩
    obtain ⟨k, r, n, rfl, e1, hn, hs⟩ := isStm_shape hs
    obtain ⟨a, xs, rfl, hS, hA⟩ := dp_tup hd
    have hS := Evl.ex_t xF hS
    cases hA with
    | @cons v0 xr _ _ h0 hA =>
    obtain rfl := dp_str h0
    refine ⟨_, rfl, a, _, _, _, rfl, rfl, hS, at0, rfl, _, rfl, ite_of (fun h1 => ?_) (fun h1 => ?_)⟩
    · have hk : k = "seq" := V.str.inj (of_decide_eq_true h1)
      subst hk
      have n2 := seq_two e1
      have nn : ¬ (("seq" : Str) ∈ kNamed) := by decide +kernel
      have nj : ¬ (("seq" : Str) ∈ kJumps) := by decide +kernel
      rw [if_neg nn, if_neg nj, if_neg (fun z => z rfl)] at hs
      cases hA with
      | nil => simp at hn; omega
      | @cons v1 xr d1 dr g1 hA =>
      obtain ⟨ps, rfl⟩ : ∃ ps, d1 = .tuple ps := by cases d1 <;> first | exact ⟨_, rfl⟩ | cases hs
      obtain ⟨b, ys, rfl, gS, gA⟩ := dp_tup g1
      have gS := Evl.ex_t xF gS
      refine ⟨_, rfl, a, _, _, _, rfl, rfl, hS, at1, _, _, rfl, rfl, _, rfl, ?_⟩
      refine sl_any (lo := none) gS fun p H1 x1 s1 => ?_
      refine ⟨p, _, rfl, .inr s1, fun l hl => q l _ _ (fresh_up x1 hl) (exu x1 hl) upd_same ?_⟩
      rw [show ((400 : Int) + 1) = ((401 : Nat) : Int) from rfl, cut_to]
      exact dpA_take 401 gA
    have hk : ¬ k = "seq" := fun e => by
      have z : decide (V.str k = V.str "seq") = true := decide_eq_true (by rw [e])
      rw [z] at h1
      cases h1
    refine ⟨_, rfl, a, _, _, _, rfl, rfl, hS, at0, He.ga K "NAMED", _, rfl, .inr (t_NAMED T _), rfl, flat_strs kNamed, _, rfl, ite_of (fun h2 => ?_) (fun h2 => ?_)⟩
    · have h2 : inV (.str k) (kNamed.map V.str) = true := h2
      rw [inV_strs] at h2
      have hm := of_decide_eq_true h2
      refine ⟨_, rfl, _, rfl, ?_⟩
      dsimp only [tNoPart]
      refine sl_any (hi := none) hS fun p H1 x1 s1 => ?_
      refine ⟨p, _, rfl, .inr s1, fun l hl => q l _ _ (fresh_up x1 hl) (exu x1 hl) upd_same ?_⟩
      rw [show (2 : Int) = ((2 : Nat) : Int) from rfl, cut_from]
      show DpAll K F0 (xr.drop 1) (partsD (.tuple (.str k :: r)))
      rw [show partsD (.tuple (.str k :: r)) = r.drop 1 from by simp only [partsD, if_neg hk, if_pos hm]]
      exact dpA_drop 1 hA
    have h2 : inV (.str k) (kNamed.map V.str) = false := h2
    rw [inV_strs] at h2
    have hm : ¬ k ∈ kNamed := of_decide_eq_false h2
    refine ⟨_, rfl, a, _, _, _, rfl, rfl, hS, at0, sz (by decide), fun p0 hp0 => ⟨p0, _, rfl, .inr (Evl.st_of upd_same), rfl, flat_strs ["try", "final"], _, rfl, ite_of (fun h3 => ?_) (fun h3 => ?_)⟩⟩
    · have h3 : inV (.str k) ((["try", "final"] : List Str).map V.str) = true := h3
      rw [inV_strs] at h3
      have ht : k = "try" ∨ k = "final" := by simpa using of_decide_eq_true h3
      have x0 : Ex H (upd H p0 (.tup [.str "try", .str "final"])) := exu (Evl.Ex.refl H) hp0
      refine ⟨_, rfl, _, rfl, ?_⟩
      dsimp only [tNoPart]
      refine sl_any (hi := none) (Evl.ex_t x0 hS) fun p H1 x1 s1 => ?_
      have x2 := x0.trans x1
      refine ⟨p, _, rfl, .inr s1, fun l hl => q l _ _ (fresh_up x2 hl) (exu x2 hl) upd_same ?_⟩
      rw [show (1 : Int) = ((1 : Nat) : Int) from rfl, cut_from]
      show DpAll K F0 xr (partsD (.tuple (.str k :: r)))
      rw [show partsD (.tuple (.str k :: r)) = r from by simp only [partsD, if_neg hk, if_neg hm, if_pos ht]]
      exact hA
    · have h3 : inV (.str k) ((["try", "final"] : List Str).map V.str) = false := h3
      rw [inV_strs] at h3
      have ht : ¬ (k = "try" ∨ k = "final") := by simpa using of_decide_eq_false h3
      have x0 : Ex H (upd H p0 (.tup [.str "try", .str "final"])) := exu (Evl.Ex.refl H) hp0
      refine ⟨sz (by decide), fun l hl => q l _ _ (fresh_up x0 hl) (exu x0 hl) upd_same ?_⟩
      rw [show partsD (.tuple (.str k :: r)) = [] from by simp only [partsD, if_neg hk, if_neg hm, if_neg ht]]
      exact .nil
end

end Fc

set_option maxRecDepth 100000
set_option maxHeartbeats 4000000
namespace Fc
open PySem PySem.Spec PyProof.Rows L2 FcR
open Evl (Ex)
def fl_Code (v0 v1 v2 v3 v4 : V) : List (Str × V) := [("statements", v0), ("kinds", v1), ("labels", v2), ("parents", v3), ("children", v4)]
theorem fl_Code_statements (v0 v1 v2 v3 v4 : V) : (fl_Code v0 v1 v2 v3 v4).lookup ("statements" : Str) = some v0 := by kernel_rfl
theorem fp_Code_statements (v0 v1 v2 v3 v4 y : V) : putF "statements" y (fl_Code v0 v1 v2 v3 v4) = fl_Code y v1 v2 v3 v4 := by kernel_rfl
theorem fl_Code_kinds (v0 v1 v2 v3 v4 : V) : (fl_Code v0 v1 v2 v3 v4).lookup ("kinds" : Str) = some v1 := by kernel_rfl
theorem fp_Code_kinds (v0 v1 v2 v3 v4 y : V) : putF "kinds" y (fl_Code v0 v1 v2 v3 v4) = fl_Code v0 y v2 v3 v4 := by kernel_rfl
theorem fl_Code_labels (v0 v1 v2 v3 v4 : V) : (fl_Code v0 v1 v2 v3 v4).lookup ("labels" : Str) = some v2 := by kernel_rfl
theorem fp_Code_labels (v0 v1 v2 v3 v4 y : V) : putF "labels" y (fl_Code v0 v1 v2 v3 v4) = fl_Code v0 v1 y v3 v4 := by kernel_rfl
theorem fl_Code_parents (v0 v1 v2 v3 v4 : V) : (fl_Code v0 v1 v2 v3 v4).lookup ("parents" : Str) = some v3 := by kernel_rfl
theorem fp_Code_parents (v0 v1 v2 v3 v4 y : V) : putF "parents" y (fl_Code v0 v1 v2 v3 v4) = fl_Code v0 v1 v2 y v4 := by kernel_rfl
theorem fl_Code_children (v0 v1 v2 v3 v4 : V) : (fl_Code v0 v1 v2 v3 v4).lookup ("children" : Str) = some v4 := by kernel_rfl
theorem fp_Code_children (v0 v1 v2 v3 v4 y : V) : putF "children" y (fl_Code v0 v1 v2 v3 v4) = fl_Code v0 v1 v2 v3 y := by kernel_rfl
theorem fm_Code_check (v0 v1 v2 v3 v4 : V) : (fl_Code v0 v1 v2 v3 v4).lookup ("check" : Str) = none := by kernel_rfl
theorem fm_Code_keep (v0 v1 v2 v3 v4 : V) : (fl_Code v0 v1 v2 v3 v4).lookup ("keep" : Str) = none := by kernel_rfl
theorem fm_Code_check_number (v0 v1 v2 v3 v4 : V) : (fl_Code v0 v1 v2 v3 v4).lookup ("check_number" : Str) = none := by kernel_rfl
theorem fm_Code_kind (v0 v1 v2 v3 v4 : V) : (fl_Code v0 v1 v2 v3 v4).lookup ("kind" : Str) = none := by kernel_rfl
theorem fm_Code_entry_of (v0 v1 v2 v3 v4 : V) : (fl_Code v0 v1 v2 v3 v4).lookup ("entry_of" : Str) = none := by kernel_rfl
theorem fm_Code_is_place (v0 v1 v2 v3 v4 : V) : (fl_Code v0 v1 v2 v3 v4).lookup ("is_place" : Str) = none := by kernel_rfl
theorem fm_Code_parent (v0 v1 v2 v3 v4 : V) : (fl_Code v0 v1 v2 v3 v4).lookup ("parent" : Str) = none := by kernel_rfl
theorem fm_Code_parts (v0 v1 v2 v3 v4 : V) : (fl_Code v0 v1 v2 v3 v4).lookup ("parts" : Str) = none := by kernel_rfl
theorem fm_Code_places (v0 v1 v2 v3 v4 : V) : (fl_Code v0 v1 v2 v3 v4).lookup ("places" : Str) = none := by kernel_rfl
theorem fm_Code_entry (v0 v1 v2 v3 v4 : V) : (fl_Code v0 v1 v2 v3 v4).lookup ("entry" : Str) = none := by kernel_rfl
theorem fm_Code_layers (v0 v1 v2 v3 v4 : V) : (fl_Code v0 v1 v2 v3 v4).lookup ("layers" : Str) = none := by kernel_rfl
theorem fm_Code_layers_of (v0 v1 v2 v3 v4 : V) : (fl_Code v0 v1 v2 v3 v4).lookup ("layers_of" : Str) = none := by kernel_rfl
theorem fm_Code_check_place (v0 v1 v2 v3 v4 : V) : (fl_Code v0 v1 v2 v3 v4).lookup ("check_place" : Str) = none := by kernel_rfl
theorem fi_Code_0 (v0 : V) : putF "statements" v0 ([] : List (Str × V)) = ([(("statements" : Str), v0)] : List (Str × V)) := by kernel_rfl
theorem fi_Code_1 (v0 v1 : V) : putF "kinds" v1 ([(("statements" : Str), v0)] : List (Str × V)) = ([(("statements" : Str), v0), (("kinds" : Str), v1)] : List (Str × V)) := by kernel_rfl
theorem fi_Code_2 (v0 v1 v2 : V) : putF "labels" v2 ([(("statements" : Str), v0), (("kinds" : Str), v1)] : List (Str × V)) = ([(("statements" : Str), v0), (("kinds" : Str), v1), (("labels" : Str), v2)] : List (Str × V)) := by kernel_rfl
theorem fi_Code_3 (v0 v1 v2 v3 : V) : putF "parents" v3 ([(("statements" : Str), v0), (("kinds" : Str), v1), (("labels" : Str), v2)] : List (Str × V)) = ([(("statements" : Str), v0), (("kinds" : Str), v1), (("labels" : Str), v2), (("parents" : Str), v3)] : List (Str × V)) := by kernel_rfl
theorem fi_Code_4 (v0 v1 v2 v3 v4 : V) : putF "children" v4 ([(("statements" : Str), v0), (("kinds" : Str), v1), (("labels" : Str), v2), (("parents" : Str), v3)] : List (Str × V)) = ([(("statements" : Str), v0), (("kinds" : Str), v1), (("labels" : Str), v2), (("parents" : Str), v3), (("children" : Str), v4)] : List (Str × V)) := by kernel_rfl

end Fc

set_option maxRecDepth 100000
set_option maxHeartbeats 4000000
namespace Fc
open PySem PySem.Spec PyProof.Rows L2 FcR
open Evl (Ex)
/-! ### the rows of a code -/
structure Row where
  d : PyData
  par : Option Nat
  ch : List Nat
def kindD : PyData → Str
  | .tuple (.str k :: _) => k
  | _ => ""
def kLab : List Str := kNamed ++ kJumps
def labD : PyData → V
  | .tuple (.str k :: r) => if k ∈ kLab then (match r with
      | .str x :: _ => .str x
      | .int n :: _ => .int n
      | _ => .non) else .non
  | _ => .non
def parV : Option Nat → V
  | none => .non
  | some i => .int (i : Int)
def intsV (l : List Nat) : List V := l.map fun n : Nat => V.int (n : Int)
/-- where a code's lists stand -/
structure CAd where
  p : Addr
  dx : Addr
  a1 : Addr
  a2 : Addr
  a3 : Addr
  a4 : Addr
  a5 : Addr
  cs : List Addr
def CAd.all (A : CAd) : List Addr := A.p :: A.a1 :: A.a2 :: A.a3 :: A.a4 :: A.a5 :: A.cs
def cFs (A : CAd) : List (Str × V) := fl_Code (.ref A.a1) (.ref A.a2) (.ref A.a3) (.ref A.a4) (.ref A.a5)
/-- a code's lists as they stand in H -/
structure CL (K : PySem.W.Frag) (H : Hp) (A : CAd) (L1 L2 L3 L4 : List V) (Cs : List (List V)) : Prop where
  ob : H A.p = some (.ins (He.ga K "Code") A.dx (cFs A))
  h1 : H A.a1 = some (.lst L1)
  h2 : H A.a2 = some (.lst L2)
  h3 : H A.a3 = some (.lst L3)
  h4 : H A.a4 = some (.lst L4)
  h5 : H A.a5 = some (.lst (A.cs.map V.ref))
  cl : A.cs.length = Cs.length
  cc : ∀ (i : Nat) (c : Addr) (x : List V), A.cs[i]? = some c → Cs[i]? = some x → H c = some (.lst x)
  nd : A.all.Nodup
section
variable {K : PySem.W.Frag} {F H H' : Hp} {A : CAd} {L1 L2 L3 L4 : List V} {Cs : List (List V)}
theorem CL.ex (x : CL K H A L1 L2 L3 L4 Cs) (e : Ex H H') : CL K H' A L1 L2 L3 L4 Cs :=
  ⟨e _ _ x.ob, e _ _ x.h1, e _ _ x.h2, e _ _ x.h3, e _ _ x.h4, e _ _ x.h5, x.cl, fun i c y h1 h2 => e _ _ (x.cc i c y h1 h2), x.nd⟩
theorem CL.ne (x : CL K H A L1 L2 L3 L4 Cs) :
    (A.p ≠ A.a1 ∧ A.p ≠ A.a2 ∧ A.p ≠ A.a3 ∧ A.p ≠ A.a4 ∧ A.p ≠ A.a5 ∧ A.p ∉ A.cs) ∧ (A.a1 ≠ A.a2 ∧ A.a1 ≠ A.a3 ∧ A.a1 ≠ A.a4 ∧ A.a1 ≠ A.a5 ∧ A.a1 ∉ A.cs) ∧
    (A.a2 ≠ A.a3 ∧ A.a2 ≠ A.a4 ∧ A.a2 ≠ A.a5 ∧ A.a2 ∉ A.cs) ∧ (A.a3 ≠ A.a4 ∧ A.a3 ≠ A.a5 ∧ A.a3 ∉ A.cs) ∧ (A.a4 ≠ A.a5 ∧ A.a4 ∉ A.cs) ∧ A.a5 ∉ A.cs ∧ A.cs.Nodup := by
  have z := x.nd
  simp only [CAd.all, List.nodup_cons, List.mem_cons, not_or] at z
  exact ⟨z.1, z.2.1, z.2.2.1, z.2.2.2.1, z.2.2.2.2.1, z.2.2.2.2.2⟩
theorem CL.there (x : CL K H A L1 L2 L3 L4 Cs) {b : Addr} (hb : b ∈ A.all) : ∃ o, H b = some o := by
  simp only [CAd.all, List.mem_cons] at hb
  rcases hb with rfl | rfl | rfl | rfl | rfl | rfl | hb
  · exact ⟨_, x.ob⟩
  · exact ⟨_, x.h1⟩
  · exact ⟨_, x.h2⟩
  · exact ⟨_, x.h3⟩
  · exact ⟨_, x.h4⟩
  · exact ⟨_, x.h5⟩
  · obtain ⟨i, hi⟩ := List.mem_iff_getElem?.mp hb
    have l : i < Cs.length := by rw [← x.cl]; exact (List.getElem?_eq_some_iff.mp hi).1
    exact ⟨_, x.cc i b _ hi (List.getElem?_eq_getElem l)⟩
theorem CL.fresh (x : CL K H A L1 L2 L3 L4 Cs) {q : Addr} (h : H q = none) : q ∉ A.all := fun z => by
  obtain ⟨o, e⟩ := x.there z
  rw [h] at e
  cases e
theorem CL.off (x : CL K H A L1 L2 L3 L4 Cs) {q : Addr} {o : HO} (h : q ∉ A.all) : CL K (upd H q o) A L1 L2 L3 L4 Cs := by
  have n : ∀ {b : Addr}, b ∈ A.all → b ≠ q := fun hb e => h (e ▸ hb)
  have mc : ∀ {c : Addr}, c ∈ A.cs → c ∈ A.all := fun hc => by simp [CAd.all, hc]
  exact ⟨by rw [upd_ne (n (by simp [CAd.all]))]; exact x.ob, by rw [upd_ne (n (by simp [CAd.all]))]; exact x.h1, by rw [upd_ne (n (by simp [CAd.all]))]; exact x.h2, by rw [upd_ne (n (by simp [CAd.all]))]; exact x.h3,
    by rw [upd_ne (n (by simp [CAd.all]))]; exact x.h4, by rw [upd_ne (n (by simp [CAd.all]))]; exact x.h5, x.cl, fun i c y h1 h2 => by rw [upd_ne (n (mc (List.mem_of_getElem? h1)))]; exact x.cc i c y h1 h2, x.nd⟩
theorem nin {c b : Addr} {l : List Addr} (h : b ∉ l) (hc : c ∈ l) : c ≠ b := fun e => h (e ▸ hc)
theorem CL.s1 (x : CL K H A L1 L2 L3 L4 Cs) (y : List V) : CL K (upd H A.a1 (.lst y)) A y L2 L3 L4 Cs := by
  obtain ⟨⟨n1, n2, n3, n4, n5, n6⟩, ⟨m12, m13, m14, m15, m1⟩, ⟨m23, m24, m25, m2⟩, ⟨m34, m35, m3⟩, ⟨m45, m4⟩, m5, m6⟩ := x.ne
  exact ⟨by rw [upd_ne n1]; exact x.ob, upd_same, by rw [upd_ne m12.symm]; exact x.h2, by rw [upd_ne m13.symm]; exact x.h3, by rw [upd_ne m14.symm]; exact x.h4, by rw [upd_ne m15.symm]; exact x.h5, x.cl,
    fun i c z g1 g2 => by rw [upd_ne (nin m1 (List.mem_of_getElem? g1))]; exact x.cc i c z g1 g2, x.nd⟩
theorem CL.s2 (x : CL K H A L1 L2 L3 L4 Cs) (y : List V) : CL K (upd H A.a2 (.lst y)) A L1 y L3 L4 Cs := by
  obtain ⟨⟨n1, n2, n3, n4, n5, n6⟩, ⟨m12, m13, m14, m15, m1⟩, ⟨m23, m24, m25, m2⟩, ⟨m34, m35, m3⟩, ⟨m45, m4⟩, m5, m6⟩ := x.ne
  exact ⟨by rw [upd_ne n2]; exact x.ob, by rw [upd_ne m12]; exact x.h1, upd_same, by rw [upd_ne m23.symm]; exact x.h3, by rw [upd_ne m24.symm]; exact x.h4, by rw [upd_ne m25.symm]; exact x.h5, x.cl,
    fun i c z g1 g2 => by rw [upd_ne (nin m2 (List.mem_of_getElem? g1))]; exact x.cc i c z g1 g2, x.nd⟩
theorem CL.s3 (x : CL K H A L1 L2 L3 L4 Cs) (y : List V) : CL K (upd H A.a3 (.lst y)) A L1 L2 y L4 Cs := by
  obtain ⟨⟨n1, n2, n3, n4, n5, n6⟩, ⟨m12, m13, m14, m15, m1⟩, ⟨m23, m24, m25, m2⟩, ⟨m34, m35, m3⟩, ⟨m45, m4⟩, m5, m6⟩ := x.ne
  exact ⟨by rw [upd_ne n3]; exact x.ob, by rw [upd_ne m13]; exact x.h1, by rw [upd_ne m23]; exact x.h2, upd_same, by rw [upd_ne m34.symm]; exact x.h4, by rw [upd_ne m35.symm]; exact x.h5, x.cl,
    fun i c z g1 g2 => by rw [upd_ne (nin m3 (List.mem_of_getElem? g1))]; exact x.cc i c z g1 g2, x.nd⟩
theorem CL.s4 (x : CL K H A L1 L2 L3 L4 Cs) (y : List V) : CL K (upd H A.a4 (.lst y)) A L1 L2 L3 y Cs := by
  obtain ⟨⟨n1, n2, n3, n4, n5, n6⟩, ⟨m12, m13, m14, m15, m1⟩, ⟨m23, m24, m25, m2⟩, ⟨m34, m35, m3⟩, ⟨m45, m4⟩, m5, m6⟩ := x.ne
  exact ⟨by rw [upd_ne n4]; exact x.ob, by rw [upd_ne m14]; exact x.h1, by rw [upd_ne m24]; exact x.h2, by rw [upd_ne m34]; exact x.h3, upd_same, by rw [upd_ne m45.symm]; exact x.h5, x.cl,
    fun i c z g1 g2 => by rw [upd_ne (nin m4 (List.mem_of_getElem? g1))]; exact x.cc i c z g1 g2, x.nd⟩
theorem nd_get {α : Type} {l : List α} (h : l.Nodup) {i j : Nat} {x : α} (hi : l[i]? = some x) (hj : l[j]? = some x) : i = j := by
  obtain ⟨h1, e1⟩ := List.getElem?_eq_some_iff.mp hi
  obtain ⟨h2, e2⟩ := List.getElem?_eq_some_iff.mp hj
  exact (List.getElem_inj h).mp (e1.trans e2.symm)
theorem CL.child (x : CL K H A L1 L2 L3 L4 Cs) {i : Nat} {c : Addr} (hc : A.cs[i]? = some c) (y : List V) : CL K (upd H c (.lst y)) A L1 L2 L3 L4 (Cs.set i y) := by
  obtain ⟨⟨n1, n2, n3, n4, n5, n6⟩, ⟨m12, m13, m14, m15, m1⟩, ⟨m23, m24, m25, m2⟩, ⟨m34, m35, m3⟩, ⟨m45, m4⟩, m5, m6⟩ := x.ne
  have hm : c ∈ A.cs := List.mem_of_getElem? hc
  refine ⟨by rw [upd_ne (nin n6 hm).symm]; exact x.ob, by rw [upd_ne (nin m1 hm).symm]; exact x.h1, by rw [upd_ne (nin m2 hm).symm]; exact x.h2, by rw [upd_ne (nin m3 hm).symm]; exact x.h3, by rw [upd_ne (nin m4 hm).symm]; exact x.h4,
    by rw [upd_ne (nin m5 hm).symm]; exact x.h5, by rw [List.length_set]; exact x.cl, fun j c' z g1 g2 => ?_, x.nd⟩
  by_cases e : i = j
  · subst e
    rw [hc] at g1
    cases g1
    have l : i < Cs.length := by rw [← x.cl]; exact (List.getElem?_eq_some_iff.mp hc).1
    rw [List.getElem?_set_self l] at g2
    cases g2
    exact upd_same
  · rw [List.getElem?_set_ne e] at g2
    have nc : c' ≠ c := fun q => e (nd_get m6 hc (by rw [← q]; exact g1))
    rw [upd_ne nc]
    exact x.cc j c' z g1 g2
theorem CL.push (x : CL K H A L1 L2 L3 L4 Cs) {c : Addr} (hc : H c = none) : CL K (upd (upd H c (.lst [])) A.a5 (.lst (A.cs.map V.ref ++ [.ref c]))) { A with cs := A.cs ++ [c] } L1 L2 L3 L4 (Cs ++ [[]]) := by
  obtain ⟨⟨n1, n2, n3, n4, n5, n6⟩, ⟨m12, m13, m14, m15, m1⟩, ⟨m23, m24, m25, m2⟩, ⟨m34, m35, m3⟩, ⟨m45, m4⟩, m5, m6⟩ := x.ne
  have f := x.fresh hc
  have y := x.off (o := .lst []) f
  simp only [CAd.all, List.mem_cons, not_or] at f
  obtain ⟨f0, f1, f2, f3, f4, f5, f6⟩ := f
  refine ⟨by rw [upd_ne n5]; exact y.ob, by rw [upd_ne m15]; exact y.h1, by rw [upd_ne m25]; exact y.h2, by rw [upd_ne m35]; exact y.h3, by rw [upd_ne m45]; exact y.h4, ?_, by simp [x.cl], fun i c' z g1 g2 => ?_, ?_⟩
  · show upd _ A.a5 _ A.a5 = some (HO.lst ((A.cs ++ [c]).map V.ref))
    rw [upd_same, List.map_append] <;> rfl
  · have g1 : (A.cs ++ [c])[i]? = some c' := g1
    rcases Nat.lt_or_ge i A.cs.length with l | l
    · rw [List.getElem?_append_left l] at g1
      rw [List.getElem?_append_left (by rw [← x.cl]; exact l)] at g2
      rw [upd_ne (nin m5 (List.mem_of_getElem? g1))]
      exact y.cc i c' z g1 g2
    · rw [List.getElem?_append_right l] at g1
      rw [List.getElem?_append_right (by rw [← x.cl]; exact l)] at g2
      have e1 : i - A.cs.length = 0 := by
        have := (List.getElem?_eq_some_iff.mp g1).1
        simp at this
        omega
      rw [e1] at g1
      rw [← x.cl, e1] at g2
      cases g1
      cases g2
      rw [upd_ne f5]
      exact upd_same
  · show (A.p :: A.a1 :: A.a2 :: A.a3 :: A.a4 :: A.a5 :: (A.cs ++ [c])).Nodup
    simp only [List.nodup_cons, List.mem_cons, List.mem_append, List.mem_singleton, not_or, List.not_mem_nil, or_false]
    refine ⟨⟨n1, n2, n3, n4, n5, n6, fun e => f0 e.symm⟩, ⟨m12, m13, m14, m15, m1, fun e => f1 e.symm⟩, ⟨m23, m24, m25, m2, fun e => f2 e.symm⟩, ⟨m34, m35, m3, fun e => f3 e.symm⟩, ⟨m45, m4, fun e => f4 e.symm⟩, ⟨m5, fun e => f5 e.symm⟩, ?_⟩
    exact List.nodup_append.mpr ⟨m6, List.nodup_cons.mpr ⟨List.not_mem_nil, List.nodup_nil⟩, fun a ha b hb => by rw [List.mem_singleton.mp hb]; exact fun e => f6 (e ▸ ha)⟩
end
/-- a code at A with these rows, as it stands in H; its statements by F -/
def CodeH (K : PySem.W.Frag) (F H : Hp) (A : CAd) (rows : List Row) : Prop :=
  ∃ vs, CL K H A vs (rows.map fun r => V.str (kindD r.d)) (rows.map fun r => labD r.d) (rows.map fun r => parV r.par) (rows.map fun r => intsV r.ch) ∧ DpAll K F vs (rows.map Row.d)
def addCh (rows : List Row) (i n : Nat) : List Row := rows.modify i fun r => { r with ch := r.ch ++ [n] }
def addRow (rows : List Row) (d : PyData) (par : Option Nat) : List Row := (match par with
  | none => rows
  | some i => addCh rows i rows.length) ++ [⟨d, par, []⟩]
/-! ### check -/
def sp_Code_check (K : PySem.W.Frag) : Sp := fun vs H Q _ => ∃ (v0 v : V) (d : PyData) (n deep loops blocks : Int), vs = [v0, v, .int n, .int deep, .int loops, .int blocks] ∧ Dp K H v d ∧ PyData.canLay0 d = true ∧ szD d ∧ n < 400 ∧ deep ≤ 100 ∧ blocks ≤ 25 ∧ isStm d loops = true ∧
  ∀ H', Ex H H' → Q .non H'
section
variable {P : Program} {w : World} {h : Heap} {K : PySem.W.Frag} {mg : Str → Option Value} {base : Heap}
abbrev N_Code_check : List Str := ["self", "value", "number", "deep", "loops", "blocks"]
theorem sc_Code_check : FnScope N_Code_check ["self", "value", "number", "deep", "loops", "blocks"] (defScope sd_Code_check) := ⟨rfl, rfl, rfl, by decide +kernel, rfl, by decide +kernel, by decide +kernel⟩
theorem ok_Code_check (T : Tx w h K mg) : Ok P w K mg base 4 ("Code", some "check") ["self", "value", "number", "deep", "loops", "blocks"] (sp_Code_check K) := by
  obtain ⟨fd, F⟩ := F_Code_check T
  refine ⟨fd, ?_, F.bindsN (fun _ _ _ _ _ _ us hl => match us, hl with | [_, _, _, _, _, _], _ => rfl), F.kp⟩
  obtain ⟨fd_is_statement, G_is_statement, bi_is_statement, kp_is_statement⟩ := ok_is_statement (P := P) (base := base) T
  obtain ⟨tm_MOST_BLOCKS, m_MOST_BLOCKS⟩ := i_MOST_BLOCKS T
  obtain ⟨tm_MOST_DEEP, m_MOST_DEEP⟩ := i_MOST_DEEP T
  obtain ⟨tm_MOST_STATEMENTS, m_MOST_STATEMENTS⟩ := i_MOST_STATEMENTS T
  refine F.ok sc_Code_check (fun vs H Q E h => ?_) (fun cdv A outer s H vs Q E hr h => ?_)
  · obtain ⟨v0, v, d, n, deep, loops, blocks, rfl, hd, hc, hz, l1, l2, l3, hs, q⟩ := h
    rfl
  · obtain ⟨v0, v, d, n, deep, loops, blocks, rfl, hd, hc, hz, l1, l2, l3, hs, q⟩ := h
    refine ⟨_, PSs.nox (pss_cons (ps_if (pt_cmpR op_ge (pv 2) (pe_glob (v := .int 400) rfl m_MOST_STATEMENTS ⟨_, rfl⟩) (nomark _)) (pss_one ps_never) pss_nil) (pss_cons (ps_if (pt_cmpR op_gt (pv 3) (pe_glob (v := .int 100) rfl m_MOST_DEEP ⟨_, rfl⟩) (nomark _)) (pss_one ps_never) pss_nil) (pss_cons (ps_if (pt_cmpR op_gt (pv 5) (pe_glob (v := .int 25) rfl m_MOST_BLOCKS ⟨_, rfl⟩) (nomark _)) (pss_one ps_never) pss_nil) (pss_one (ps_if (pt_not (pt_val (pe_call G_is_statement (hr.mono (by decide)) rfl (g_is_statement T) kp_is_statement bi_is_statement .nil passF (pa_cons (pv 1) (pa_cons (pv 4) pa_nil))))) (pss_one ps_never) pss_nil))))), ?_⟩
    refine ⟨_, rfl, _, _, rfl, rfl, _, rfl, itF (decide_eq_false (by omega)) ?_⟩
    refine ⟨_, rfl, _, _, rfl, rfl, _, rfl, itF (decide_eq_false (by omega)) ?_⟩
    refine ⟨_, rfl, _, _, rfl, rfl, _, rfl, itF (decide_eq_false (by omega)) ?_⟩
    refine ⟨_, rfl, _, rfl, v, d, loops, rfl, hd, hc, hz, fun H' x => ⟨_, rfl, itF (by rw [hs] <;> rfl) (q H' x)⟩⟩
end

end Fc

set_option maxRecDepth 100000
set_option maxHeartbeats 4000000
namespace Fc
open PySem PySem.Spec PyProof.Rows L2 FcR
open Evl (Ex)
/-! ### keep -/
theorem map_modify_same {α β : Type} (f : α → β) (g : α → α) (h : ∀ x, f (g x) = f x) (l : List α) (i : Nat) : (l.modify i g).map f = l.map f := by
  apply List.ext_getElem?
  intro j
  rw [List.getElem?_map, List.getElem?_map, List.getElem?_modify]
  cases l[j]? with
  | none => rfl
  | some x => by_cases e : i = j <;> simp [e, h]
def noteCh (n : Nat) (r : Row) : Row := { r with ch := r.ch ++ [n] }
theorem addCh_eq (rows : List Row) (i n : Nat) : addCh rows i n = rows.modify i (noteCh n) := rfl
theorem addCh_len (rows : List Row) (i n : Nat) : (addCh rows i n).length = rows.length := by simp [addCh]
theorem addCh_map {β : Type} (f : Row → β) (rows : List Row) (i n : Nat) (h : ∀ r, f (noteCh n r) = f r) : (addCh rows i n).map f = rows.map f := map_modify_same f (noteCh n) h rows i
theorem addCh_ch (rows : List Row) (i n : Nat) (r : Row) (h : rows[i]? = some r) : (addCh rows i n).map (fun r => intsV r.ch) = (rows.map fun r => intsV r.ch).set i (intsV r.ch ++ [.int (n : Int)]) := by
  apply List.ext_getElem?
  intro j
  rw [addCh_eq, List.getElem?_map, List.getElem?_modify, List.getElem?_set, List.getElem?_map]
  have li : i < rows.length := (List.getElem?_eq_some_iff.mp h).1
  by_cases e : i = j
  · subst e
    rw [h]
    simp [noteCh, intsV, li]
  · cases rows[j]? <;> simp [e]
def stepRows (rows : List Row) (par : Option Nat) : List Row := match par with
  | none => rows
  | some i => addCh rows i rows.length
theorem stepRows_len (rows : List Row) (par : Option Nat) : (stepRows rows par).length = rows.length := by
  cases par with
  | none => rfl
  | some i => exact addCh_len _ _ _
def sp_Code_keep (K : PySem.W.Frag) : Sp := fun vs H Q _ => ∃ (F : Hp) (A : CAd) (rows : List Row) (v : V) (d : PyData) (loops : Int) (par : Option Nat), vs = [.ref A.p, v, parV par] ∧ Ex F H ∧ CodeH K F H A rows ∧ (∀ b ∈ A.all, F b = none) ∧ Dp K F v d ∧ isStm d loops = true ∧
  rows.length < 1000 ∧ (∀ i, par = some i → ∃ r, rows[i]? = some r ∧ r.ch.length < 1000) ∧
  ∀ c H', H c = none → CodeH K F H' { A with cs := A.cs ++ [c] } (addRow rows d par) → (∀ b o, H b = some o → b ∉ A.all → H' b = some o) → Q .non H'
theorem stm_lab {k : Str} {r : List PyData} {loops : Int} (h : isStm (.tuple (.str k :: r)) loops = true) (hk : k ∈ kLab) : (∃ x r', r = .str x :: r') ∨ ∃ n r', r = .int n :: r' := by
  obtain ⟨k', r', n, e, e1, hn, hs⟩ := isStm_shape h
  cases e
  rcases List.mem_append.mp hk with hk | hk
  · rw [if_pos hk] at hs
    cases r with
    | nil => cases hs
    | cons d r' => cases d with
      | str x => exact .inl ⟨x, r', rfl⟩
      | _ => cases hs
  · by_cases h2 : k ∈ kNamed
    · rw [if_pos h2] at hs
      cases r with
      | nil => cases hs
      | cons d r' => cases d with
        | str x => exact .inl ⟨x, r', rfl⟩
        | _ => cases hs
    · rw [if_neg h2, if_pos hk] at hs
      cases r with
      | nil => cases hs
      | cons d r' => cases d with
        | int x => exact .inr ⟨x, r', rfl⟩
        | _ => cases hs
theorem parV_non (par : Option Nat) : decide (parV par = .non) = par.isNone := by cases par <;> rfl
theorem in_all1 (A : CAd) : A.a1 ∈ A.all := by simp [CAd.all]
theorem in_all2 (A : CAd) : A.a2 ∈ A.all := by simp [CAd.all]
theorem in_all3 (A : CAd) : A.a3 ∈ A.all := by simp [CAd.all]
theorem in_all4 (A : CAd) : A.a4 ∈ A.all := by simp [CAd.all]
theorem in_all5 (A : CAd) : A.a5 ∈ A.all := by simp [CAd.all]
theorem in_allc {A : CAd} {c : Addr} (h : c ∈ A.cs) : c ∈ A.all := by simp [CAd.all, h]
section
variable {P : Program} {w : World} {h : Heap} {K : PySem.W.Frag} {mg : Str → Option Value} {base : Heap}
abbrev N_Code_keep : List Str := ["self", "statement", "parent"]
theorem sc_Code_keep : FnScope N_Code_keep ["self", "statement", "parent"] (defScope sd_Code_keep) := ⟨rfl, rfl, rfl, by decide +kernel, rfl, by decide +kernel, by decide +kernel⟩
theorem ok_Code_keep (T : Tx w h K mg) : Ok P w K mg base 1 ("Code", some "keep") ["self", "statement", "parent"] (sp_Code_keep K) := by
  obtain ⟨fd, F⟩ := F_Code_keep T
  refine ⟨fd, ?_, F.bindsN (fun _ _ _ _ _ _ us hl => match us, hl with | [_, _, _], _ => rfl), F.kp⟩
  refine F.ok sc_Code_keep (fun vs H Q E h => ?_) (fun cdv A outer s H vs Q E hr h => ?_)
  · obtain ⟨F0, A, rows, v, d, loops, par, rfl, xF, ⟨L1, C, dL⟩, nw, hd, hs, hl, hpar, q⟩ := h
    rfl
  · obtain ⟨F0, A, rows, v, d, loops, par, rfl, xF, ⟨L1, C, dL⟩, nw, hd, hs, hl, hpar, q⟩ := h
    refine ⟨_, PSs.nox (Evl.pss_cut (ps_if (pt_cmpR op_notN (pv 2) pe_non (nomark _)) (pss_one (ps_expr (pe_bm PySem.F.plainAttrs_list PySem.F.slot_list_append PySem.F.type_list_append mt_append (pe_ix ix_list (pe_fld (pv 0) rfl) (pv 2) (fun _ _ => rfl)) (pa_cons (pe_callB call_len_seq rfl (fr_len T) b_len (pa_cons (pe_fld (pv 0) rfl) pa_nil)) pa_nil)))) pss_nil) (pss_cons (ps_expr (pe_bm PySem.F.plainAttrs_list PySem.F.slot_list_append PySem.F.type_list_append mt_append (pe_fld (pv 0) rfl) (pa_cons (pv 1) pa_nil))) (pss_cons (ps_expr (pe_bm PySem.F.plainAttrs_list PySem.F.slot_list_append PySem.F.type_list_append mt_append (pe_fld (pv 0) rfl) (pa_cons (pe_ix ix_tup (pv 1) pe_int (fun _ _ => rfl)) pa_nil))) (Evl.pss_cut (ps_expr (pe_bm PySem.F.plainAttrs_list PySem.F.slot_list_append PySem.F.type_list_append mt_append (pe_fld (pv 0) rfl) (pa_cons (pe_ifExp (pt_cmpR op_in_seq (pe_ix ix_tup (pv 1) pe_int (fun _ _ => rfl)) (pe_op op_catT (pe_glob (v := .ref (He.ga K "NAMED")) rfl (g_NAMED T) rfl) (pe_glob (v := .ref (He.ga K "JUMPS")) rfl (g_JUMPS T) rfl)) (by rfl)) (pe_ix ix_tup (pv 1) pe_int (fun _ _ => rfl)) pe_non) pa_nil))) (pss_cons (ps_expr (pe_bm PySem.F.plainAttrs_list PySem.F.slot_list_append PySem.F.type_list_append mt_append (pe_fld (pv 0) rfl) (pa_cons (pv 2) pa_nil))) (pss_one (ps_expr (pe_bm PySem.F.plainAttrs_list PySem.F.slot_list_append PySem.F.type_list_append mt_append (pe_fld (pv 0) rfl) (pa_cons (pe_lst pa_nil) pa_nil))))))))), ?_⟩
    obtain ⟨k, r, n, rfl, _, _, _⟩ := isStm_shape hs
    obtain ⟨a, xs, rfl, hS, hA⟩ := dp_tup hd
    cases hA with
    | @cons v0 xr _ _ h0 hA =>
    obtain rfl := dp_str h0
    -- the parent's list of parts
    refine ⟨fun σ' H' => σ' = L2.start N_Code_keep [.ref A.p, .ref a, parV par] ∧ CL K H' A L1 (rows.map fun r => V.str (kindD r.d)) (rows.map fun r => labD r.d) (rows.map fun r => parV r.par) ((stepRows rows par).map fun r => intsV r.ch) ∧ Ex F0 H' ∧ (∀ b o, H b = some o → b ∉ A.all → H' b = some o) ∧ (∀ b, H' b = none → H b = none), ?_, ?_⟩
    · refine ⟨_, rfl, rfl, _, rfl, ite_of (fun h1 => ?_) (fun h1 => ?_)⟩
      · cases par with
        | none => cases h1
        | some i =>
        obtain ⟨ri, e1, e2⟩ := hpar i rfl
        have li : i < A.cs.length := by rw [C.cl, List.length_map]; exact (List.getElem?_eq_some_iff.mp e1).1
        have hci : A.cs[i]? = some A.cs[i] := List.getElem?_eq_getElem li
        have hcm : A.cs[i] ∈ A.cs := List.getElem_mem li
        have hcc := C.cc i _ _ hci (show (rows.map fun r => intsV r.ch)[i]? = some (intsV ri.ch) from by rw [List.getElem?_map, e1] <;> rfl)
        refine ⟨_, rfl, A.p, _, _, _, _, rfl, C.ob, c_Code T, na_Code_children T, fl_Code_children _ _ _ _ _, _, rfl, A.a5, _, _, .ref A.cs[i], rfl, rfl, Evl.sq_of C.h5, atI_nat (by rw [List.getElem?_map, hci] <;> rfl), Or.inl ⟨rfl, _, Evl.sq_of hcc⟩, ?_⟩
        refine ⟨_, rfl, A.p, _, _, _, _, rfl, C.ob, c_Code T, na_Code_kinds T, fl_Code_kinds _ _ _ _ _, A.a2, _, rfl, .inl (Evl.sq_of C.h2), A.cs[i], _, _, rfl, rfl, hcc, szl (by rw [intsV, List.length_map]; omega), ?_⟩
        refine ⟨rfl, ?_, exm xF (nw _ (in_allc hcm)), fun b o e hb => by rw [upd_ne (fun z => hb (by rw [z]; exact in_allc hcm))]; exact e, fun b e => ?_⟩
        · have y := C.child hci (intsV ri.ch ++ [.int ((rows.map fun r => V.str (kindD r.d)).length : Int)])
          have e3 : (stepRows rows (some i)).map (fun r => intsV r.ch) = (rows.map fun r => intsV r.ch).set i (intsV ri.ch ++ [.int ((rows.map fun r => V.str (kindD r.d)).length : Int)]) := by
            rw [List.length_map]
            exact addCh_ch rows i rows.length ri e1
          rw [e3]
          exact y
        · by_cases z : b = A.cs[i]
          · rw [z, upd_same] at e
            cases e
          · rw [upd_ne z] at e
            exact e
      · cases par with
        | some i => cases h1
        | none => exact ⟨rfl, C, xF, fun b o e _ => e, fun b e => e⟩
    rintro σ' H1 ⟨rfl, C1, xF1, kp1, fr1⟩
    have es : (stepRows rows par).map (fun r => V.str (kindD r.d)) = rows.map (fun r => V.str (kindD r.d)) := by cases par with
      | none => rfl
      | some i => exact addCh_map _ rows i _ fun _ => rfl
    have el : (stepRows rows par).map (fun r => labD r.d) = rows.map (fun r => labD r.d) := by cases par with
      | none => rfl
      | some i => exact addCh_map _ rows i _ fun _ => rfl
    have ep : (stepRows rows par).map (fun r => parV r.par) = rows.map (fun r => parV r.par) := by cases par with
      | none => rfl
      | some i => exact addCh_map _ rows i _ fun _ => rfl
    have ed : (stepRows rows par).map Row.d = rows.map Row.d := by cases par with
      | none => rfl
      | some i => exact addCh_map _ rows i _ fun _ => rfl
    have l1 : L1.length = rows.length := by rw [dpA_len dL, List.length_map]
    -- self.statements.append(statement)
    refine ⟨_, rfl, A.p, _, _, _, _, rfl, C1.ob, c_Code T, na_Code_statements T, fl_Code_statements _ _ _ _ _, Or.inl ⟨rfl, _, Evl.sq_of C1.h1⟩, _, rfl, A.a1, _, _, rfl, rfl, C1.h1, szl (by omega), ?_⟩
    have C2 := C1.s1 (L1 ++ [.ref a])
    have xF2 := exm (o := .lst (L1 ++ [.ref a])) xF1 (nw _ (in_all1 A))
    -- self.kinds.append(statement[0])
    refine ⟨_, rfl, A.p, _, _, _, _, rfl, C2.ob, c_Code T, na_Code_kinds T, fl_Code_kinds _ _ _ _ _, Or.inl ⟨rfl, _, Evl.sq_of C2.h2⟩, _, rfl, a, _, _, _, rfl, rfl, Evl.ex_t xF2 hS, at0, A.a2, _, _, rfl, rfl, C2.h2, szl (by rw [List.length_map]; omega), ?_⟩
    have C3 := C2.s2 (rows.map (fun r => V.str (kindD r.d)) ++ [.str k])
    have xF3 := exm (o := .lst (rows.map (fun r => V.str (kindD r.d)) ++ [.str k])) xF2 (nw _ (in_all2 A))
    -- self.labels.append(..)
    refine ⟨fun σ' H' => σ' = L2.start N_Code_keep [.ref A.p, .ref a, parV par] ∧ CL K H' A (L1 ++ [.ref a]) (rows.map (fun r => V.str (kindD r.d)) ++ [.str k]) (rows.map (fun r => labD r.d) ++ [labD (.tuple (.str k :: r))]) (rows.map fun r => parV r.par) ((stepRows rows par).map fun r => intsV r.ch) ∧ Ex F0 H' ∧ (∀ b o, H b = some o → b ∉ A.all → H' b = some o) ∧ (∀ b, H' b = none → H b = none), ?_, ?_⟩
    · refine ⟨_, rfl, A.p, _, _, _, _, rfl, C3.ob, c_Code T, na_Code_labels T, fl_Code_labels _ _ _ _ _, Or.inl ⟨rfl, _, Evl.sq_of C3.h3⟩, _, rfl, a, _, _, _, rfl, rfl, Evl.ex_t xF3 hS, at0, He.ga K "NAMED", He.ga K "JUMPS", _, _, rfl, rfl, t_NAMED T _, t_JUMPS T _, (by simp), sz (by decide), (fun z => by cases z), fun _ p0 hp0 => ?_⟩
      have C4 := C3.off (o := .tup (kLab.map V.str)) (C3.fresh hp0)
      have xF4 : Ex F0 _ := exu (o := .tup (kLab.map V.str)) xF3 hp0
      have fin : ∀ (o1 o2 o4 : HO) (H5 : Hp), H5 = upd (upd (upd (upd H1 A.a1 o1) A.a2 o2) p0 (.tup (kLab.map V.str))) A.a3 o4 → (∀ b o, H b = some o → b ∉ A.all → H5 b = some o) ∧ (∀ b, H5 b = none → H b = none) := by
        intro o1 o2 o4 H5 e5
        subst e5
        have back : ∀ {Hx : Hp} {q b : Addr} {o : HO}, upd Hx q o b = none → Hx b = none := fun {Hx q b o} e => by
          by_cases z : b = q
          · rw [z, upd_same] at e; cases e
          · rw [upd_ne z] at e; exact e
        refine ⟨fun b o e hb => ?_, fun b e => fr1 b (back (back (back (back e))))⟩
        have e1 := kp1 b o e hb
        have np : b ≠ p0 := fun z => by
          have y : H1 p0 = none := by
            have y1 := back (back hp0)
            exact y1
          rw [z, y] at e1
          cases e1
        rw [upd_ne (fun z => hb (by rw [z]; exact in_all3 A)), upd_ne np, upd_ne (fun z => hb (by rw [z]; exact in_all2 A)), upd_ne (fun z => hb (by rw [z]; exact in_all1 A))]
        exact e1
      have tail : ∀ u, u = labD (.tuple (.str k :: r)) → rAppend (.ref A.a3) [u] (upd (upd (upd H1 A.a1 (.lst (L1 ++ [.ref a]))) A.a2 (.lst (rows.map (fun r => V.str (kindD r.d)) ++ [.str k]))) p0 (.tup (kLab.map V.str))) (fun _ H' => L2.start N_Code_keep [.ref A.p, .ref a, parV par] = L2.start N_Code_keep [.ref A.p, .ref a, parV par] ∧ CL K H' A (L1 ++ [.ref a]) (rows.map (fun r => V.str (kindD r.d)) ++ [.str k]) (rows.map (fun r => labD r.d) ++ [labD (.tuple (.str k :: r))]) (rows.map fun r => parV r.par) ((stepRows rows par).map fun r => intsV r.ch) ∧ Ex F0 H' ∧ (∀ b o, H b = some o → b ∉ A.all → H' b = some o) ∧ (∀ b, H' b = none → H b = none)) := by
        rintro u rfl
        obtain ⟨f1, f2⟩ := fin (.lst (L1 ++ [.ref a])) (.lst (rows.map (fun r => V.str (kindD r.d)) ++ [.str k])) (.lst (rows.map (fun r => labD r.d) ++ [labD (.tuple (.str k :: r))])) _ rfl
        exact ⟨A.a3, _, _, rfl, rfl, C4.h3, szl (by rw [List.length_map]; omega), rfl, C4.s3 _, exm xF4 (nw _ (in_all3 A)), f1, f2⟩
      refine ⟨p0, kLab.map V.str, rfl, .inr (Evl.st_of upd_same), rfl, flat_strs kLab, _, rfl, ite_of (fun h2 => ?_) (fun h2 => ?_)⟩
      · have h2 : inV (.str k) (kLab.map V.str) = true := h2
        rw [inV_strs] at h2
        have hm := of_decide_eq_true h2
        rcases stm_lab hs hm with ⟨x, r', rfl⟩ | ⟨x, r', rfl⟩
        · cases hA with
          | @cons v1 xr' _ _ g1 hA =>
          obtain rfl := dp_str g1
          refine ⟨_, rfl, a, _, _, _, rfl, rfl, Evl.ex_t xF4 hS, at1, tail _ ?_⟩
          simp only [labD, if_pos hm]
        · cases hA with
          | @cons v1 xr' _ _ g1 hA =>
          obtain rfl := dp_int g1
          refine ⟨_, rfl, a, _, _, _, rfl, rfl, Evl.ex_t xF4 hS, at1, tail _ ?_⟩
          simp only [labD, if_pos hm]
      · have h2 : inV (.str k) (kLab.map V.str) = false := h2
        rw [inV_strs] at h2
        have hm : ¬ k ∈ kLab := of_decide_eq_false h2
        refine tail _ ?_
        simp only [labD, if_neg hm]
    rintro σ' H5 ⟨rfl, C5, xF5, kp5, fr5⟩
    -- self.parents.append(parent)
    refine ⟨_, rfl, A.p, _, _, _, _, rfl, C5.ob, c_Code T, na_Code_parents T, fl_Code_parents _ _ _ _ _, Or.inl ⟨rfl, _, Evl.sq_of C5.h4⟩, _, rfl, A.a4, _, _, rfl, rfl, C5.h4, szl (by rw [List.length_map]; omega), ?_⟩
    have C6 := C5.s4 (rows.map (fun r => parV r.par) ++ [parV par])
    -- self.children.append([])
    refine ⟨_, rfl, A.p, _, _, _, _, rfl, C6.ob, c_Code T, na_Code_children T, fl_Code_children _ _ _ _ _, Or.inl ⟨rfl, _, Evl.sq_of C6.h5⟩, sz (by decide), fun c hc => ?_⟩
    have nc5 : A.a5 ≠ c := fun z => C6.fresh hc (by rw [← z]; exact in_all5 A)
    refine ⟨A.a5, _, _, rfl, rfl, by rw [upd_ne nc5]; exact C6.h5, szl (by rw [List.length_map, C6.cl, List.length_map, stepRows_len]; omega), ?_⟩
    have C7 := C6.push hc
    have nc4 : c ≠ A.a4 := fun z => C6.fresh hc (by rw [z]; exact in_all4 A)
    have hcH : H c = none := fr5 c (by rw [upd_ne nc4] at hc; exact hc)
    have ea : addRow rows (.tuple (.str k :: r)) par = stepRows rows par ++ [⟨.tuple (.str k :: r), par, []⟩] := by cases par <;> rfl
    refine q c _ hcH ⟨L1 ++ [.ref a], ?_, ?_⟩ fun b o e hb => ?_
    · rw [ea, List.map_append, List.map_append, List.map_append, List.map_append, es, el, ep]
      exact C7
    · rw [ea, List.map_append, ed]
      exact dpA_app dL (.cons hd .nil)
    · have e5 := kp5 b o e hb
      have ncb : b ≠ c := fun z => by rw [z, hcH] at e; cases e
      rw [upd_ne (fun z => hb (by rw [z]; exact in_all5 A)), upd_ne ncb, upd_ne (fun z => hb (by rw [z]; exact in_all4 A))]
      exact e5
end

end Fc

set_option maxRecDepth 100000
set_option maxHeartbeats 4000000
namespace Fc
open PySem PySem.Spec PyProof.Rows L2 FcR
open Evl (Ex)
/-! ### Code(..): the stack of what waits -/
structure WIt where
  d : PyData
  par : Option Nat
  deep : Nat
  loops : Nat
  blocks : Nat
def okIt (it : WIt) (n : Nat) : Prop := n < 400 ∧ it.deep ≤ 100 ∧ it.blocks ≤ 25 ∧ isStm it.d (it.loops : Int) = true
def newIt (it : WIt) (n : Nat) (at_ : Nat) (part : PyData) : WIt :=
  ⟨part, some n, it.deep + 1, it.loops + (if kindD it.d = "while" then 1 else 0), it.blocks + (if kindD it.d = "final" ∧ at_ = 1 then 1 else 0)⟩
def newIts (it : WIt) (n : Nat) : List WIt := (partsD it.d).mapIdx fun i p => newIt it n i p
inductive Builds : Nat → List WIt → List Row → List Row → Prop
  | done (rows : List Row) : Builds 0 [] rows rows
  | step {n : Nat} {it : WIt} {st : List WIt} {rows fin : List Row} (ok : okIt it rows.length) (h : Builds n (newIts it rows.length ++ st) (addRow rows it.d it.par) fin) : Builds (n + 1) (it :: st) rows fin
theorem Builds.len {m : Nat} {st : List WIt} {rows fin : List Row} (b : Builds m st rows fin) : st.length ≤ m := by
  induction b with
  | done => exact Nat.le_refl _
  | step ok h ih =>
    rw [List.length_append] at ih
    rw [List.length_cons]
    omega
def wV (v : V) (it : WIt) : List V := [v, parV it.par, .int (it.deep : Int), .int (it.loops : Int), .int (it.blocks : Int)]
def parD : Option Nat → PyData
  | none => .none
  | some i => .int (i : Int)
def wD (it : WIt) : PyData := .tuple [it.d, parD it.par, .int (it.deep : Int), .int (it.loops : Int), .int (it.blocks : Int)]
/-- tuples at ts, the items st -/
inductive WAt (K : PySem.W.Frag) (F : Hp) : List Addr → List WIt → Prop
  | nil : WAt K F [] []
  | cons {t : Addr} {ts : List Addr} {it : WIt} {st : List WIt} {v : V} (h : F t = some (.tup (wV v it))) (hd : Dp K F v it.d) (r : WAt K F ts st) : WAt K F (t :: ts) (it :: st)
theorem WAt.ex {K : PySem.W.Frag} {F F' : Hp} (e : Ex F F') : ∀ {ts : List Addr} {st : List WIt}, WAt K F ts st → WAt K F' ts st
  | _, _, .nil => .nil
  | _, _, .cons h hd r => .cons (e _ _ h) (dp_ex e hd) (WAt.ex e r)
theorem WAt.len {K : PySem.W.Frag} {F : Hp} : ∀ {ts : List Addr} {st : List WIt}, WAt K F ts st → ts.length = st.length
  | _, _, .nil => rfl
  | _, _, .cons _ _ r => congrArg Nat.succ (WAt.len r)
theorem dp_par {K : PySem.W.Frag} {F : Hp} (o : Option Nat) : Dp K F (parV o) (parD o) := by
  cases o with
  | none => exact .non
  | some i => exact .int _
theorem WAt.dp {K : PySem.W.Frag} {F : Hp} : ∀ {ts : List Addr} {st : List WIt}, WAt K F ts st → DpAll K F (ts.map V.ref) (st.map wD)
  | _, _, .nil => .nil
  | _, _, .cons h hd r => .cons (.tup (Evl.st_of h) (.cons hd (.cons (dp_par _) (.cons (.int _) (.cons (.int _) (.cons (.int _) .nil)))))) (WAt.dp r)
theorem dpA_rev {K : PySem.W.Frag} {F : Hp} : ∀ {ds : List PyData} {vs : List V}, DpAll K F vs ds → DpAll K F vs.reverse ds.reverse
  | _, _, .nil => .nil
  | _, _, .cons h a => by
    rw [List.reverse_cons, List.reverse_cons]
    exact dpA_app (dpA_rev a) (.cons h .nil)
theorem canAll {l : List PyData} (h : ∀ d ∈ l, PyData.canLay0 d = true) : PyData.canLayAll0 l = true := by
  induction l with
  | nil => rfl
  | cons a l ih =>
    show (PyData.canLay0 a && PyData.canLayAll0 l) = true
    rw [h a List.mem_cons_self, ih fun d hd => h d (List.mem_cons_of_mem _ hd)] <;> rfl
theorem can_wD {it : WIt} (h : PyData.canLay0 it.d = true) : PyData.canLay0 (wD it) = true := by
  show (PyData.canLay0 it.d && (PyData.canLay0 (parD it.par) && (PyData.canLay0 (.int _) && (PyData.canLay0 (.int _) && (PyData.canLay0 (.int _) && PyData.canLayAll0 []))))) = true
  rw [h]
  cases it.par <;> rfl
theorem eqv_lnil (ds : List PyData) : PyData.eqv (.list ds) (.list []) = ds.isEmpty := by
  cases ds <;> simp [PyData.eqv, PyData.eqvAll]
theorem min_lnil (d : PyData) : min d.depth (PyData.list []).depth ≤ 200 := Nat.le_trans (Nat.min_le_right _ _) (by decide)
def sp_Code___init__ (K : PySem.W.Frag) : Sp := fun vs H Q _ => ∃ (F : Hp) (p dx : Addr) (v : V) (d : PyData) (G : PyData → Prop) (N : Nat) (fin : List Row), vs = [.ref p, v] ∧ H p = some (.ins (He.ga K "Code") dx []) ∧ Ex F H ∧ F p = none ∧ Dp K F v d ∧
  (∀ e, G e → PyData.canLay0 e = true ∧ szD e ∧ ∀ x ∈ partsD e, G x) ∧ G d ∧ Builds N [⟨d, none, 1, 0, 0⟩] [] fin ∧
  ∀ A F' H', A.p = p → Gr (fun b => b = p) F H F' H' → CodeH K F' F' A fin → Q .non H'

theorem nn_of {H : Hp} {a b : Addr} {o : HO} (h : H a = none) (h' : H b = some o) : b ≠ a := ne_of_none h' h
theorem up_none {H : Hp} {a b : Addr} {o : HO} (h : upd H a o b = none) : b ≠ a ∧ H b = none := by
  by_cases z : b = a
  · rw [z, upd_same] at h; cases h
  · rw [upd_ne z] at h; exact ⟨z, h⟩
/-- between two turns of the loop -/
structure InW (K : PySem.W.Frag) (F0 H : Hp) (p wq : Addr) (Gd : PyData → Prop) (st : List WIt) (rows : List Row) (A : CAd) (ts : List Addr) (F' H' : Hp) : Prop where
  ap : A.p = p
  code : CodeH K F' H' A rows
  na : ∀ b ∈ A.all, F' b = none
  wa : wq ∉ A.all
  fw : F' wq = none
  wl : H' wq = some (.lst (ts.map V.ref).reverse)
  wi : WAt K F' ts st
  ff : Ex F0 F'
  fh : Ex F' H'
  nw : ∀ b, H b ≠ none → F0 b = none → F' b = none
  kp : ∀ b o, H b = some o → b ≠ p → H' b = some o
  nh : ∀ b ∈ A.all, b = p ∨ H b = none
  hw : H wq = none
  it : ∀ i ∈ st, Gd i.d ∧ ∀ j, i.par = some j → j < rows.length
  ch : ∀ r ∈ rows, r.ch.length ≤ rows.length
theorem InW.fresh {K : PySem.W.Frag} {F0 H F' H' : Hp} {p wq : Addr} {Gd : PyData → Prop} {st : List WIt} {rows : List Row} {A : CAd} {ts : List Addr} (x : InW K F0 H p wq Gd st rows A ts F' H') {c : Addr} (h : H' c = none) : H c = none ∧ F' c = none ∧ c ∉ A.all ∧ c ≠ wq := by
  obtain ⟨vs, C, _⟩ := x.code
  have n : c ∉ A.all := C.fresh h
  have np : c ≠ p := fun z => n (by rw [z, ← x.ap]; simp [CAd.all])
  refine ⟨?_, ?_, n, fun z => by rw [z, x.wl] at h; cases h⟩
  · cases e : H c with
    | none => rfl
    | some o => rw [x.kp c o e np] at h; cases h
  · cases e : F' c with
    | none => rfl
    | some o => rw [x.fh c o e] at h; cases h
section
variable {K : PySem.W.Frag} {F0 H F' H' F2 H2 : Hp} {p wq : Addr} {Gd : PyData → Prop} {st : List WIt} {rows : List Row} {A : CAd} {ts : List Addr}
theorem CodeH.ex {F F2 H H2 : Hp} (c : CodeH K F H A rows) (e1 : Ex F F2) (e2 : Ex H H2) : CodeH K F2 H2 A rows := by
  obtain ⟨vs, C, dL⟩ := c
  exact ⟨vs, C.ex e2, dpA_ex e1 dL⟩
theorem InW.tr (x : InW K F0 H p wq Gd st rows A ts F' H') {b : Addr} (hb : b ∈ A.all) : H' b ≠ none := fun z => by
  obtain ⟨vs, C, _⟩ := x.code
  exact C.fresh z hb
theorem InW.there (x : InW K F0 H p wq Gd st rows A ts F' H') {b : Addr} (hb : H b ≠ none) : H' b ≠ none := by
  by_cases z : b = p
  · exact x.tr (by rw [z, ← x.ap]; simp [CAd.all])
  · intro y
    cases e : H b with
    | none => exact hb e
    | some o => rw [x.kp b o e z] at y; cases y
theorem InW.ext (x : InW K F0 H p wq Gd st rows A ts F' H') (e1 : Ex F' F2) (e2 : Ex F2 H2) (e3 : Ex H' H2) (e4 : ∀ b, H' b ≠ none → F' b = none → F2 b = none) : InW K F0 H p wq Gd st rows A ts F2 H2 :=
  ⟨x.ap, x.code.ex e1 e3, fun b hb => e4 b (x.tr hb) (x.na b hb), x.wa, e4 wq (by rw [x.wl]; exact fun z => nomatch z) x.fw, e3 _ _ x.wl, x.wi.ex e1, x.ff.trans e1, e2, fun b h1 h2 => e4 b (x.there h1) (x.nw b h1 h2), fun b o e hb => e3 b o (x.kp b o e hb), x.nh, x.hw, x.it, x.ch⟩
theorem InW.new (x : InW K F0 H p wq Gd st rows A ts F' H') {q : Addr} {o : HO} (h : H' q = none) : InW K F0 H p wq Gd st rows A ts F' (upd H' q o) :=
  x.ext (Evl.Ex.refl _) (exu x.fh h) (exu (Evl.Ex.refl _) h) fun _ _ e => e
theorem InW.pop {it : WIt} {t : Addr} (x : InW K F0 H p wq Gd (it :: st) rows A (t :: ts) F' H') : InW K F0 H p wq Gd st rows A ts F' (upd H' wq (.lst (ts.map V.ref).reverse)) := by
  obtain ⟨vs, C, dL⟩ := x.code
  refine ⟨x.ap, ⟨vs, C.off x.wa, dL⟩, x.na, x.wa, x.fw, upd_same, ?_, x.ff, exm x.fh x.fw, x.nw, fun b o e hb => ?_, x.nh, x.hw, fun i hi => x.it i (List.mem_cons_of_mem _ hi), x.ch⟩
  · cases x.wi with
    | cons _ _ r => exact r
  · rw [upd_ne (nn_of x.hw e)]
    exact x.kp b o e hb
theorem addRow_len (rows : List Row) (d : PyData) (par : Option Nat) : (addRow rows d par).length = rows.length + 1 := by
  cases par with
  | none => simp [addRow]
  | some i => simp [addRow, addCh]
theorem Builds.bd {m : Nat} {st : List WIt} {rows fin : List Row} (b : Builds m st rows fin) : m = 0 ∨ rows.length + m ≤ 400 := by
  induction b with
  | done => exact .inl rfl
  | step ok h ih =>
    rw [addRow_len] at ih
    have := ok.1
    omega
theorem addRow_ch {rows : List Row} {d : PyData} {par : Option Nat} (h : ∀ r ∈ rows, r.ch.length ≤ rows.length) : ∀ r ∈ addRow rows d par, r.ch.length ≤ (addRow rows d par).length := by
  rw [addRow_len]
  intro r hr
  rcases List.mem_append.mp hr with hr | hr
  · cases par with
    | none =>
      have := h r hr
      omega
    | some i =>
      have hr : r ∈ addCh rows i rows.length := hr
      obtain ⟨j, hj⟩ := List.mem_iff_getElem?.mp hr
      rw [addCh_eq, List.getElem?_modify] at hj
      cases e : rows[j]? with
      | none => rw [e] at hj; simp at hj
      | some r0 =>
        rw [e] at hj
        have h0 := h r0 (List.mem_of_getElem? e)
        by_cases z : i = j
        · simp [z] at hj
          rw [← hj]
          simp [noteCh]
          omega
        · simp [z] at hj
          rw [← hj]
          omega
  · rw [List.mem_singleton.mp hr]
    simp
theorem InW.kept (x : InW K F0 H p wq Gd st rows A ts F' H') {c : Addr} {d : PyData} {par : Option Nat} (hc : H' c = none) (cd : CodeH K F' H2 { A with cs := A.cs ++ [c] } (addRow rows d par)) (kp : ∀ b o, H' b = some o → b ∉ A.all → H2 b = some o) :
    InW K F0 H p wq Gd st (addRow rows d par) { A with cs := A.cs ++ [c] } ts F' H2 := by
  obtain ⟨f1, f2, f3, f4⟩ := x.fresh hc
  have mem : ∀ b, b ∈ ({ A with cs := A.cs ++ [c] } : CAd).all → b ∈ A.all ∨ b = c := fun b hb => by
    simp only [CAd.all, List.mem_cons, List.mem_append, List.not_mem_nil, or_false] at hb ⊢
    rcases hb with h | h | h | h | h | h | h | h <;> simp [h]
  refine ⟨x.ap, cd, fun b hb => ?_, fun hb => ?_, x.fw, kp _ _ x.wl x.wa, x.wi, x.ff, fun b o e => kp b o (x.fh b o e) (fun z => by rw [x.na b z] at e; cases e), x.nw, fun b o e hb => ?_, fun b hb => ?_, x.hw, fun i hi => ⟨(x.it i hi).1, fun j e => ?_⟩, addRow_ch x.ch⟩
  · rcases mem b hb with h | h
    · exact x.na b h
    · rw [h]; exact f2
  · rcases mem wq hb with h | h
    · exact x.wa h
    · exact f4 h.symm
  · refine kp b o (x.kp b o e hb) fun z => ?_
    rcases x.nh b z with y | y
    · exact hb y
    · rw [y] at e; cases e
  · rcases mem b hb with h | h
    · exact x.nh b h
    · rw [h]; exact .inr f1
  · rw [addRow_len]
    have := (x.it i hi).2 j e
    omega
theorem InW.push {it : WIt} {t : Addr} {v : V} (x : InW K F0 H p wq Gd st rows A ts F' H') (ht : H' t = none) (hd : Dp K F' v it.d) (hit : Gd it.d ∧ ∀ j, it.par = some j → j < rows.length) :
    InW K F0 H p wq Gd (it :: st) rows A (t :: ts) (upd F' t (.tup (wV v it))) (upd (upd H' t (.tup (wV v it))) wq (.lst (((t :: ts).map V.ref).reverse))) := by
  obtain ⟨f1, f2, f3, f4⟩ := x.fresh ht
  have x1 := x.ext (F2 := upd F' t (.tup (wV v it))) (H2 := upd H' t (.tup (wV v it))) (exu (Evl.Ex.refl _) f2) (fun b o e => by
      by_cases z : b = t
      · rw [z, upd_same] at e ⊢; exact e
      · rw [upd_ne z] at e ⊢; exact x.fh b o e) (exu (Evl.Ex.refl _) ht) (fun b h1 h2 => by rw [upd_ne (fun z => h1 (by rw [z]; exact ht))]; exact h2)
  obtain ⟨vs, C, dL⟩ := x1.code
  refine ⟨x.ap, ⟨vs, C.off x.wa, dL⟩, x1.na, x.wa, x1.fw, upd_same, .cons upd_same (dp_ex (exu (Evl.Ex.refl _) f2) hd) x1.wi, x1.ff, exm x1.fh x1.fw, x1.nw, fun b o e hb => ?_, x.nh, x.hw, fun i hi => ?_, x.ch⟩
  · rw [upd_ne (nn_of x.hw e)]
    exact x1.kp b o e hb
  · rcases List.mem_cons.mp hi with rfl | hi
    · exact hit
    · exact x.it i hi
end
theorem newIts_len (it : WIt) (n : Nat) : (newIts it n).length = (partsD it.d).length := by simp [newIts]
theorem newIts_get {it : WIt} {n j : Nat} {d : PyData} (h : (partsD it.d)[j]? = some d) : (newIts it n)[j]? = some (newIt it n j d) := by
  unfold newIts
  rw [List.getElem?_mapIdx, h] <;> rfl
theorem wV_new (v : V) (it : WIt) (n j : Nat) (d : PyData) : wV v (newIt it n j d) = [v, .int (n : Int), .int ((it.deep : Int) + 1), .int ((it.loops : Int) + (if decide (V.str (kindD it.d) = V.str "while") = true then 1 else 0)),
    .int ((it.blocks : Int) + (if kindD it.d = "final" ∧ j = 1 then 1 else 0))] := by
  have e1 : ((it.deep + 1 : Nat) : Int) = (it.deep : Int) + 1 := by omega
  have e2 : ((it.loops + (if kindD it.d = "while" then 1 else 0) : Nat) : Int) = (it.loops : Int) + (if decide (V.str (kindD it.d) = V.str "while") = true then 1 else 0) := by
    by_cases z : kindD it.d = "while"
    · rw [if_pos z, if_pos (decide_eq_true (by rw [z]))] <;> omega
    · rw [if_neg z, if_neg (fun y => z (V.str.inj (of_decide_eq_true y)))] <;> omega
  have e3 : ((it.blocks + (if kindD it.d = "final" ∧ j = 1 then 1 else 0) : Nat) : Int) = (it.blocks : Int) + (if kindD it.d = "final" ∧ j = 1 then 1 else 0) := by
    by_cases z : kindD it.d = "final" ∧ j = 1
    · rw [if_pos z, if_pos z] <;> omega
    · rw [if_neg z, if_neg z] <;> omega
  show [v, V.int (n : Int), V.int ((it.deep + 1 : Nat) : Int), V.int ((it.loops + (if kindD it.d = "while" then 1 else 0) : Nat) : Int), V.int ((it.blocks + (if kindD it.d = "final" ∧ j = 1 then 1 else 0) : Nat) : Int)] = _
  rw [e1, e2, e3]
section
variable {P : Program} {w : World} {h : Heap} {K : PySem.W.Frag} {mg : Str → Option Value} {base : Heap}
abbrev N_Code___init__ : List Str := ["self", "statement", "waiting", "value", "parent", "deep", "loops", "blocks", "number", "at", "part", "inside"]
theorem sc_Code___init__ : FnScope N_Code___init__ ["self", "statement"] (defScope sd_Code___init__) := ⟨rfl, rfl, rfl, by decide +kernel, rfl, by decide +kernel, by decide +kernel⟩
theorem okF_Code___init__ (T : Tx w h K mg) : ∃ fd, FnOk P w K mg base (CX P w) 6 (He.fAd K ("Code", some "__init__")) fd ["self", "statement"] (sp_Code___init__ K) ∧ Binds K fd ["self", "statement"] [] ∧ PySem.W.keepIn K (.ref (He.fAd K ("Code", some "__init__"))) = true ∧ FunD K "__init__" "Code.__init__" (defArgs sd_Code___init__) (defBody sd_Code___init__) (defScope sd_Code___init__) [] [] (He.fAd K ("Code", some "__init__")) fd := by
  obtain ⟨fd, F⟩ := F_Code___init__ T
  refine ⟨fd, ?_, F.bindsN (fun _ _ _ _ _ _ us hl => match us, hl with | [_, _], _ => rfl), F.kp, F⟩
  obtain ⟨fd_parts_in, G_parts_in, bi_parts_in, kp_parts_in⟩ := ok_parts_in (P := P) (base := base) T
  obtain ⟨fd_Code_check, G_Code_check, bi_Code_check, kp_Code_check⟩ := ok_Code_check (P := P) (base := base) T
  obtain ⟨fd_Code_keep, G_Code_keep, bi_Code_keep, kp_Code_keep⟩ := ok_Code_keep (P := P) (base := base) T
  refine F.ok sc_Code___init__ (fun vs H Q E h => ?_) (fun cdv A outer s H vs Q E hr h => ?_)
  · obtain ⟨F0, p, dx, v, d, Gd, N, fin, rfl, hp, xF, Fp, hd, hG, hGd, hB, q⟩ := h
    rfl
  · obtain ⟨F0, p, dx, v, d, Gd, N, fin, rfl, hp, xF, Fp, hd, hG, hGd, hB, q⟩ := h
    refine ⟨_, PSs.nox (Evl.pss_cut (ps_asg (pe_tup (pa_cons (pe_lst pa_nil) (pa_cons (pe_lst pa_nil) (pa_cons (pe_lst pa_nil) pa_nil)))) (pg_tup rfl (pgs_cons (FcR.pg_fld (pv 0)) (pgs_cons (FcR.pg_fld (pv 0)) (pgs_cons (FcR.pg_fld (pv 0)) pgs_nil))))) (Evl.pss_cut (ps_asg (pe_tup (pa_cons (pe_lst pa_nil) (pa_cons (pe_lst pa_nil) pa_nil))) (pg_tup rfl (pgs_cons (FcR.pg_fld (pv 0)) (pgs_cons (FcR.pg_fld (pv 0)) pgs_nil)))) (pss_cons (ps_set (i := 2) sc_Code___init__.nd rfl (Or.inl rfl) (pe_lst (pa_cons (pe_tup (pa_cons (pv 1) (pa_cons pe_non (pa_cons pe_int (pa_cons pe_int (pa_cons pe_int pa_nil)))))) pa_nil))) (pss_one (ps_while PassesOwn.never (pt_cmpR (op_neM hr) (pv 2) (pe_lst pa_nil) (nomark _)) (pss_cons (ps_asg (pe_bm0 PySem.F.plainAttrs_list PySem.F.slot_list_pop PySem.F.type_list_pop mt_pop (pv 2)) (pg_tup rfl (pgs_cons (pg_name (i := 3) sc_Code___init__.nd rfl (Or.inl rfl)) (pgs_cons (pg_name (i := 4) sc_Code___init__.nd rfl (Or.inl rfl)) (pgs_cons (pg_name (i := 5) sc_Code___init__.nd rfl (Or.inl rfl)) (pgs_cons (pg_name (i := 6) sc_Code___init__.nd rfl (Or.inl rfl)) (pgs_cons (pg_name (i := 7) sc_Code___init__.nd rfl (Or.inl rfl)) pgs_nil))))))) (pss_cons (ps_set (i := 8) sc_Code___init__.nd rfl (Or.inl rfl) (pe_callB call_len_seq rfl (fr_len T) b_len (pa_cons (pe_fld (pv 0) rfl) pa_nil))) (pss_cons (ps_expr (pe_meth (pv 0) (c_Code T) (me_Code_check T) G_Code_check (hr.mono (by decide)) bi_Code_check .nil passF (pa_cons (pv 3) (pa_cons (pv 8) (pa_cons (pv 5) (pa_cons (pv 6) (pa_cons (pv 7) pa_nil))))))) (pss_cons (ps_expr (pe_meth (pv 0) (c_Code T) (me_Code_keep T) G_Code_keep (hr.mono (by decide)) bi_Code_keep .nil passF (pa_cons (pv 3) (pa_cons (pv 4) pa_nil)))) (pss_one (ps_for PassesOwn.never rfl (pi_reversed rfl (fr_reversed T) (pa_cons (FcR.pe_listEnum rfl (pe_call G_parts_in (hr.mono (by decide)) rfl (g_parts_in T) kp_parts_in bi_parts_in .nil passF (pa_cons (pv 3) pa_nil)) rfl (fr_list T) b_list rfl (fr_enumerate T) b_enumerate) pa_nil)) (pg_tup rfl (pgs_cons (pg_name (i := 9) sc_Code___init__.nd rfl (Or.inl rfl)) (pgs_cons (pg_name (i := 10) sc_Code___init__.nd rfl (Or.inl rfl)) pgs_nil))) (Evl.pss_cut (ps_set (i := 11) sc_Code___init__.nd rfl (Or.inl rfl) (pe_op op_add (pv 7) (pe_callTy call_int1 rfl (fr_int T) b_int (pa_cons (pe_and (pe_cmpR op_eq (pe_ix ix_tup (pv 3) pe_int (fun _ _ => rfl)) pe_str (nomark _)) (pe_one (pe_cmpR op_eq (pv 9) pe_int (nomark _)))) pa_nil)))) (pss_one (ps_expr (pe_bm PySem.F.plainAttrs_list PySem.F.slot_list_append PySem.F.type_list_append mt_append (pv 2) (pa_cons (pe_tup (pa_cons (pv 10) (pa_cons (pv 8) (pa_cons (pe_op op_add (pv 5) pe_int) (pa_cons (pe_op op_add (pv 6) (pe_callTy call_int1 rfl (fr_int T) b_int (pa_cons (pe_cmpR op_eq (pe_ix ix_tup (pv 3) pe_int (fun _ _ => rfl)) pe_str (nomark _)) pa_nil))) (pa_cons (pv 11) pa_nil)))))) pa_nil)))))))))))))))), ?_⟩
    refine ⟨fun σ' H' => σ' = L2.start N_Code___init__ [.ref p, v] ∧ ∃ q1 q2 q3, H q1 = none ∧ H q2 = none ∧ H q3 = none ∧ q2 ≠ q1 ∧ q3 ≠ q1 ∧ q3 ≠ q2 ∧ H' q1 = some (.lst []) ∧ H' q2 = some (.lst []) ∧ H' q3 = some (.lst []) ∧
      H' p = some (.ins (He.ga K "Code") dx [("statements", .ref q1), ("kinds", .ref q2), ("labels", .ref q3)]) ∧ (∀ b o, H b = some o → b ≠ p → H' b = some o) ∧ (∀ b, H' b = none → H b = none), ?_, ?_⟩
    · refine ⟨sz (by simp), fun q1 f1 => ⟨sz (by simp), fun q2 f2 => ⟨sz (by simp), fun q3 f3 => ⟨sz (by simp), fun t1 g1 => ?_⟩⟩⟩⟩
      obtain ⟨n2a, f2⟩ := up_none f2
      obtain ⟨n3b, f3⟩ := up_none f3
      obtain ⟨n3a, f3⟩ := up_none f3
      obtain ⟨n1c, g1⟩ := up_none g1
      obtain ⟨n1b, g1⟩ := up_none g1
      obtain ⟨n1a, g1⟩ := up_none g1
      have p1 := nn_of f1 hp
      have p2 := nn_of f2 hp
      have p3 := nn_of f3 hp
      have p4 := nn_of g1 hp
      refine ⟨t1, _, rfl, Evl.st_of upd_same, rfl, _, _, rfl, _, rfl, p, _, dx, _, rfl, (by rw [upd_ne p4, upd_ne p3, upd_ne p2, upd_ne p1]; exact hp), c_Code T, na_Code_statements T, (by simp), ?_⟩
      rw [fi_Code_0]
      refine ⟨_, _, rfl, _, rfl, p, _, dx, _, rfl, upd_same, c_Code T, na_Code_kinds T, (by simp), ?_⟩
      rw [fi_Code_1, upd_upd]
      refine ⟨_, _, rfl, _, rfl, p, _, dx, _, rfl, upd_same, c_Code T, na_Code_labels T, (by simp), rfl, ?_⟩
      rw [fi_Code_2, upd_upd]
      refine ⟨rfl, q1, q2, q3, f1, f2, f3, n2a, n3a, n3b, ?_, ?_, ?_, upd_same, fun b o e hb => ?_, fun b e => ?_⟩
      · rw [upd_ne p1.symm, upd_ne n1a.symm, upd_ne n3a.symm, upd_ne n2a.symm, upd_same]
      · rw [upd_ne p2.symm, upd_ne n1b.symm, upd_ne n3b.symm, upd_same]
      · rw [upd_ne p3.symm, upd_ne n1c.symm, upd_same]
      · rw [upd_ne hb, upd_ne (nn_of g1 e), upd_ne (nn_of f3 e), upd_ne (nn_of f2 e), upd_ne (nn_of f1 e)]
        exact e
      · exact (up_none (up_none (up_none (up_none (up_none e).2).2).2).2).2
    rintro σ' H1 ⟨rfl, q1, q2, q3, f1, f2, f3, n21, n31, n32, h1, h2, h3, hp1, kp1, fr1⟩
    -- self.parents, self.children = ([], [])
    refine ⟨fun σ' H' => σ' = L2.start N_Code___init__ [.ref p, v] ∧ ∃ A : CAd, A.p = p ∧ A.dx = dx ∧ A.cs = [] ∧ CL K H' A [] [] [] [] [] ∧ (∀ b ∈ A.all, b = p ∨ H b = none) ∧ (∀ b o, H b = some o → b ≠ p → H' b = some o) ∧ (∀ b, H' b = none → H b = none), ?_, ?_⟩
    · refine ⟨sz (by simp), fun q4 f4 => ⟨sz (by simp), fun q5 f5 => ⟨sz (by simp), fun t2 g2 => ?_⟩⟩⟩
      obtain ⟨n54, f5⟩ := up_none f5
      obtain ⟨m5, g2⟩ := up_none g2
      obtain ⟨m4, g2⟩ := up_none g2
      have p4 := nn_of f4 hp1
      have p5 := nn_of f5 hp1
      have pt := nn_of g2 hp1
      refine ⟨t2, _, rfl, Evl.st_of upd_same, rfl, _, _, rfl, _, rfl, p, _, dx, _, rfl, (by rw [upd_ne pt, upd_ne p5, upd_ne p4]; exact hp1), c_Code T, na_Code_parents T, (by simp), ?_⟩
      rw [fi_Code_3]
      refine ⟨_, _, rfl, _, rfl, p, _, dx, _, rfl, upd_same, c_Code T, na_Code_children T, (by simp), rfl, ?_⟩
      rw [fi_Code_4, upd_upd]
      have a1 := nn_of f4 h1
      have a2 := nn_of f4 h2
      have a3 := nn_of f4 h3
      have b1 := nn_of f5 h1
      have b2 := nn_of f5 h2
      have b3 := nn_of f5 h3
      have c1 := nn_of g2 h1
      have c2 := nn_of g2 h2
      have c3 := nn_of g2 h3
      have pn1 : p ≠ q1 := nn_of f1 hp
      have pn2 : p ≠ q2 := nn_of f2 hp
      have pn3 : p ≠ q3 := nn_of f3 hp
      refine ⟨rfl, ⟨p, dx, q1, q2, q3, q4, q5, []⟩, rfl, rfl, rfl, ⟨upd_same, ?_, ?_, ?_, ?_, ?_, rfl, fun i c x e => by simp at e, ?_⟩, ?_, fun b o e hb => ?_, fun b e => ?_⟩
      · show upd _ p _ q1 = _
        rw [upd_ne pn1.symm, upd_ne c1, upd_ne b1, upd_ne a1]
        exact h1
      · show upd _ p _ q2 = _
        rw [upd_ne pn2.symm, upd_ne c2, upd_ne b2, upd_ne a2]
        exact h2
      · show upd _ p _ q3 = _
        rw [upd_ne pn3.symm, upd_ne c3, upd_ne b3, upd_ne a3]
        exact h3
      · show upd _ p _ q4 = _
        rw [upd_ne p4.symm, upd_ne m4.symm, upd_ne n54.symm, upd_same]
      · show upd _ p _ q5 = _
        rw [upd_ne p5.symm, upd_ne m5.symm, upd_same] <;> rfl
      · show [p, q1, q2, q3, q4, q5].Nodup
        simp only [List.nodup_cons, List.mem_cons, List.not_mem_nil, or_false, not_or, List.nodup_nil, and_true, not_false_eq_true]
        exact ⟨⟨pn1, pn2, pn3, p4, p5⟩, ⟨n21.symm, n31.symm, a1, b1⟩, ⟨n32.symm, a2, b2⟩, ⟨a3, b3⟩, n54.symm⟩
      · intro b hb
        have hb : b ∈ [p, q1, q2, q3, q4, q5] := hb
        simp only [List.mem_cons, List.not_mem_nil, or_false] at hb
        rcases hb with rfl | rfl | rfl | rfl | rfl | rfl
        · exact .inl rfl
        · exact .inr f1
        · exact .inr f2
        · exact .inr f3
        · exact .inr (fr1 _ f4)
        · exact .inr (fr1 _ f5)
      · have e1 := kp1 b o e hb
        rw [upd_ne hb, upd_ne (nn_of g2 e1), upd_ne (nn_of f5 e1), upd_ne (nn_of f4 e1)]
        exact e1
      · exact fr1 _ (up_none (up_none (up_none (up_none e).2).2).2).2
    rintro σ' H2 ⟨rfl, A, rfl, rfl, ac, C, nA, kp2, fr2⟩
    -- waiting = [(statement, None, 1, 0, 0)]
    refine ⟨_, rfl, sz (by simp), fun t3 g3 => ⟨sz (by simp), fun wq gw => ?_⟩⟩
    obtain ⟨nwt, gw⟩ := up_none gw
    have gt : H2 t3 = none := g3
    have ft : F0 t3 = none := Evl.fresh_back xF (fr2 t3 gt)
    have v0 : InW K F0 H A.p wq Gd [⟨d, none, 1, 0, 0⟩] [] A [t3] (upd F0 t3 (.tup [v, .non, .int 1, .int 0, .int 0])) (upd (upd H2 t3 (.tup [v, .non, .int 1, .int 0, .int 0])) wq (.lst [.ref t3])) := by
      have C1 := (C.off (o := .tup [v, .non, .int 1, .int 0, .int 0]) (C.fresh gt))
      have nwA : wq ∉ A.all := C.fresh gw
      have C2 := C1.off (o := .lst [.ref t3]) nwA
      have xx : Ex F0 (upd F0 t3 (.tup [v, .non, .int 1, .int 0, .int 0])) := exu (Evl.Ex.refl F0) ft
      have fA : ∀ b ∈ A.all, F0 b = none := fun b hb => by
        rcases nA b hb with rfl | e
        · exact Fp
        · exact Evl.fresh_back xF e
      have ntA : t3 ∉ A.all := C.fresh gt
      refine ⟨rfl, ⟨[], C2, .nil⟩, fun b hb => ?_, nwA, ?_, upd_same, .cons upd_same (dp_ex xx hd) .nil, xx, fun b o e => ?_, fun b e1 e2 => ?_, fun b o e hb => ?_, nA, fr2 wq gw, fun i hi => ?_, fun r hr => by cases hr⟩
      · rw [upd_ne (fun z => ntA (by rw [← z]; exact hb))]
        exact fA b hb
      · rw [upd_ne nwt]
        exact Evl.fresh_back xF (fr2 wq gw)
      · by_cases z : b = t3
        · rw [z, upd_same] at e
          cases e
          rw [z, upd_ne nwt.symm, upd_same]
        · rw [upd_ne z] at e
          have e2 := xF b o e
          have nb : b ≠ A.p := fun y => by rw [y, Fp] at e; cases e
          rw [upd_ne (nn_of (fr2 wq gw) e2), upd_ne z]
          exact kp2 b o e2 nb
      · rw [upd_ne (fun z => e1 (by rw [z]; exact fr2 t3 gt))]
        exact e2
      · rw [upd_ne (nn_of (fr2 wq gw) e), upd_ne (nn_of (fr2 t3 gt) e)]
        exact kp2 b o e hb
      · rw [List.mem_singleton.mp hi]
        exact ⟨hGd, fun j e => by cases e⟩
    refine ⟨fun m σ' H' => ∃ st rows B ts F' o3 o4 o5 o6 o7 o8 o9 o10 o11, Builds m st rows fin ∧ σ' = [some (.ref A.p), some v, some (.ref wq), o3, o4, o5, o6, o7, o8, o9, o10, o11] ∧ InW K F0 H A.p wq Gd st rows B ts F' H', ⟨N, _, _, _, _, _, _, _, _, _, _, _, _, _, _, hB, rfl, v0⟩, ?_⟩
    rintro m σ' H3 ⟨st, rows, B, ts, F3, o3, o4, o5, o6, o7, o8, o9, o10, o11, bd, rfl, I3⟩
    -- waiting != []
    have hcan : PyData.canLay0 (.list (st.map wD).reverse) = true := canAll fun e he => by
      obtain ⟨i, hi, rfl⟩ := List.mem_map.mp (List.mem_reverse.mp he)
      exact can_wD (hG _ (I3.it i hi).1).1
    refine ⟨_, rfl, sz (by simp), fun p4 g4 => ?_⟩
    obtain ⟨r1, r2, r3, r4⟩ := I3.fresh g4
    have hdl : Dp K (upd H3 p4 (.lst [])) (.ref wq) (.list (st.map wD).reverse) := .lst (Evl.sq_of (by rw [upd_ne r4.symm]; exact I3.wl)) (dpA_rev (dpA_ex (exu I3.fh g4) I3.wi.dp))
    refine ⟨_, _, hdl, .lst (Evl.sq_of upd_same) .nil, hcan, rfl, min_lnil _, _, rfl, ite_of (fun h4 => ?_) (fun h4 => ?_)⟩
    · cases bd with
      | done => simp [PyData.eqv, PyData.eqvAll] at h4
      | @step n it st' _ _ ok bd =>
      cases hts : I3.wi with
      | @cons t ts' _ _ v1 ht hv1 hr =>
      have I4 := (I3.new (o := .lst []) g4).pop
      refine ⟨fun σ' H' => ∃ st rows B ts F' o3 o4 o5 o6 o7 o8 o9 o10 o11, Builds n st rows fin ∧ σ' = [some (.ref A.p), some v, some (.ref wq), o3, o4, o5, o6, o7, o8, o9, o10, o11] ∧ InW K F0 H A.p wq Gd st rows B ts F' H', fun σ' H' w => ⟨n, Nat.lt_succ_self _, w⟩, ?_⟩
      -- value, parent, deep, loops, blocks = waiting.pop()
      have wl4 : upd H3 p4 (.lst []) wq = some (.lst ((ts'.map V.ref).reverse ++ [.ref t])) := by
        rw [upd_ne r4.symm, I3.wl] <;> simp
      refine ⟨_, rfl, Or.inl ⟨rfl, _, Evl.sq_of wl4⟩, wq, _, .ref t, rfl, rfl, wl4, by simp, ?_⟩
      rw [List.dropLast_concat]
      refine ⟨t, wV v1 it, rfl, Evl.st_of (I4.fh _ _ ht), rfl, _, _, rfl, _, _, rfl, _, _, rfl, _, _, rfl, _, _, rfl, rfl, ?_⟩
      -- number = len(self.kinds)
      obtain ⟨L1, C4, dL4⟩ := id I4.code
      have ob4 : ∀ {H' : Hp} {L1 L2 L3 L4 : List V} {Cs : List (List V)}, CL K H' B L1 L2 L3 L4 Cs → H' A.p = some (.ins (He.ga K "Code") B.dx (cFs B)) := fun C => by rw [← I3.ap]; exact C.ob
      refine ⟨_, rfl, A.p, _, _, _, _, rfl, ob4 C4, c_Code T, na_Code_kinds T, fl_Code_kinds _ _ _ _ _, B.a2, _, rfl, .inl (Evl.sq_of C4.h2), ?_⟩
      have hgi := hG _ (I3.it it List.mem_cons_self).1
      obtain ⟨k1, k2, k3, k4⟩ := id ok
      have ln : (rows.map fun r => V.str (kindD r.d)).length = rows.length := List.length_map _
      -- self.check(..)
      refine ⟨_, rfl, A.p, _, _, rfl, ob4 C4, fm_Code_check _ _ _ _ _, _, rfl, _, rfl, _, rfl, _, rfl, _, rfl, .ref A.p, v1, it.d, _, _, _, _, rfl, dp_ex I4.fh hv1, hgi.1, hgi.2.1, (by rw [ln]; omega), (by omega), (by omega), k4, fun H5 x5 => ?_⟩
      have I5 := I4.ext (Evl.Ex.refl _) (I4.fh.trans x5) x5 fun _ _ e => e
      obtain ⟨L1', C5, dL5⟩ := id I5.code
      -- self.keep(value, parent)
      refine ⟨_, rfl, A.p, _, _, rfl, ob4 C5, fm_Code_keep _ _ _ _ _, _, rfl, _, rfl, F3, B, rows, v1, it.d, _, it.par, (by rw [← I3.ap] <;> rfl), I5.fh, I5.code, I5.na, hv1, k4, (by omega), fun i e => ?_, fun c H6 hc6 cd6 kp6 => ?_⟩
      · have li := (I3.it it List.mem_cons_self).2 i e
        refine ⟨rows[i], List.getElem?_eq_getElem li, ?_⟩
        have := I3.ch rows[i] (List.getElem_mem li)
        omega
      have I6 := I5.kept hc6 cd6 kp6
      -- for at, part in reversed(list(enumerate(parts_in(value))))
      refine ⟨_, rfl, F3, v1, it.d, _, rfl, I6.fh, hv1, k4, fun pp H7 xs fp7 x7 hl7 dA7 => ?_⟩
      have I7 := I6.ext (Evl.Ex.refl _) (I6.fh.trans x7) x7 fun _ _ e => e
      refine ⟨pp, xs, rfl, Evl.sq_of hl7, fun H8 pe te k8 fpe fte npe nd8 lte hpe hte => ?_⟩
      have L8 : ∀ b ∈ pe :: te, H7 b = none := fun b hb => by
        rcases List.mem_cons.mp hb with e | hb
        · rw [e]; exact fpe
        · exact fte b hb
      have I8 : InW K F0 H A.p wq Gd st' (addRow rows it.d it.par) { B with cs := B.cs ++ [c] } ts' (frz F3 H8 (pe :: te)) H8 :=
        I7.ext (frz_ex fun b hb => (I7.fresh (L8 b hb)).2.1) (frz_le (I7.fh.trans k8)) k8 fun b h1 h2 => by rw [frz_out (fun z => h1 (L8 b z))]; exact h2
      have lx : xs.length = (partsD it.d).length := dpA_len dA7
      have x38 : Ex F3 (frz F3 H8 (pe :: te)) := frz_ex fun b hb => (I7.fresh (L8 b hb)).2.1
      obtain ⟨kk, rr, _, ek, _, _, _⟩ := isStm_shape k4
      obtain ⟨va, vxs, rfl, vS, vA⟩ := dp_tup (ek ▸ hv1)
      cases vA with
      | @cons vk vxr _ _ vk0 vA =>
      obtain rfl := dp_str vk0
      have ekd : kindD it.d = kk := by rw [ek] <;> rfl
      refine ⟨pe, _, rfl, Evl.sq_of hpe, for_it walk_rev (fun i σ' H' => ∃ ts'' F'' o9 o10 o11, σ' = [some (.ref A.p), some v, some (.ref wq), some (.ref va), some (parV it.par), some (.int (it.deep : Int)), some (.int (it.loops : Int)), some (.int (it.blocks : Int)), some (.int ((rows.map fun r => V.str (kindD r.d)).length : Int)), o9, o10, o11] ∧
        InW K F0 H A.p wq Gd ((newIts it rows.length).drop (te.length - i) ++ st') (addRow rows it.d it.par) { B with cs := B.cs ++ [c] } ts'' F'' H' ∧ Ex (frz F3 H8 (pe :: te)) F'') ?_ ?_ ?_ ?_⟩
      · refine ⟨ts', _, o9, o10, o11, rfl, ?_, Evl.Ex.refl _⟩
        rw [Nat.sub_zero, List.drop_eq_nil_of_le (by rw [newIts_len, lte, lx]; exact Nat.le_refl _)]
        exact I8
      · rintro i σ' H' _ ⟨ts'', F'', _, _, _, _, I9, x9⟩
        exact Evl.sq_of (I9.fh _ _ (x9 _ _ (by rw [frz_in List.mem_cons_self]; exact hpe)))
      · rintro i x σ' H9x H9 hi ⟨ts'', F'', u9, u10, u11, rfl, I9, x9⟩ ⟨rfl, hx⟩
        rw [List.length_map] at hi hx
        have lj : te.length - 1 - i < te.length := by omega
        have htj : te[te.length - 1 - i]? = some te[te.length - 1 - i] := List.getElem?_eq_getElem lj
        rw [List.getElem?_map, htj] at hx
        cases hx
        have lxj : te.length - 1 - i < xs.length := by rw [← lte]; exact lj
        have hxj : xs[te.length - 1 - i]? = some xs[te.length - 1 - i] := List.getElem?_eq_getElem lxj
        have lpj : te.length - 1 - i < (partsD it.d).length := by rw [← lx]; exact lxj
        have hpj : (partsD it.d)[te.length - 1 - i]? = some (partsD it.d)[te.length - 1 - i] := List.getElem?_eq_getElem lpj
        obtain ⟨u, hu, hdu⟩ := dpA_get dA7 hpj
        rw [hxj] at hu
        cases hu
        have htu := hte _ _ _ htj hxj
        have htF : H9 te[te.length - 1 - i] = some (.tup [.int ((te.length - 1 - i : Nat) : Int), xs[te.length - 1 - i]]) := I9.fh _ _ (x9 _ _ (by rw [frz_in (List.mem_cons_of_mem _ (List.getElem_mem lj))]; exact htu))
        have vS9 : SqT K H9 va (V.str kk :: vxr) := Evl.ex_t ((x38.trans x9).trans I9.fh) vS
        refine ⟨_, _, rfl, Evl.st_of htF, rfl, _, _, rfl, _, _, rfl, rfl, ?_⟩
        -- inside = ..
        refine ⟨fun σ' H' => H' = H9 ∧ σ' = [some (.ref A.p), some v, some (.ref wq), some (.ref va), some (parV it.par), some (.int (it.deep : Int)), some (.int (it.loops : Int)), some (.int (it.blocks : Int)), some (.int ((rows.map fun r => V.str (kindD r.d)).length : Int)), some (.int ((te.length - 1 - i : Nat) : Int)), some xs[te.length - 1 - i], some (.int ((it.blocks : Int) + (if kindD it.d = "final" ∧ te.length - 1 - i = 1 then 1 else 0)))], ?_, ?_⟩
        · refine ⟨_, rfl, _, rfl, va, _, _, _, rfl, rfl, vS9, at0, rfl, _, rfl, ite_of (fun h5 => ?_) (fun h5 => ?_)⟩
          · have e5 : kk = "final" := V.str.inj (of_decide_eq_true h5)
            refine ⟨_, rfl, rfl, .inr ⟨_, rfl, _, _, rfl, rfl, rfl, ?_⟩⟩
            by_cases z : te.length - 1 - i = 1
            · rw [if_pos (show kindD it.d = "final" ∧ te.length - 1 - i = 1 from ⟨by rw [ekd, e5], z⟩), if_pos (decide_eq_true (by rw [z] <;> rfl))] <;> rfl
            · rw [if_neg (show ¬ (kindD it.d = "final" ∧ te.length - 1 - i = 1) from fun y => z y.2), if_neg (fun y => z (by have := V.int.inj (of_decide_eq_true y); omega))] <;> rfl
          · have e5 : ¬ kk = "final" := fun e => by
              have y : decide (V.str kk = V.str "final") = true := decide_eq_true (by rw [e])
              rw [y] at h5
              cases h5
            refine .inr ⟨_, rfl, _, _, rfl, rfl, rfl, ?_⟩
            rw [if_neg (show ¬ (kindD it.d = "final" ∧ te.length - 1 - i = 1) from fun y => e5 (by rw [← ekd]; exact y.1))] <;> rfl
        rintro σ' H' ⟨rfl, rfl⟩
        -- waiting.append(..)
        refine ⟨_, rfl, Or.inl ⟨rfl, _, Evl.sq_of I9.wl⟩, _, rfl, _, rfl, _, rfl, _, _, rfl, rfl, _, rfl, _, rfl, va, _, _, _, rfl, rfl, vS9, at0, rfl, .inr ⟨_, rfl, _, _, rfl, rfl, _, rfl, sz (by simp), fun tn htn => ?_⟩⟩
        obtain ⟨z1, z2, z3, z4⟩ := I9.fresh htn
        refine ⟨wq, _, _, rfl, rfl, (by rw [upd_ne z4.symm]; exact I9.wl), szl ?_, ?_⟩
        · have b1 := bd.len
          have b2 := bd.bd
          rw [List.length_append] at b1
          rw [List.length_reverse, List.length_map, I9.wi.len, List.length_append, List.length_drop]
          omega
        have I10 := I9.push (it := newIt it rows.length (te.length - 1 - i) (partsD it.d)[te.length - 1 - i]) (v := xs[te.length - 1 - i]) htn (dp_ex (x38.trans x9) hdu) ⟨hgi.2.2 _ (List.getElem_mem lpj), fun j e => by cases e; rw [addRow_len]; omega⟩
        have e6 : (newIts it rows.length).drop (te.length - (i + 1)) = newIt it rows.length (te.length - 1 - i) (partsD it.d)[te.length - 1 - i] :: (newIts it rows.length).drop (te.length - i) := by
          have e7 : te.length - (i + 1) = te.length - 1 - i := by omega
          have l7 : te.length - 1 - i < (newIts it rows.length).length := by rw [newIts_len]; exact lpj
          have g7 : (newIts it rows.length)[te.length - 1 - i] = newIt it rows.length (te.length - 1 - i) (partsD it.d)[te.length - 1 - i] := by
            have y := newIts_get (n := rows.length) hpj
            rw [List.getElem?_eq_getElem l7] at y
            exact Option.some.inj y
          rw [e7, List.drop_eq_getElem_cons l7, g7]
          congr 2
          omega
        refine ⟨tn :: ts'', upd F'' tn (.tup (wV xs[te.length - 1 - i] (newIt it rows.length (te.length - 1 - i) (partsD it.d)[te.length - 1 - i]))), _, _, _, rfl, ?_, x9.trans (exu (Evl.Ex.refl _) z2)⟩
        rw [e6, List.cons_append]
        have eH : upd (upd H' tn (.tup (wV xs[te.length - 1 - i] (newIt it rows.length (te.length - 1 - i) (partsD it.d)[te.length - 1 - i])))) wq (.lst (((tn :: ts'').map V.ref).reverse)) =
            upd (upd H' tn (.tup [xs[te.length - 1 - i], .int ((rows.map fun r => V.str (kindD r.d)).length : Int), .int ((it.deep : Int) + 1), .int ((it.loops : Int) + (if decide (V.str kk = V.str "while") = true then 1 else 0)), .int ((it.blocks : Int) + (if kindD it.d = "final" ∧ te.length - 1 - i = 1 then 1 else 0))])) wq (.lst ((ts''.map V.ref).reverse ++ [.ref tn])) := by
          rw [wV_new, ln, ekd, List.map_cons, List.reverse_cons]
        rw [eH] at I10
        exact I10
      · rintro σ' H9 ⟨ts'', F'', u9, u10, u11, rfl, I9, x9⟩
        rw [List.length_map, Nat.sub_self, List.drop_zero] at I9
        exact ⟨_, _, _, _, _, _, _, _, _, _, _, _, _, _, bd, rfl, I9⟩
    · rw [eqv_lnil] at h4
      cases bd with
      | step ok bd => simp at h4
      | done =>
      have I5 := I3.new (o := .lst []) g4
      obtain ⟨vs, C5, dL5⟩ := id I5.code
      have xf : Ex F3 (frz F3 (upd H3 p4 (.lst [])) B.all) := frz_ex I5.na
      refine q B (frz F3 (upd H3 p4 (.lst [])) B.all) _ I5.ap ⟨I5.ff.trans xf, frz_le I5.fh, fun b h1 h2 h3 => ?_, fun b o e hb => I5.kp b o e hb⟩ ⟨vs, ?_, dpA_ex xf dL5⟩
      · rw [frz_out (fun z => by
          rcases I5.nh b z with y | y
          · exact h3 y
          · exact h1 y)]
        exact I5.nw b h1 h2
      · have at_ : ∀ {b : Addr} {o : HO}, b ∈ B.all → upd H3 p4 (.lst []) b = some o → frz F3 (upd H3 p4 (.lst [])) B.all b = some o := fun hb e => by rw [frz_in hb]; exact e
        exact ⟨at_ (by simp [CAd.all]) C5.ob, at_ (in_all1 B) C5.h1, at_ (in_all2 B) C5.h2, at_ (in_all3 B) C5.h3, at_ (in_all4 B) C5.h4, at_ (in_all5 B) C5.h5, C5.cl, fun i c x h1 h2 => at_ (in_allc (List.mem_of_getElem? h1)) (C5.cc i c x h1 h2), C5.nd⟩
theorem ok_Code___init__ (T : Tx w h K mg) : Ok P w K mg base 6 ("Code", some "__init__") ["self", "statement"] (sp_Code___init__ K) := by
  obtain ⟨fd, a, b, c, _⟩ := okF_Code___init__ (P := P) (base := base) T
  exact ⟨fd, a, b, c⟩
end
theorem make_of {H H2 : Hp} {q dx C : Addr} {fs : List (Str × V)} (e : upd (upd H dx (.own q)) q (.ins C dx fs) = H2) (nq : H q = none) (nd : H dx = none) : Ex H H2 ∧ H2 q = some (.ins C dx fs) := by
  subst e
  refine ⟨fun b o hb => ?_, upd_same⟩
  rw [upd_ne (ne_of_none hb nq), upd_ne (ne_of_none hb nd)]
  exact hb

end Fc

set_option maxRecDepth 100000
set_option maxHeartbeats 4000000
namespace Fc
open PySem PySem.Spec PyProof.Rows L2 FcR
open Evl (Ex)
/-- what is raised: C(y), its field f -/
def RaisesA (K : PySem.W.Frag) (C f : Str) (H : Hp) (y : V) (E : XK) : Prop := ∀ H' d, Ex H H' → H d = none → H' d = some (.xd [(f, y)]) → E (.ref (He.ga K C)) (some d) H'
section
variable {P : Program} {w : World} {h : Heap} {K : PySem.W.Frag} {mg : Str → Option Value} {base : Heap}
abbrev N_InvalidCode___init__ : List Str := ["self", "number"]
theorem sc_InvalidCode___init__ : FnScope N_InvalidCode___init__ ["self", "number"] (defScope sd_InvalidCode___init__) := ⟨rfl, rfl, rfl, by decide +kernel, rfl, by decide +kernel, by decide +kernel⟩
theorem okF_InvalidCode___init__ (T : Tx w h K mg) : ∃ fd, FnOk P w K mg base (CX P w) 1 (He.fAd K ("InvalidCode", some "__init__")) fd ["self", "number"] (FcX.spX K (He.ga K "InvalidCode") "number") ∧ Binds K fd ["self", "number"] [] ∧ PySem.W.keepIn K (.ref (He.fAd K ("InvalidCode", some "__init__"))) = true ∧ FunD K "__init__" "InvalidCode.__init__" (defArgs sd_InvalidCode___init__) (defBody sd_InvalidCode___init__) (defScope sd_InvalidCode___init__) [] [] (He.fAd K ("InvalidCode", some "__init__")) fd := by
  obtain ⟨fd, F⟩ := F_InvalidCode___init__ T
  refine ⟨fd, ?_, F.bindsN (fun _ _ _ _ _ _ us hl => match us, hl with | [_, _], _ => rfl), F.kp, F⟩
  refine F.ok sc_InvalidCode___init__ (fun vs H Q E h => ?_) (fun cdv A outer s H vs Q E hr h => ?_)
  · obtain ⟨a, y, rfl, ea, q⟩ := h
    rfl
  · obtain ⟨a, y, rfl, ea, q⟩ := h
    refine ⟨_, PSs.nox (pss_one (FcX.ps_xst (pv 0) (pv 1))), ?_⟩
    exact ⟨y, rfl, .ref a, rfl, a, _, rfl, x_InvalidCode T, (xi_InvalidCode T).tk, ea, fun dx h1 h2 => q dx h1 h2⟩
theorem ok_InvalidCode___init__ (T : Tx w h K mg) : Ok P w K mg base 1 ("InvalidCode", some "__init__") ["self", "number"] (FcX.spX K (He.ga K "InvalidCode") "number") := by
  obtain ⟨fd, a, b, c, _⟩ := okF_InvalidCode___init__ (P := P) (base := base) T
  exact ⟨fd, a, b, c⟩
abbrev N_InvalidNumber___init__ : List Str := ["self", "number"]
theorem sc_InvalidNumber___init__ : FnScope N_InvalidNumber___init__ ["self", "number"] (defScope sd_InvalidNumber___init__) := ⟨rfl, rfl, rfl, by decide +kernel, rfl, by decide +kernel, by decide +kernel⟩
theorem okF_InvalidNumber___init__ (T : Tx w h K mg) : ∃ fd, FnOk P w K mg base (CX P w) 1 (He.fAd K ("InvalidNumber", some "__init__")) fd ["self", "number"] (FcX.spX K (He.ga K "InvalidNumber") "number") ∧ Binds K fd ["self", "number"] [] ∧ PySem.W.keepIn K (.ref (He.fAd K ("InvalidNumber", some "__init__"))) = true ∧ FunD K "__init__" "InvalidNumber.__init__" (defArgs sd_InvalidNumber___init__) (defBody sd_InvalidNumber___init__) (defScope sd_InvalidNumber___init__) [] [] (He.fAd K ("InvalidNumber", some "__init__")) fd := by
  obtain ⟨fd, F⟩ := F_InvalidNumber___init__ T
  refine ⟨fd, ?_, F.bindsN (fun _ _ _ _ _ _ us hl => match us, hl with | [_, _], _ => rfl), F.kp, F⟩
  refine F.ok sc_InvalidNumber___init__ (fun vs H Q E h => ?_) (fun cdv A outer s H vs Q E hr h => ?_)
  · obtain ⟨a, y, rfl, ea, q⟩ := h
    rfl
  · obtain ⟨a, y, rfl, ea, q⟩ := h
    refine ⟨_, PSs.nox (pss_one (FcX.ps_xst (pv 0) (pv 1))), ?_⟩
    exact ⟨y, rfl, .ref a, rfl, a, _, rfl, x_InvalidNumber T, (xi_InvalidNumber T).tk, ea, fun dx h1 h2 => q dx h1 h2⟩
theorem ok_InvalidNumber___init__ (T : Tx w h K mg) : Ok P w K mg base 1 ("InvalidNumber", some "__init__") ["self", "number"] (FcX.spX K (He.ga K "InvalidNumber") "number") := by
  obtain ⟨fd, a, b, c, _⟩ := okF_InvalidNumber___init__ (P := P) (base := base) T
  exact ⟨fd, a, b, c⟩
abbrev N_InvalidText___init__ : List Str := ["self", "at"]
theorem sc_InvalidText___init__ : FnScope N_InvalidText___init__ ["self", "at"] (defScope sd_InvalidText___init__) := ⟨rfl, rfl, rfl, by decide +kernel, rfl, by decide +kernel, by decide +kernel⟩
theorem okF_InvalidText___init__ (T : Tx w h K mg) : ∃ fd, FnOk P w K mg base (CX P w) 1 (He.fAd K ("InvalidText", some "__init__")) fd ["self", "at"] (FcX.spX K (He.ga K "InvalidText") "at") ∧ Binds K fd ["self", "at"] [] ∧ PySem.W.keepIn K (.ref (He.fAd K ("InvalidText", some "__init__"))) = true ∧ FunD K "__init__" "InvalidText.__init__" (defArgs sd_InvalidText___init__) (defBody sd_InvalidText___init__) (defScope sd_InvalidText___init__) [] [] (He.fAd K ("InvalidText", some "__init__")) fd := by
  obtain ⟨fd, F⟩ := F_InvalidText___init__ T
  refine ⟨fd, ?_, F.bindsN (fun _ _ _ _ _ _ us hl => match us, hl with | [_, _], _ => rfl), F.kp, F⟩
  refine F.ok sc_InvalidText___init__ (fun vs H Q E h => ?_) (fun cdv A outer s H vs Q E hr h => ?_)
  · obtain ⟨a, y, rfl, ea, q⟩ := h
    rfl
  · obtain ⟨a, y, rfl, ea, q⟩ := h
    refine ⟨_, PSs.nox (pss_one (FcX.ps_xst (pv 0) (pv 1))), ?_⟩
    exact ⟨y, rfl, .ref a, rfl, a, _, rfl, x_InvalidText T, (xi_InvalidText T).tk, ea, fun dx h1 h2 => q dx h1 h2⟩
theorem ok_InvalidText___init__ (T : Tx w h K mg) : Ok P w K mg base 1 ("InvalidText", some "__init__") ["self", "at"] (FcX.spX K (He.ga K "InvalidText") "at") := by
  obtain ⟨fd, a, b, c, _⟩ := okF_InvalidText___init__ (P := P) (base := base) T
  exact ⟨fd, a, b, c⟩
abbrev N_LimitExceeded___init__ : List Str := ["self", "limit"]
theorem sc_LimitExceeded___init__ : FnScope N_LimitExceeded___init__ ["self", "limit"] (defScope sd_LimitExceeded___init__) := ⟨rfl, rfl, rfl, by decide +kernel, rfl, by decide +kernel, by decide +kernel⟩
theorem okF_LimitExceeded___init__ (T : Tx w h K mg) : ∃ fd, FnOk P w K mg base (CX P w) 1 (He.fAd K ("LimitExceeded", some "__init__")) fd ["self", "limit"] (FcX.spX K (He.ga K "LimitExceeded") "limit") ∧ Binds K fd ["self", "limit"] [] ∧ PySem.W.keepIn K (.ref (He.fAd K ("LimitExceeded", some "__init__"))) = true ∧ FunD K "__init__" "LimitExceeded.__init__" (defArgs sd_LimitExceeded___init__) (defBody sd_LimitExceeded___init__) (defScope sd_LimitExceeded___init__) [] [] (He.fAd K ("LimitExceeded", some "__init__")) fd := by
  obtain ⟨fd, F⟩ := F_LimitExceeded___init__ T
  refine ⟨fd, ?_, F.bindsN (fun _ _ _ _ _ _ us hl => match us, hl with | [_, _], _ => rfl), F.kp, F⟩
  refine F.ok sc_LimitExceeded___init__ (fun vs H Q E h => ?_) (fun cdv A outer s H vs Q E hr h => ?_)
  · obtain ⟨a, y, rfl, ea, q⟩ := h
    rfl
  · obtain ⟨a, y, rfl, ea, q⟩ := h
    refine ⟨_, PSs.nox (pss_one (FcX.ps_xst (pv 0) (pv 1))), ?_⟩
    exact ⟨y, rfl, .ref a, rfl, a, _, rfl, x_LimitExceeded T, (xi_LimitExceeded T).tk, ea, fun dx h1 h2 => q dx h1 h2⟩
theorem ok_LimitExceeded___init__ (T : Tx w h K mg) : Ok P w K mg base 1 ("LimitExceeded", some "__init__") ["self", "limit"] (FcX.spX K (He.ga K "LimitExceeded") "limit") := by
  obtain ⟨fd, a, b, c, _⟩ := okF_LimitExceeded___init__ (P := P) (base := base) T
  exact ⟨fd, a, b, c⟩
end

end Fc

set_option maxRecDepth 100000
set_option maxHeartbeats 4000000
namespace Fc
open PySem PySem.Spec PyProof.Rows L2 FcR
open Evl (Ex)
/-! ### what Code refuses -/
def faultI (n deep loops blocks : Int) (d : PyData) : Option (Str × Str × Int) := if 400 ≤ n then some ("LimitExceeded", "limit", 400) else if 100 < deep then some ("LimitExceeded", "limit", 100) else if 25 < blocks then some ("LimitExceeded", "limit", 25) else if isStm d loops = true then none else some ("InvalidCode", "number", n)
def fault (it : WIt) (n : Nat) : Option (Str × Str × Int) := faultI (n : Int) (it.deep : Int) (it.loops : Int) (it.blocks : Int) it.d
theorem faultI_of {it : WIt} {n : Nat} {f : Str × Str × Int} (h : fault it n = some f) : faultI (n : Int) (it.deep : Int) (it.loops : Int) (it.blocks : Int) it.d = some (f.1, f.2.1, f.2.2) := h
inductive Fails : Nat → List WIt → List Row → (Str × Str × Int) → Prop
  | now {it : WIt} {st : List WIt} {rows : List Row} {f : Str × Str × Int} (h : fault it rows.length = some f) : Fails 0 (it :: st) rows f
  | step {n : Nat} {it : WIt} {st : List WIt} {rows : List Row} {f : Str × Str × Int} (ok : okIt it rows.length) (hl : (newIts it rows.length ++ st).length ≤ 50000) (h : Fails n (newIts it rows.length ++ st) (addRow rows it.d it.par) f) : Fails (n + 1) (it :: st) rows f
def sp_Code_checkX (K : PySem.W.Frag) : Sp := fun vs H Q E => ∃ (v0 v : V) (d : PyData) (n deep loops blocks : Int), vs = [v0, v, .int n, .int deep, .int loops, .int blocks] ∧ Dp K H v d ∧ PyData.canLay0 d = true ∧ szD d ∧
  ((n < 400 ∧ deep ≤ 100 ∧ blocks ≤ 25 ∧ isStm d loops = true ∧ ∀ H', Ex H H' → Q .non H') ∨ (∃ C f i, faultI n deep loops blocks d = some (C, f, i) ∧ RaisesA K C f H (.int i) E))
def sp_Code___init__X (K : PySem.W.Frag) : Sp := fun vs H Q E => ∃ (F : Hp) (p dx : Addr) (v : V) (d : PyData) (G : PyData → Prop) (N : Nat) (fin : Str × Str × Int), vs = [.ref p, v] ∧ H p = some (.ins (He.ga K "Code") dx []) ∧ Ex F H ∧ F p = none ∧ Dp K F v d ∧
  (∀ e, G e → PyData.canLay0 e = true ∧ szD e ∧ ∀ x ∈ partsD e, G x) ∧ G d ∧ Fails N [⟨d, none, 1, 0, 0⟩] [] fin ∧
  ∀ H' dd, (∀ b o, H b = some o → b ≠ p → H' b = some o) → H dd = none → H' dd = some (.xd [(fin.2.1, .int fin.2.2)]) → E (.ref (He.ga K fin.1)) (some dd) H'
section
variable {P : Program} {w : World} {h : Heap} {K : PySem.W.Frag} {mg : Str → Option Value} {base : Heap}
theorem ok_Code_checkX (T : Tx w h K mg) : Ok P w K mg base 4 ("Code", some "check") ["self", "value", "number", "deep", "loops", "blocks"] (sp_Code_checkX K) := by
  obtain ⟨fd, F⟩ := F_Code_check T
  refine ⟨fd, ?_, F.bindsN (fun _ _ _ _ _ _ us hl => match us, hl with | [_, _, _, _, _, _], _ => rfl), F.kp⟩
  obtain ⟨fd_is_statement, G_is_statement, bi_is_statement, kp_is_statement⟩ := ok_is_statement (P := P) (base := base) T
  obtain ⟨fd_InvalidCode___init__, G_InvalidCode___init__, bi_InvalidCode___init__, kp_InvalidCode___init__, FD_InvalidCode___init__⟩ := okF_InvalidCode___init__ (P := P) (base := base) T
  obtain ⟨fd_LimitExceeded___init__, G_LimitExceeded___init__, bi_LimitExceeded___init__, kp_LimitExceeded___init__, FD_LimitExceeded___init__⟩ := okF_LimitExceeded___init__ (P := P) (base := base) T
  obtain ⟨tm_MOST_BLOCKS, m_MOST_BLOCKS⟩ := i_MOST_BLOCKS T
  obtain ⟨tm_MOST_DEEP, m_MOST_DEEP⟩ := i_MOST_DEEP T
  obtain ⟨tm_MOST_STATEMENTS, m_MOST_STATEMENTS⟩ := i_MOST_STATEMENTS T
  refine F.ok sc_Code_check (fun vs H Q E h => ?_) (fun cdv A outer s H vs Q E hr h => ?_)
  · obtain ⟨v0, v, d, n, deep, loops, blocks, rfl, hd, hc, hz, alt⟩ := h
    rfl
  · obtain ⟨v0, v, d, n, deep, loops, blocks, rfl, hd, hc, hz, alt⟩ := h
    refine ⟨_, (pss_cons (ps_if (pt_cmpR op_ge (pv 2) (pe_glob (v := .int 400) rfl m_MOST_STATEMENTS ⟨_, rfl⟩) (nomark _)) (pss_one (ps_raise rfl (takes_of rfl rfl rfl rfl) (FcX.pmk_X (x_LimitExceeded T) (xi_LimitExceeded T) G_LimitExceeded___init__ (hr.mono (by decide)) bi_LimitExceeded___init__ passF rfl (g_LimitExceeded T) (pe_glob (v := .int 400) rfl m_MOST_STATEMENTS ⟨_, rfl⟩)))) pss_nil) (pss_cons (ps_if (pt_cmpR op_gt (pv 3) (pe_glob (v := .int 100) rfl m_MOST_DEEP ⟨_, rfl⟩) (nomark _)) (pss_one (ps_raise rfl (takes_of rfl rfl rfl rfl) (FcX.pmk_X (x_LimitExceeded T) (xi_LimitExceeded T) G_LimitExceeded___init__ (hr.mono (by decide)) bi_LimitExceeded___init__ passF rfl (g_LimitExceeded T) (pe_glob (v := .int 100) rfl m_MOST_DEEP ⟨_, rfl⟩)))) pss_nil) (pss_cons (ps_if (pt_cmpR op_gt (pv 5) (pe_glob (v := .int 25) rfl m_MOST_BLOCKS ⟨_, rfl⟩) (nomark _)) (pss_one (ps_raise rfl (takes_of rfl rfl rfl rfl) (FcX.pmk_X (x_LimitExceeded T) (xi_LimitExceeded T) G_LimitExceeded___init__ (hr.mono (by decide)) bi_LimitExceeded___init__ passF rfl (g_LimitExceeded T) (pe_glob (v := .int 25) rfl m_MOST_BLOCKS ⟨_, rfl⟩)))) pss_nil) (pss_one (ps_if (pt_not (pt_val (pe_call G_is_statement (hr.mono (by decide)) rfl (g_is_statement T) kp_is_statement bi_is_statement .nil (passes_call (takes_of rfl rfl rfl rfl) (fun _ _ _ _ h => h)) (pa_cons (pv 1) (pa_cons (pv 4) pa_nil))))) (pss_one (ps_raise rfl (takes_of rfl rfl rfl rfl) (FcX.pmk_X (x_InvalidCode T) (xi_InvalidCode T) G_InvalidCode___init__ (hr.mono (by decide)) bi_InvalidCode___init__ passF rfl (g_InvalidCode T) (pv 2)))) pss_nil))))), ?_⟩
    rcases alt with ⟨l1, l2, l3, hs, q⟩ | ⟨C, f, i, hf, ra⟩
    · refine ⟨_, rfl, _, _, rfl, rfl, _, rfl, itF (decide_eq_false (by omega)) ?_⟩
      refine ⟨_, rfl, _, _, rfl, rfl, _, rfl, itF (decide_eq_false (by omega)) ?_⟩
      refine ⟨_, rfl, _, _, rfl, rfl, _, rfl, itF (decide_eq_false (by omega)) ?_⟩
      exact ⟨_, rfl, _, rfl, v, d, loops, rfl, hd, hc, hz, fun H' x => ⟨_, rfl, itF (by rw [hs] <;> rfl) (q H' x)⟩⟩
    have fin : ∀ H1, Ex H H1 → ∀ d, H1 d = none → E (.ref (He.ga K C)) (some d) (upd H1 d (.xd [(f, .int i)])) := fun H1 e d n => ra _ d (e.trans (exu (Evl.Ex.refl _) n)) (ex_none e n) upd_same
    unfold faultI at hf
    by_cases h1 : 400 ≤ n
    · rw [if_pos h1] at hf
      cases hf
      exact ⟨_, rfl, _, _, rfl, rfl, _, rfl, itT (decide_eq_true (by omega)) ⟨_, rfl, fun d n => fin H (Evl.Ex.refl _) d n⟩⟩
    refine ⟨_, rfl, _, _, rfl, rfl, _, rfl, itF (decide_eq_false (by omega)) ?_⟩
    rw [if_neg h1] at hf
    by_cases h2 : 100 < deep
    · rw [if_pos h2] at hf
      cases hf
      exact ⟨_, rfl, _, _, rfl, rfl, _, rfl, itT (decide_eq_true (by omega)) ⟨_, rfl, fun d n => fin H (Evl.Ex.refl _) d n⟩⟩
    refine ⟨_, rfl, _, _, rfl, rfl, _, rfl, itF (decide_eq_false (by omega)) ?_⟩
    rw [if_neg h2] at hf
    by_cases h3 : 25 < blocks
    · rw [if_pos h3] at hf
      cases hf
      exact ⟨_, rfl, _, _, rfl, rfl, _, rfl, itT (decide_eq_true (by omega)) ⟨_, rfl, fun d n => fin H (Evl.Ex.refl _) d n⟩⟩
    refine ⟨_, rfl, _, _, rfl, rfl, _, rfl, itF (decide_eq_false (by omega)) ?_⟩
    rw [if_neg h3] at hf
    cases hs : isStm d loops with
    | true =>
      rw [hs, if_pos rfl] at hf
      cases hf
    | false =>
      rw [hs, if_neg (by decide)] at hf
      cases hf
      exact ⟨_, rfl, _, rfl, v, d, loops, rfl, hd, hc, hz, fun H' x => ⟨_, rfl, itT (by rw [hs] <;> rfl) ⟨_, rfl, _, rfl, fun d n => fin H' x d n⟩⟩⟩
theorem ok_Code___init__X (T : Tx w h K mg) : Ok P w K mg base 6 ("Code", some "__init__") ["self", "statement"] (sp_Code___init__X K) := by
  obtain ⟨fd, F⟩ := F_Code___init__ T
  refine ⟨fd, ?_, F.bindsN (fun _ _ _ _ _ _ us hl => match us, hl with | [_, _], _ => rfl), F.kp⟩
  obtain ⟨fd_parts_in, G_parts_in, bi_parts_in, kp_parts_in⟩ := ok_parts_in (P := P) (base := base) T
  obtain ⟨fd_Code_check, G_Code_check, bi_Code_check, kp_Code_check⟩ := ok_Code_checkX (P := P) (base := base) T
  obtain ⟨fd_Code_keep, G_Code_keep, bi_Code_keep, kp_Code_keep⟩ := ok_Code_keep (P := P) (base := base) T
  refine F.ok sc_Code___init__ (fun vs H Q E h => ?_) (fun cdv A outer s H vs Q E hr h => ?_)
  · obtain ⟨F0, p, dx, v, d, Gd, N, fin, rfl, hp, xF, Fp, hd, hG, hGd, hB, q⟩ := h
    rfl
  · obtain ⟨F0, p, dx, v, d, Gd, N, fin, rfl, hp, xF, Fp, hd, hG, hGd, hB, q⟩ := h
    refine ⟨_, (Evl.pss_cut (ps_asg (pe_tup (pa_cons (pe_lst pa_nil) (pa_cons (pe_lst pa_nil) (pa_cons (pe_lst pa_nil) pa_nil)))) (pg_tup rfl (pgs_cons (FcR.pg_fld (pv 0)) (pgs_cons (FcR.pg_fld (pv 0)) (pgs_cons (FcR.pg_fld (pv 0)) pgs_nil))))) (Evl.pss_cut (ps_asg (pe_tup (pa_cons (pe_lst pa_nil) (pa_cons (pe_lst pa_nil) pa_nil))) (pg_tup rfl (pgs_cons (FcR.pg_fld (pv 0)) (pgs_cons (FcR.pg_fld (pv 0)) pgs_nil)))) (pss_cons (ps_set (i := 2) sc_Code___init__.nd rfl (Or.inl rfl) (pe_lst (pa_cons (pe_tup (pa_cons (pv 1) (pa_cons pe_non (pa_cons pe_int (pa_cons pe_int (pa_cons pe_int pa_nil)))))) pa_nil))) (pss_one (ps_while (passes_of rfl) (pt_cmpR (op_neM hr) (pv 2) (pe_lst pa_nil) (nomark _)) (pss_cons (ps_asg (pe_bm0 PySem.F.plainAttrs_list PySem.F.slot_list_pop PySem.F.type_list_pop mt_pop (pv 2)) (pg_tup rfl (pgs_cons (pg_name (i := 3) sc_Code___init__.nd rfl (Or.inl rfl)) (pgs_cons (pg_name (i := 4) sc_Code___init__.nd rfl (Or.inl rfl)) (pgs_cons (pg_name (i := 5) sc_Code___init__.nd rfl (Or.inl rfl)) (pgs_cons (pg_name (i := 6) sc_Code___init__.nd rfl (Or.inl rfl)) (pgs_cons (pg_name (i := 7) sc_Code___init__.nd rfl (Or.inl rfl)) pgs_nil))))))) (pss_cons (ps_set (i := 8) sc_Code___init__.nd rfl (Or.inl rfl) (pe_callB call_len_seq rfl (fr_len T) b_len (pa_cons (pe_fld (pv 0) rfl) pa_nil))) (pss_cons (ps_expr (pe_meth (pv 0) (c_Code T) (me_Code_check T) G_Code_check (hr.mono (by decide)) bi_Code_check .nil (passes_call (takes_of rfl rfl rfl rfl) (fun _ _ _ _ h => h)) (pa_cons (pv 3) (pa_cons (pv 8) (pa_cons (pv 5) (pa_cons (pv 6) (pa_cons (pv 7) pa_nil))))))) (pss_cons (ps_expr (pe_meth (pv 0) (c_Code T) (me_Code_keep T) G_Code_keep (hr.mono (by decide)) bi_Code_keep .nil (passes_call (takes_of rfl rfl rfl rfl) (fun _ _ _ _ h => h)) (pa_cons (pv 3) (pa_cons (pv 4) pa_nil)))) (pss_one (ps_for (passes_of rfl) rfl (pi_reversed rfl (fr_reversed T) (pa_cons (FcR.pe_listEnum rfl (pe_call G_parts_in (hr.mono (by decide)) rfl (g_parts_in T) kp_parts_in bi_parts_in .nil (passes_call (takes_of rfl rfl rfl rfl) (fun _ _ _ _ h => h)) (pa_cons (pv 3) pa_nil)) rfl (fr_list T) b_list rfl (fr_enumerate T) b_enumerate) pa_nil)) (pg_tup rfl (pgs_cons (pg_name (i := 9) sc_Code___init__.nd rfl (Or.inl rfl)) (pgs_cons (pg_name (i := 10) sc_Code___init__.nd rfl (Or.inl rfl)) pgs_nil))) (Evl.pss_cut (ps_set (i := 11) sc_Code___init__.nd rfl (Or.inl rfl) (pe_op op_add (pv 7) (pe_callTy call_int1 rfl (fr_int T) b_int (pa_cons (pe_and (pe_cmpR op_eq (pe_ix ix_tup (pv 3) pe_int (fun _ _ => rfl)) pe_str (nomark _)) (pe_one (pe_cmpR op_eq (pv 9) pe_int (nomark _)))) pa_nil)))) (pss_one (ps_expr (pe_bm PySem.F.plainAttrs_list PySem.F.slot_list_append PySem.F.type_list_append mt_append (pv 2) (pa_cons (pe_tup (pa_cons (pv 10) (pa_cons (pv 8) (pa_cons (pe_op op_add (pv 5) pe_int) (pa_cons (pe_op op_add (pv 6) (pe_callTy call_int1 rfl (fr_int T) b_int (pa_cons (pe_cmpR op_eq (pe_ix ix_tup (pv 3) pe_int (fun _ _ => rfl)) pe_str (nomark _)) pa_nil))) (pa_cons (pv 11) pa_nil)))))) pa_nil)))))))))))))))), ?_⟩
    refine ⟨fun σ' H' => σ' = L2.start N_Code___init__ [.ref p, v] ∧ ∃ q1 q2 q3, H q1 = none ∧ H q2 = none ∧ H q3 = none ∧ q2 ≠ q1 ∧ q3 ≠ q1 ∧ q3 ≠ q2 ∧ H' q1 = some (.lst []) ∧ H' q2 = some (.lst []) ∧ H' q3 = some (.lst []) ∧
      H' p = some (.ins (He.ga K "Code") dx [("statements", .ref q1), ("kinds", .ref q2), ("labels", .ref q3)]) ∧ (∀ b o, H b = some o → b ≠ p → H' b = some o) ∧ (∀ b, H' b = none → H b = none), ?_, ?_⟩
    · refine ⟨sz (by simp), fun q1 f1 => ⟨sz (by simp), fun q2 f2 => ⟨sz (by simp), fun q3 f3 => ⟨sz (by simp), fun t1 g1 => ?_⟩⟩⟩⟩
      obtain ⟨n2a, f2⟩ := up_none f2
      obtain ⟨n3b, f3⟩ := up_none f3
      obtain ⟨n3a, f3⟩ := up_none f3
      obtain ⟨n1c, g1⟩ := up_none g1
      obtain ⟨n1b, g1⟩ := up_none g1
      obtain ⟨n1a, g1⟩ := up_none g1
      have p1 := nn_of f1 hp
      have p2 := nn_of f2 hp
      have p3 := nn_of f3 hp
      have p4 := nn_of g1 hp
      refine ⟨t1, _, rfl, Evl.st_of upd_same, rfl, _, _, rfl, _, rfl, p, _, dx, _, rfl, (by rw [upd_ne p4, upd_ne p3, upd_ne p2, upd_ne p1]; exact hp), c_Code T, na_Code_statements T, (by simp), ?_⟩
      rw [fi_Code_0]
      refine ⟨_, _, rfl, _, rfl, p, _, dx, _, rfl, upd_same, c_Code T, na_Code_kinds T, (by simp), ?_⟩
      rw [fi_Code_1, upd_upd]
      refine ⟨_, _, rfl, _, rfl, p, _, dx, _, rfl, upd_same, c_Code T, na_Code_labels T, (by simp), rfl, ?_⟩
      rw [fi_Code_2, upd_upd]
      refine ⟨rfl, q1, q2, q3, f1, f2, f3, n2a, n3a, n3b, ?_, ?_, ?_, upd_same, fun b o e hb => ?_, fun b e => ?_⟩
      · rw [upd_ne p1.symm, upd_ne n1a.symm, upd_ne n3a.symm, upd_ne n2a.symm, upd_same]
      · rw [upd_ne p2.symm, upd_ne n1b.symm, upd_ne n3b.symm, upd_same]
      · rw [upd_ne p3.symm, upd_ne n1c.symm, upd_same]
      · rw [upd_ne hb, upd_ne (nn_of g1 e), upd_ne (nn_of f3 e), upd_ne (nn_of f2 e), upd_ne (nn_of f1 e)]
        exact e
      · exact (up_none (up_none (up_none (up_none (up_none e).2).2).2).2).2
    rintro σ' H1 ⟨rfl, q1, q2, q3, f1, f2, f3, n21, n31, n32, h1, h2, h3, hp1, kp1, fr1⟩
    -- self.parents, self.children = ([], [])
    refine ⟨fun σ' H' => σ' = L2.start N_Code___init__ [.ref p, v] ∧ ∃ A : CAd, A.p = p ∧ A.dx = dx ∧ A.cs = [] ∧ CL K H' A [] [] [] [] [] ∧ (∀ b ∈ A.all, b = p ∨ H b = none) ∧ (∀ b o, H b = some o → b ≠ p → H' b = some o) ∧ (∀ b, H' b = none → H b = none), ?_, ?_⟩
    · refine ⟨sz (by simp), fun q4 f4 => ⟨sz (by simp), fun q5 f5 => ⟨sz (by simp), fun t2 g2 => ?_⟩⟩⟩
      obtain ⟨n54, f5⟩ := up_none f5
      obtain ⟨m5, g2⟩ := up_none g2
      obtain ⟨m4, g2⟩ := up_none g2
      have p4 := nn_of f4 hp1
      have p5 := nn_of f5 hp1
      have pt := nn_of g2 hp1
      refine ⟨t2, _, rfl, Evl.st_of upd_same, rfl, _, _, rfl, _, rfl, p, _, dx, _, rfl, (by rw [upd_ne pt, upd_ne p5, upd_ne p4]; exact hp1), c_Code T, na_Code_parents T, (by simp), ?_⟩
      rw [fi_Code_3]
      refine ⟨_, _, rfl, _, rfl, p, _, dx, _, rfl, upd_same, c_Code T, na_Code_children T, (by simp), rfl, ?_⟩
      rw [fi_Code_4, upd_upd]
      have a1 := nn_of f4 h1
      have a2 := nn_of f4 h2
      have a3 := nn_of f4 h3
      have b1 := nn_of f5 h1
      have b2 := nn_of f5 h2
      have b3 := nn_of f5 h3
      have c1 := nn_of g2 h1
      have c2 := nn_of g2 h2
      have c3 := nn_of g2 h3
      have pn1 : p ≠ q1 := nn_of f1 hp
      have pn2 : p ≠ q2 := nn_of f2 hp
      have pn3 : p ≠ q3 := nn_of f3 hp
      refine ⟨rfl, ⟨p, dx, q1, q2, q3, q4, q5, []⟩, rfl, rfl, rfl, ⟨upd_same, ?_, ?_, ?_, ?_, ?_, rfl, fun i c x e => by simp at e, ?_⟩, ?_, fun b o e hb => ?_, fun b e => ?_⟩
      · show upd _ p _ q1 = _
        rw [upd_ne pn1.symm, upd_ne c1, upd_ne b1, upd_ne a1]
        exact h1
      · show upd _ p _ q2 = _
        rw [upd_ne pn2.symm, upd_ne c2, upd_ne b2, upd_ne a2]
        exact h2
      · show upd _ p _ q3 = _
        rw [upd_ne pn3.symm, upd_ne c3, upd_ne b3, upd_ne a3]
        exact h3
      · show upd _ p _ q4 = _
        rw [upd_ne p4.symm, upd_ne m4.symm, upd_ne n54.symm, upd_same]
      · show upd _ p _ q5 = _
        rw [upd_ne p5.symm, upd_ne m5.symm, upd_same] <;> rfl
      · show [p, q1, q2, q3, q4, q5].Nodup
        simp only [List.nodup_cons, List.mem_cons, List.not_mem_nil, or_false, not_or, List.nodup_nil, and_true, not_false_eq_true]
        exact ⟨⟨pn1, pn2, pn3, p4, p5⟩, ⟨n21.symm, n31.symm, a1, b1⟩, ⟨n32.symm, a2, b2⟩, ⟨a3, b3⟩, n54.symm⟩
      · intro b hb
        have hb : b ∈ [p, q1, q2, q3, q4, q5] := hb
        simp only [List.mem_cons, List.not_mem_nil, or_false] at hb
        rcases hb with rfl | rfl | rfl | rfl | rfl | rfl
        · exact .inl rfl
        · exact .inr f1
        · exact .inr f2
        · exact .inr f3
        · exact .inr (fr1 _ f4)
        · exact .inr (fr1 _ f5)
      · have e1 := kp1 b o e hb
        rw [upd_ne hb, upd_ne (nn_of g2 e1), upd_ne (nn_of f5 e1), upd_ne (nn_of f4 e1)]
        exact e1
      · exact fr1 _ (up_none (up_none (up_none (up_none e).2).2).2).2
    rintro σ' H2 ⟨rfl, A, rfl, rfl, ac, C, nA, kp2, fr2⟩
    -- waiting = [(statement, None, 1, 0, 0)]
    refine ⟨_, rfl, sz (by simp), fun t3 g3 => ⟨sz (by simp), fun wq gw => ?_⟩⟩
    obtain ⟨nwt, gw⟩ := up_none gw
    have gt : H2 t3 = none := g3
    have ft : F0 t3 = none := Evl.fresh_back xF (fr2 t3 gt)
    have v0 : InW K F0 H A.p wq Gd [⟨d, none, 1, 0, 0⟩] [] A [t3] (upd F0 t3 (.tup [v, .non, .int 1, .int 0, .int 0])) (upd (upd H2 t3 (.tup [v, .non, .int 1, .int 0, .int 0])) wq (.lst [.ref t3])) := by
      have C1 := (C.off (o := .tup [v, .non, .int 1, .int 0, .int 0]) (C.fresh gt))
      have nwA : wq ∉ A.all := C.fresh gw
      have C2 := C1.off (o := .lst [.ref t3]) nwA
      have xx : Ex F0 (upd F0 t3 (.tup [v, .non, .int 1, .int 0, .int 0])) := exu (Evl.Ex.refl F0) ft
      have fA : ∀ b ∈ A.all, F0 b = none := fun b hb => by
        rcases nA b hb with rfl | e
        · exact Fp
        · exact Evl.fresh_back xF e
      have ntA : t3 ∉ A.all := C.fresh gt
      refine ⟨rfl, ⟨[], C2, .nil⟩, fun b hb => ?_, nwA, ?_, upd_same, .cons upd_same (dp_ex xx hd) .nil, xx, fun b o e => ?_, fun b e1 e2 => ?_, fun b o e hb => ?_, nA, fr2 wq gw, fun i hi => ?_, fun r hr => by cases hr⟩
      · rw [upd_ne (fun z => ntA (by rw [← z]; exact hb))]
        exact fA b hb
      · rw [upd_ne nwt]
        exact Evl.fresh_back xF (fr2 wq gw)
      · by_cases z : b = t3
        · rw [z, upd_same] at e
          cases e
          rw [z, upd_ne nwt.symm, upd_same]
        · rw [upd_ne z] at e
          have e2 := xF b o e
          have nb : b ≠ A.p := fun y => by rw [y, Fp] at e; cases e
          rw [upd_ne (nn_of (fr2 wq gw) e2), upd_ne z]
          exact kp2 b o e2 nb
      · rw [upd_ne (fun z => e1 (by rw [z]; exact fr2 t3 gt))]
        exact e2
      · rw [upd_ne (nn_of (fr2 wq gw) e), upd_ne (nn_of (fr2 t3 gt) e)]
        exact kp2 b o e hb
      · rw [List.mem_singleton.mp hi]
        exact ⟨hGd, fun j e => by cases e⟩
    refine ⟨fun m σ' H' => ∃ st rows B ts F' o3 o4 o5 o6 o7 o8 o9 o10 o11, Fails m st rows fin ∧ σ' = [some (.ref A.p), some v, some (.ref wq), o3, o4, o5, o6, o7, o8, o9, o10, o11] ∧ InW K F0 H A.p wq Gd st rows B ts F' H', ⟨N, _, _, _, _, _, _, _, _, _, _, _, _, _, _, hB, rfl, v0⟩, ?_⟩
    rintro m σ' H3 ⟨st, rows, B, ts, F3, o3, o4, o5, o6, o7, o8, o9, o10, o11, bd, rfl, I3⟩
    -- waiting != []
    have hcan : PyData.canLay0 (.list (st.map wD).reverse) = true := canAll fun e he => by
      obtain ⟨i, hi, rfl⟩ := List.mem_map.mp (List.mem_reverse.mp he)
      exact can_wD (hG _ (I3.it i hi).1).1
    refine ⟨_, rfl, sz (by simp), fun p4 g4 => ?_⟩
    obtain ⟨r1, r2, r3, r4⟩ := I3.fresh g4
    have hdl : Dp K (upd H3 p4 (.lst [])) (.ref wq) (.list (st.map wD).reverse) := .lst (Evl.sq_of (by rw [upd_ne r4.symm]; exact I3.wl)) (dpA_rev (dpA_ex (exu I3.fh g4) I3.wi.dp))
    refine ⟨_, _, hdl, .lst (Evl.sq_of upd_same) .nil, hcan, rfl, min_lnil _, _, rfl, ite_of (fun h4 => ?_) (fun h4 => ?_)⟩
    · obtain ⟨it, st', rfl, alt⟩ : ∃ it st', st = it :: st' ∧ ((fault it rows.length = some fin) ∨ (∃ n, m = n + 1 ∧ okIt it rows.length ∧ (newIts it rows.length ++ st').length ≤ 50000 ∧ Fails n (newIts it rows.length ++ st') (addRow rows it.d it.par) fin)) := by
        cases bd with
        | now hf => exact ⟨_, _, rfl, .inl hf⟩
        | step ok hl bd => exact ⟨_, _, rfl, .inr ⟨_, rfl, ok, hl, bd⟩⟩
      cases hts : I3.wi with
      | @cons t ts' _ _ v1 ht hv1 hr =>
      have I4 := (I3.new (o := .lst []) g4).pop
      refine ⟨fun σ' H' => ∃ n, n < m ∧ ∃ st rows B ts F' o3 o4 o5 o6 o7 o8 o9 o10 o11, Fails n st rows fin ∧ σ' = [some (.ref A.p), some v, some (.ref wq), o3, o4, o5, o6, o7, o8, o9, o10, o11] ∧ InW K F0 H A.p wq Gd st rows B ts F' H', fun σ' H' w => w, ?_⟩
      -- value, parent, deep, loops, blocks = waiting.pop()
      have wl4 : upd H3 p4 (.lst []) wq = some (.lst ((ts'.map V.ref).reverse ++ [.ref t])) := by
        rw [upd_ne r4.symm, I3.wl] <;> simp
      refine ⟨_, rfl, Or.inl ⟨rfl, _, Evl.sq_of wl4⟩, wq, _, .ref t, rfl, rfl, wl4, by simp, ?_⟩
      rw [List.dropLast_concat]
      refine ⟨t, wV v1 it, rfl, Evl.st_of (I4.fh _ _ ht), rfl, _, _, rfl, _, _, rfl, _, _, rfl, _, _, rfl, _, _, rfl, rfl, ?_⟩
      -- number = len(self.kinds)
      obtain ⟨L1, C4, dL4⟩ := id I4.code
      have ob4 : ∀ {H' : Hp} {L1 L2 L3 L4 : List V} {Cs : List (List V)}, CL K H' B L1 L2 L3 L4 Cs → H' A.p = some (.ins (He.ga K "Code") B.dx (cFs B)) := fun C => by rw [← I3.ap]; exact C.ob
      refine ⟨_, rfl, A.p, _, _, _, _, rfl, ob4 C4, c_Code T, na_Code_kinds T, fl_Code_kinds _ _ _ _ _, B.a2, _, rfl, .inl (Evl.sq_of C4.h2), ?_⟩
      have hgi := hG _ (I3.it it List.mem_cons_self).1
      have ln : (rows.map fun r => V.str (kindD r.d)).length = rows.length := List.length_map _
      -- self.check(..)
      refine ⟨_, rfl, A.p, _, _, rfl, ob4 C4, fm_Code_check _ _ _ _ _, _, rfl, _, rfl, _, rfl, _, rfl, _, rfl, .ref A.p, v1, it.d, _, _, _, _, rfl, dp_ex I4.fh hv1, hgi.1, hgi.2.1, ?_⟩
      rcases alt with hf | ⟨n, rfl, ok, hlen, bd⟩
      · refine .inr ⟨fin.1, fin.2.1, fin.2.2, ?_, fun H5 d5 x5 n5 h5 => q H5 d5 (fun b o hb hn => x5 _ _ (I4.kp b o hb hn)) (I4.fresh n5).1 h5⟩
        rw [ln]
        exact faultI_of hf
      obtain ⟨k1, k2, k3, k4⟩ := id ok
      refine .inl ⟨(by rw [ln]; omega), (by omega), (by omega), k4, fun H5 x5 => ?_⟩
      have I5 := I4.ext (Evl.Ex.refl _) (I4.fh.trans x5) x5 fun _ _ e => e
      obtain ⟨L1', C5, dL5⟩ := id I5.code
      -- self.keep(value, parent)
      refine ⟨_, rfl, A.p, _, _, rfl, ob4 C5, fm_Code_keep _ _ _ _ _, _, rfl, _, rfl, F3, B, rows, v1, it.d, _, it.par, (by rw [← I3.ap] <;> rfl), I5.fh, I5.code, I5.na, hv1, k4, (by omega), fun i e => ?_, fun c H6 hc6 cd6 kp6 => ?_⟩
      · have li := (I3.it it List.mem_cons_self).2 i e
        refine ⟨rows[i], List.getElem?_eq_getElem li, ?_⟩
        have := I3.ch rows[i] (List.getElem_mem li)
        omega
      have I6 := I5.kept hc6 cd6 kp6
      -- for at, part in reversed(list(enumerate(parts_in(value))))
      refine ⟨_, rfl, F3, v1, it.d, _, rfl, I6.fh, hv1, k4, fun pp H7 xs fp7 x7 hl7 dA7 => ?_⟩
      have I7 := I6.ext (Evl.Ex.refl _) (I6.fh.trans x7) x7 fun _ _ e => e
      refine ⟨pp, xs, rfl, Evl.sq_of hl7, fun H8 pe te k8 fpe fte npe nd8 lte hpe hte => ?_⟩
      have L8 : ∀ b ∈ pe :: te, H7 b = none := fun b hb => by
        rcases List.mem_cons.mp hb with e | hb
        · rw [e]; exact fpe
        · exact fte b hb
      have I8 : InW K F0 H A.p wq Gd st' (addRow rows it.d it.par) { B with cs := B.cs ++ [c] } ts' (frz F3 H8 (pe :: te)) H8 :=
        I7.ext (frz_ex fun b hb => (I7.fresh (L8 b hb)).2.1) (frz_le (I7.fh.trans k8)) k8 fun b h1 h2 => by rw [frz_out (fun z => h1 (L8 b z))]; exact h2
      have lx : xs.length = (partsD it.d).length := dpA_len dA7
      have x38 : Ex F3 (frz F3 H8 (pe :: te)) := frz_ex fun b hb => (I7.fresh (L8 b hb)).2.1
      obtain ⟨kk, rr, _, ek, _, _, _⟩ := isStm_shape k4
      obtain ⟨va, vxs, rfl, vS, vA⟩ := dp_tup (ek ▸ hv1)
      cases vA with
      | @cons vk vxr _ _ vk0 vA =>
      obtain rfl := dp_str vk0
      have ekd : kindD it.d = kk := by rw [ek] <;> rfl
      refine ⟨pe, _, rfl, Evl.sq_of hpe, for_it walk_rev (fun i σ' H' => ∃ ts'' F'' o9 o10 o11, σ' = [some (.ref A.p), some v, some (.ref wq), some (.ref va), some (parV it.par), some (.int (it.deep : Int)), some (.int (it.loops : Int)), some (.int (it.blocks : Int)), some (.int ((rows.map fun r => V.str (kindD r.d)).length : Int)), o9, o10, o11] ∧
        InW K F0 H A.p wq Gd ((newIts it rows.length).drop (te.length - i) ++ st') (addRow rows it.d it.par) { B with cs := B.cs ++ [c] } ts'' F'' H' ∧ Ex (frz F3 H8 (pe :: te)) F'') ?_ ?_ ?_ ?_⟩
      · refine ⟨ts', _, o9, o10, o11, rfl, ?_, Evl.Ex.refl _⟩
        rw [Nat.sub_zero, List.drop_eq_nil_of_le (by rw [newIts_len, lte, lx]; exact Nat.le_refl _)]
        exact I8
      · rintro i σ' H' _ ⟨ts'', F'', _, _, _, _, I9, x9⟩
        exact Evl.sq_of (I9.fh _ _ (x9 _ _ (by rw [frz_in List.mem_cons_self]; exact hpe)))
      · rintro i x σ' H9x H9 hi ⟨ts'', F'', u9, u10, u11, rfl, I9, x9⟩ ⟨rfl, hx⟩
        rw [List.length_map] at hi hx
        have lj : te.length - 1 - i < te.length := by omega
        have htj : te[te.length - 1 - i]? = some te[te.length - 1 - i] := List.getElem?_eq_getElem lj
        rw [List.getElem?_map, htj] at hx
        cases hx
        have lxj : te.length - 1 - i < xs.length := by rw [← lte]; exact lj
        have hxj : xs[te.length - 1 - i]? = some xs[te.length - 1 - i] := List.getElem?_eq_getElem lxj
        have lpj : te.length - 1 - i < (partsD it.d).length := by rw [← lx]; exact lxj
        have hpj : (partsD it.d)[te.length - 1 - i]? = some (partsD it.d)[te.length - 1 - i] := List.getElem?_eq_getElem lpj
        obtain ⟨u, hu, hdu⟩ := dpA_get dA7 hpj
        rw [hxj] at hu
        cases hu
        have htu := hte _ _ _ htj hxj
        have htF : H9 te[te.length - 1 - i] = some (.tup [.int ((te.length - 1 - i : Nat) : Int), xs[te.length - 1 - i]]) := I9.fh _ _ (x9 _ _ (by rw [frz_in (List.mem_cons_of_mem _ (List.getElem_mem lj))]; exact htu))
        have vS9 : SqT K H9 va (V.str kk :: vxr) := Evl.ex_t ((x38.trans x9).trans I9.fh) vS
        refine ⟨_, _, rfl, Evl.st_of htF, rfl, _, _, rfl, _, _, rfl, rfl, ?_⟩
        -- inside = ..
        refine ⟨fun σ' H' => H' = H9 ∧ σ' = [some (.ref A.p), some v, some (.ref wq), some (.ref va), some (parV it.par), some (.int (it.deep : Int)), some (.int (it.loops : Int)), some (.int (it.blocks : Int)), some (.int ((rows.map fun r => V.str (kindD r.d)).length : Int)), some (.int ((te.length - 1 - i : Nat) : Int)), some xs[te.length - 1 - i], some (.int ((it.blocks : Int) + (if kindD it.d = "final" ∧ te.length - 1 - i = 1 then 1 else 0)))], ?_, ?_⟩
        · refine ⟨_, rfl, _, rfl, va, _, _, _, rfl, rfl, vS9, at0, rfl, _, rfl, ite_of (fun h5 => ?_) (fun h5 => ?_)⟩
          · have e5 : kk = "final" := V.str.inj (of_decide_eq_true h5)
            refine ⟨_, rfl, rfl, .inr ⟨_, rfl, _, _, rfl, rfl, rfl, ?_⟩⟩
            by_cases z : te.length - 1 - i = 1
            · rw [if_pos (show kindD it.d = "final" ∧ te.length - 1 - i = 1 from ⟨by rw [ekd, e5], z⟩), if_pos (decide_eq_true (by rw [z] <;> rfl))] <;> rfl
            · rw [if_neg (show ¬ (kindD it.d = "final" ∧ te.length - 1 - i = 1) from fun y => z y.2), if_neg (fun y => z (by have := V.int.inj (of_decide_eq_true y); omega))] <;> rfl
          · have e5 : ¬ kk = "final" := fun e => by
              have y : decide (V.str kk = V.str "final") = true := decide_eq_true (by rw [e])
              rw [y] at h5
              cases h5
            refine .inr ⟨_, rfl, _, _, rfl, rfl, rfl, ?_⟩
            rw [if_neg (show ¬ (kindD it.d = "final" ∧ te.length - 1 - i = 1) from fun y => e5 (by rw [← ekd]; exact y.1))] <;> rfl
        rintro σ' H' ⟨rfl, rfl⟩
        -- waiting.append(..)
        refine ⟨_, rfl, Or.inl ⟨rfl, _, Evl.sq_of I9.wl⟩, _, rfl, _, rfl, _, rfl, _, _, rfl, rfl, _, rfl, _, rfl, va, _, _, _, rfl, rfl, vS9, at0, rfl, .inr ⟨_, rfl, _, _, rfl, rfl, _, rfl, sz (by simp), fun tn htn => ?_⟩⟩
        obtain ⟨z1, z2, z3, z4⟩ := I9.fresh htn
        refine ⟨wq, _, _, rfl, rfl, (by rw [upd_ne z4.symm]; exact I9.wl), szl ?_, ?_⟩
        · rw [List.length_append] at hlen
          rw [List.length_reverse, List.length_map, I9.wi.len, List.length_append, List.length_drop]
          omega
        have I10 := I9.push (it := newIt it rows.length (te.length - 1 - i) (partsD it.d)[te.length - 1 - i]) (v := xs[te.length - 1 - i]) htn (dp_ex (x38.trans x9) hdu) ⟨hgi.2.2 _ (List.getElem_mem lpj), fun j e => by cases e; rw [addRow_len]; omega⟩
        have e6 : (newIts it rows.length).drop (te.length - (i + 1)) = newIt it rows.length (te.length - 1 - i) (partsD it.d)[te.length - 1 - i] :: (newIts it rows.length).drop (te.length - i) := by
          have e7 : te.length - (i + 1) = te.length - 1 - i := by omega
          have l7 : te.length - 1 - i < (newIts it rows.length).length := by rw [newIts_len]; exact lpj
          have g7 : (newIts it rows.length)[te.length - 1 - i] = newIt it rows.length (te.length - 1 - i) (partsD it.d)[te.length - 1 - i] := by
            have y := newIts_get (n := rows.length) hpj
            rw [List.getElem?_eq_getElem l7] at y
            exact Option.some.inj y
          rw [e7, List.drop_eq_getElem_cons l7, g7]
          congr 2
          omega
        refine ⟨tn :: ts'', upd F'' tn (.tup (wV xs[te.length - 1 - i] (newIt it rows.length (te.length - 1 - i) (partsD it.d)[te.length - 1 - i]))), _, _, _, rfl, ?_, x9.trans (exu (Evl.Ex.refl _) z2)⟩
        rw [e6, List.cons_append]
        have eH : upd (upd H' tn (.tup (wV xs[te.length - 1 - i] (newIt it rows.length (te.length - 1 - i) (partsD it.d)[te.length - 1 - i])))) wq (.lst (((tn :: ts'').map V.ref).reverse)) =
            upd (upd H' tn (.tup [xs[te.length - 1 - i], .int ((rows.map fun r => V.str (kindD r.d)).length : Int), .int ((it.deep : Int) + 1), .int ((it.loops : Int) + (if decide (V.str kk = V.str "while") = true then 1 else 0)), .int ((it.blocks : Int) + (if kindD it.d = "final" ∧ te.length - 1 - i = 1 then 1 else 0))])) wq (.lst ((ts''.map V.ref).reverse ++ [.ref tn])) := by
          rw [wV_new, ln, ekd, List.map_cons, List.reverse_cons]
        rw [eH] at I10
        exact I10
      · rintro σ' H9 ⟨ts'', F'', u9, u10, u11, rfl, I9, x9⟩
        rw [List.length_map, Nat.sub_self, List.drop_zero] at I9
        exact ⟨n, Nat.lt_succ_self _, _, _, _, _, _, _, _, _, _, _, _, _, _, _, bd, rfl, I9⟩
    · rw [eqv_lnil] at h4
      cases bd <;> simp at h4
end

end Fc

set_option maxRecDepth 100000
set_option maxHeartbeats 4000000
/-! Runs over a table of statements: a law's way (by parts) and the walker's way (by steps). No program in sight. -/
namespace FcM
inductive Way where
  | nrm
  | ret
  | rai
  | brk (k : Nat)
  | cnt (k : Nat)
  deriving DecidableEq
inductive Node where
  | do_
  | call
  | ret
  | rai
  | brk (k : Nat)
  | cnt (k : Nat)
  | iff (a b : Nat)
  | whl (a : Nat)
  | seq (l : List Nat)
  | tr (a b : Nat)
  | fin (a b : Nat)
def Node.ch : Node → List Nat
  | .iff a b => [a, b]
  | .whl a => [a]
  | .seq l => l
  | .tr a b => [a, b]
  | .fin a b => [a, b]
  | _ => []
structure Tab where
  len : Nat
  nd : Nat → Node
  pr : Nat → Option Nat
structure Tab.WF (t : Tab) (lp : Nat → Nat) : Prop where
  ne : 0 < t.len
  root : t.pr 0 = none
  lp0 : lp 0 = 0
  dn : ∀ n, n < t.len → ∀ c ∈ (t.nd n).ch, n < c ∧ c < t.len ∧ t.pr c = some n ∧ lp c = lp n + (match t.nd n with | .whl _ => 1 | _ => 0)
  nd : ∀ n, n < t.len → (t.nd n).ch.Nodup
  pu : ∀ n p, n < t.len → t.pr n = some p → p < t.len
  sq : ∀ n l, n < t.len → t.nd n = .seq l → l ≠ []
  bk : ∀ n k, n < t.len → t.nd n = .brk k → 1 ≤ k ∧ k ≤ lp n
  ct : ∀ n k, n < t.len → t.nd n = .cnt k → 1 ≤ k ∧ k ≤ lp n
inductive Ent (t : Tab) : Nat → Nat → Nat → Prop
  | here {n : Nat} (h : ∀ l, t.nd n ≠ .seq l) (h2 : ∀ a b, t.nd n ≠ .tr a b) (h3 : ∀ a b, t.nd n ≠ .fin a b) : Ent t 0 n n
  | seq {k n c e : Nat} {l : List Nat} (h : t.nd n = .seq (c :: l)) (r : Ent t k c e) : Ent t (k + 1) n e
  | tr {k n a b e : Nat} (h : t.nd n = .tr a b) (r : Ent t k a e) : Ent t (k + 1) n e
  | fin {k n a b e : Nat} (h : t.nd n = .fin a b) (r : Ent t k a e) : Ent t (k + 1) n e
/-- the height of a part -/
inductive Hg (t : Tab) : Nat → Nat → Prop
  | mk {h n : Nat} (r : ∀ c ∈ (t.nd n).ch, Hg t h c) : Hg t (h + 1) n
def decW : Way → Way
  | .brk k => if k = 1 then .nrm else .brk (k - 1)
  | .cnt k => .cnt (k - 1)
  | w => w
def again (w : Way) : Bool := decide (w = .nrm) || decide (w = .cnt 1)
abbrev Pd := List (Nat × Way)
/-- a part is left in a way: the walker's next place, or the end -/
inductive Lv (t : Tab) : Nat → Way → Pd → Nat ⊕ Way → Pd → Prop
  | top {n : Nat} {w : Way} {P : Pd} (h : t.pr n = none) : Lv t n w P (.inr w) P
  | seqN {n p m k e : Nat} {l l1 l2 : List Nat} {P : Pd} (h : t.pr n = some p) (hd : t.nd p = .seq l) (hl : l = l1 ++ n :: m :: l2) (he : Ent t k m e) : Lv t n .nrm P (.inl e) P
  | seqU {n p : Nat} {w : Way} {l : List Nat} {P P' : Pd} {r : Nat ⊕ Way} (h : t.pr n = some p) (hd : t.nd p = .seq l) (hw : w ≠ .nrm ∨ l.getLast? = some n) (up : Lv t p w P r P') : Lv t n w P r P'
  | whlA {n p : Nat} {w : Way} {P : Pd} (h : t.pr n = some p) (hd : t.nd p = .whl n) (hw : again w = true) : Lv t n w P (.inl p) P
  | whlU {n p : Nat} {w : Way} {P P' : Pd} {r : Nat ⊕ Way} (h : t.pr n = some p) (hd : t.nd p = .whl n) (hw : again w = false) (up : Lv t p (decW w) P r P') : Lv t n w P r P'
  | tryH {n p b k e : Nat} {P : Pd} (h : t.pr n = some p) (hd : t.nd p = .tr n b) (he : Ent t k b e) : Lv t n .rai P (.inl e) P
  | tryU {n p a b : Nat} {w : Way} {P P' : Pd} {r : Nat ⊕ Way} (h : t.pr n = some p) (hd : t.nd p = .tr a b) (hw : w ≠ .rai ∨ n ≠ a) (up : Lv t p w P r P') : Lv t n w P r P'
  | iffU {n p a b : Nat} {w : Way} {P P' : Pd} {r : Nat ⊕ Way} (h : t.pr n = some p) (hd : t.nd p = .iff a b) (up : Lv t p w P r P') : Lv t n w P r P'
  | finB {n p b k e : Nat} {w : Way} {P : Pd} (h : t.pr n = some p) (hd : t.nd p = .fin n b) (he : Ent t k b e) : Lv t n w P (.inl e) (P ++ [(p, w)])
  | finE {n p a : Nat} {P : Pd} (h : t.pr n = some p) (hd : t.nd p = .fin a n) (hn : n ≠ a) : Lv t n .nrm P (.inl p) P
  | finO {n p a : Nat} {w : Way} {P P' : Pd} {x : Nat × Way} {r : Nat ⊕ Way} (h : t.pr n = some p) (hd : t.nd p = .fin a n) (hn : n ≠ a) (hw : w ≠ .nrm) (up : Lv t p w P r P') : Lv t n w (P ++ [x]) r P'
structure Cfg where
  at_ : Nat ⊕ Way
  pd : Pd
  us : Nat
  vs : List Nat
def asks : Node → Bool
  | .call => true
  | .iff _ _ => true
  | .whl _ => true
  | _ => false
/-- the way of a place that does not ask -/
def wayN : Node → Way
  | .ret => .ret
  | .rai => .rai
  | .brk k => .brk k
  | .cnt k => .cnt k
  | _ => .nrm
def quiet : Node → Prop
  | .do_ => True
  | .ret => True
  | .rai => True
  | .brk _ => True
  | .cnt _ => True
  | _ => False
/-- what a place does with an answer: where the walker stands then -/
inductive Dp1 (t : Tab) (s : Nat) (x : Bool) : Pd → Nat ⊕ Way → Pd → Prop
  | iff {a b k e : Nat} {P : Pd} (h : t.nd s = .iff a b) (he : Ent t k (if x then b else a) e) : Dp1 t s x P (.inl e) P
  | whlT {a k e : Nat} {P : Pd} (h : t.nd s = .whl a) (hx : x = true) (he : Ent t k a e) : Dp1 t s x P (.inl e) P
  | whlF {a : Nat} {P P' : Pd} {r : Nat ⊕ Way} (h : t.nd s = .whl a) (hx : x = false) (l : Lv t s .nrm P r P') : Dp1 t s x P r P'
  | call {P P' : Pd} {r : Nat ⊕ Way} (h : t.nd s = .call) (l : Lv t s (if x then .rai else .nrm) P r P') : Dp1 t s x P r P'
  | fin {a b q : Nat} {w : Way} {P P' : Pd} {r : Nat ⊕ Way} (h : t.nd s = .fin a b) (l : Lv t s w P r P') : Dp1 t s x (P ++ [(q, w)]) r P'
  | quiet {P P' : Pd} {r : Nat ⊕ Way} (h : quiet (t.nd s)) (l : Lv t s (wayN (t.nd s)) P r P') : Dp1 t s x P r P'
inductive Step (t : Tab) (bits : List Bool) : Cfg → Cfg → Prop
  | ask {s : Nat} {x : Bool} {P P' : Pd} {u : Nat} {v : List Nat} {r : Nat ⊕ Way} (h : asks (t.nd s) = true) (hu : bits[u]? = some x) (d : Dp1 t s x P r P') : Step t bits ⟨.inl s, P, u, v⟩ ⟨r, P', u + 1, v ++ [s]⟩
  | on {s : Nat} {P P' : Pd} {u : Nat} {v : List Nat} {r : Nat ⊕ Way} (h : asks (t.nd s) = false) (d : Dp1 t s false P r P') : Step t bits ⟨.inl s, P, u, v⟩ ⟨r, P', u, v ++ [s]⟩
inductive Stop (t : Tab) (bits : List Bool) : Cfg → Prop
  | fin {w : Way} {P : Pd} {u : Nat} {v : List Nat} : Stop t bits ⟨.inr w, P, u, v⟩
  | wait {s : Nat} {P : Pd} {u : Nat} {v : List Nat} (h : asks (t.nd s) = true) (hu : bits[u]? = none) : Stop t bits ⟨.inl s, P, u, v⟩
inductive Re (t : Tab) (bits : List Bool) (B : Nat) : Nat → Cfg → Cfg → Prop
  | stop {c : Cfg} (h : Stop t bits c) (hb : c.pd.length ≤ B) : Re t bits B 0 c c
  | step {n : Nat} {c d e : Cfg} (h : Step t bits c d) (hb : c.pd.length ≤ B) (r : Re t bits B n d e) : Re t bits B (n + 1) c e
/-! ### the law's way -/
abbrev Wt := (Nat × Pd) ⊕ Way
abbrev Rs := Wt × Nat × List Nat
def loopF (bits : List Bool) (n : Nat) (P : Pd) (body : Nat → List Nat → Rs) : Nat → Nat → List Nat → Rs
  | 0, u, v => (.inl (n, P), u, v)
  | f + 1, u, v => match bits[u]? with
    | none => (.inl (n, P), u, v)
    | some false => (.inr .nrm, u + 1, v ++ [n])
    | some true => match body (u + 1) (v ++ [n]) with
      | (.inl x, u', v') => (.inl x, u', v')
      | (.inr w, u', v') => if again w = true then loopF bits n P body f u' v' else (.inr (decW w), u', v')
def seqF (go : Nat → Nat → List Nat → Rs) : List Nat → Rs → Rs
  | [], r => r
  | c :: cs, (w, u, v) => if w = .inr .nrm then seqF go cs (go c u v) else seqF go cs (w, u, v)
def finF (n : Nat) (w : Way) : Rs → Rs
  | (.inl x, u, v) => (.inl x, u, v)
  | (.inr w2, u, v) => if w2 = .nrm then (.inr w, u, v ++ [n]) else (.inr w2, u, v)
def goF (t : Tab) (bits : List Bool) : Nat → Nat → Pd → Nat → List Nat → Rs
  | 0, n, P, u, v => (.inl (n, P), u, v)
  | h + 1, n, P, u, v => match t.nd n with
    | .whl a => loopF bits n P (goF t bits h a P) (bits.length + 1) u v
    | .fin a b => match goF t bits h a P u v with
      | (.inl x, u1, v1) => (.inl x, u1, v1)
      | (.inr w, u1, v1) => finF n w (goF t bits h b (P ++ [(n, w)]) u1 v1)
    | .call => match bits[u]? with
      | none => (.inl (n, P), u, v)
      | some x => (.inr (if x then .rai else .nrm), u + 1, v ++ [n])
    | .iff a b => match bits[u]? with
      | none => (.inl (n, P), u, v)
      | some x => goF t bits h (if x then b else a) P (u + 1) (v ++ [n])
    | .seq l => seqF (fun c => goF t bits h c P) l (.inr .nrm, u, v)
    | .tr a b => match goF t bits h a P u v with
      | (.inr .rai, u1, v1) => goF t bits h b P u1 v1
      | r => r
    | d => (.inr (wayN d), u, v ++ [n])
def WOk (l : Nat) : Way → Prop
  | .brk k => 1 ≤ k ∧ k ≤ l
  | .cnt k => 1 ≤ k ∧ k ≤ l
  | _ => True
section
variable {t : Tab} {lp : Nat → Nat} {bits : List Bool}
/-- behind leaving n in the way w the walker comes to cf -/
def After (t : Tab) (bits : List Bool) (B n : Nat) (w : Way) (P : Pd) (u : Nat) (v : List Nat) (cf : Cfg) : Prop := ∃ r P' N, Lv t n w P r P' ∧ Re t bits B N ⟨r, P', u, v⟩ cf
/-- from the entry of n the walker comes to cf -/
def From (t : Tab) (bits : List Bool) (B n : Nat) (P : Pd) (u : Nat) (v : List Nat) (cf : Cfg) : Prop := ∃ k e N, Ent t k n e ∧ Re t bits B N ⟨.inl e, P, u, v⟩ cf
/-- what the walker does of what the law reckons -/
def Good (t : Tab) (bits : List Bool) (B : Nat) (lp : Nat → Nat) (n : Nat) (P : Pd) (u : Nat) (v : List Nat) : Rs → Prop
  | (.inr w, u', v') => u ≤ u' ∧ u' ≤ bits.length ∧ WOk (lp n) w ∧ ∀ cf, After t bits B n w P u' v' cf → From t bits B n P u v cf
  | (.inl x, u', v') => u ≤ u' ∧ u' ≤ bits.length ∧ ∃ cf, From t bits B n P u v cf ∧ cf.vs = v' ∧ cf.us = u' ∧ cf.at_ = .inl x.1 ∧ cf.pd = x.2
end
end FcM

set_option maxRecDepth 100000
set_option maxHeartbeats 4000000
namespace FcM
section
variable {t : Tab} {lp : Nat → Nat} {bits : List Bool} {B : Nat}
theorem bit_lt {u : Nat} {x : Bool} (h : bits[u]? = some x) : u + 1 ≤ bits.length := (List.getElem?_eq_some_iff.mp h).1
theorem from_wait {n : Nat} {P : Pd} {u : Nat} {v : List Nat} (he : Ent t 0 n n) (ha : asks (t.nd n) = true) (hu : bits[u]? = none) (hB : P.length ≤ B) : From t bits B n P u v ⟨.inl n, P, u, v⟩ := ⟨0, n, 0, he, .stop (.wait ha hu) hB⟩
theorem Ent.self {k n e : Nat} (h : Ent t k n e) (h1 : ∀ l, t.nd n ≠ .seq l) (h2 : ∀ a b, t.nd n ≠ .tr a b) (h3 : ∀ a b, t.nd n ≠ .fin a b) : e = n := by
  cases h with
  | here => rfl
  | seq h _ => exact absurd h (h1 _)
  | tr h _ => exact absurd h (h2 _ _)
  | fin h _ => exact absurd h (h3 _ _)
theorem seqF_stop {go : Nat → Nat → List Nat → Rs} {w : Wt} {u : Nat} {v : List Nat} (hw : w ≠ .inr .nrm) : ∀ cs : List Nat, seqF go cs (w, u, v) = (w, u, v)
  | [] => rfl
  | c :: cs => by
    show (if w = .inr .nrm then _ else seqF go cs (w, u, v)) = _
    rw [if_neg hw, seqF_stop hw cs]
theorem dec_ok {l : Nat} {w : Way} (h : WOk (l + 1) w) (ha : again w = false) : WOk l (decW w) := by
  cases w with
  | nrm => trivial
  | ret => trivial
  | rai => trivial
  | brk k =>
    show WOk l (if k = 1 then .nrm else .brk (k - 1))
    by_cases hk : k = 1
    · rw [if_pos hk]; trivial
    · rw [if_neg hk]
      have h1 : 1 ≤ k ∧ k ≤ l + 1 := h
      show 1 ≤ k - 1 ∧ k - 1 ≤ l
      omega
  | cnt k =>
    have h1 : 1 ≤ k ∧ k ≤ l + 1 := h
    have hk : k ≠ 1 := fun z => by subst z; simp [again] at ha
    show 1 ≤ k - 1 ∧ k - 1 ≤ l
    omega
/-- the loop of a while at n with the part a -/
theorem loop_good (W : t.WF lp) {n a : Nat} (hn : n < t.len) (hd : t.nd n = .whl a) {body : Nat → List Nat → Rs} {P : Pd} (hB : P.length ≤ B) (hb : ∀ u v, u ≤ bits.length → Good t bits B lp a P u v (body u v)) :
    ∀ f u v, bits.length - u < f → u ≤ bits.length → Good t bits B lp n P u v (loopF bits n P body f u v) := by
  have he : Ent t 0 n n := .here (fun l => by rw [hd]; exact fun z => nomatch z) (fun a b => by rw [hd]; exact fun z => nomatch z) (fun a b => by rw [hd]; exact fun z => nomatch z)
  have ha : asks (t.nd n) = true := by rw [hd]; rfl
  obtain ⟨c1, c2, c3, c4⟩ := W.dn n hn a (by rw [hd]; exact List.mem_singleton.mpr rfl)
  rw [hd] at c4
  have c4 : lp a = lp n + 1 := c4
  intro f
  induction f with
  | zero => exact fun u v h => absurd h (Nat.not_lt_zero _)
  | succ f ih =>
    intro u v hf hu
    cases hx : bits[u]? with
    | none =>
      have e : loopF bits n P body (f + 1) u v = (.inl (n, P), u, v) := by simp only [loopF, hx]
      rw [e]
      exact ⟨Nat.le_refl _, hu, _, from_wait he ha hx hB, rfl, rfl, rfl, rfl⟩
    | some x =>
      have hl := bit_lt hx
      cases x with
      | false =>
        have e : loopF bits n P body (f + 1) u v = (.inr .nrm, u + 1, v ++ [n]) := by simp only [loopF, hx]
        rw [e]
        refine ⟨by omega, hl, trivial, fun cf h => ?_⟩
        obtain ⟨r, P', N, l, re⟩ := h
        exact ⟨0, n, N + 1, he, .step (.ask ha hx (.whlF hd rfl l)) hB re⟩
      | true =>
        have g := hb (u + 1) (v ++ [n]) hl
        have up : ∀ cf, From t bits B a P (u + 1) (v ++ [n]) cf → From t bits B n P u v cf := fun cf h => by
          obtain ⟨k, e, N, en, re⟩ := h
          exact ⟨0, n, N + 1, he, .step (.ask ha hx (.whlT hd rfl en)) hB re⟩
        rcases hr : body (u + 1) (v ++ [n]) with ⟨w, u', v'⟩
        rw [hr] at g
        cases w with
        | inl x =>
          have e : loopF bits n P body (f + 1) u v = (.inl x, u', v') := by simp only [loopF, hx, hr]
          rw [e]
          obtain ⟨g1, g2, cf, g3, g4⟩ := g
          exact ⟨by omega, g2, cf, up cf g3, g4⟩
        | inr w =>
          obtain ⟨g1, g2, g3, g4⟩ := g
          by_cases hw : again w = true
          · have e : loopF bits n P body (f + 1) u v = loopF bits n P body f u' v' := by simp only [loopF, hx, hr, hw, if_true]
            rw [e]
            have g := ih u' v' (by omega) g2
            have go : ∀ cf, From t bits B n P u' v' cf → From t bits B n P u v cf := fun cf h => by
              obtain ⟨k, e', N, en, re⟩ := h
              have z := en.self (fun l => by rw [hd]; exact fun z => nomatch z) (fun a b => by rw [hd]; exact fun z => nomatch z) (fun a b => by rw [hd]; exact fun z => nomatch z)
              subst z
              exact up cf (g4 cf ⟨_, _, _, .whlA c3 hd hw, re⟩)
            rcases hr2 : loopF bits n P body f u' v' with ⟨w2, u2, v2⟩
            rw [hr2] at g
            cases w2 with
            | inl x =>
              obtain ⟨k1, k2, cf, k3, k4⟩ := g
              exact ⟨by omega, k2, cf, go cf k3, k4⟩
            | inr w2 =>
              obtain ⟨k1, k2, k3, k4⟩ := g
              exact ⟨by omega, k2, k3, fun cf h => go cf (k4 cf h)⟩
          · have hw : again w = false := by simpa using hw
            have e : loopF bits n P body (f + 1) u v = (.inr (decW w), u', v') := by simp [loopF, hx, hr, hw]
            rw [e]
            refine ⟨by omega, g2, dec_ok (by rw [c4] at g3; exact g3) hw, fun cf h => ?_⟩
            obtain ⟨r, P', N, l, re⟩ := h
            exact up cf (g4 cf ⟨r, P', N, .whlU c3 hd hw l, re⟩)
theorem seq_good (W : t.WF lp) {n : Nat} {l : List Nat} (hn : n < t.len) (hd : t.nd n = .seq l) {go : Nat → Nat → List Nat → Rs} {P : Pd} (hb : ∀ c ∈ l, ∀ u v, u ≤ bits.length → Good t bits B lp c P u v (go c u v)) :
    ∀ (cs l1 : List Nat) (c u : Nat) (v : List Nat), l = l1 ++ c :: cs → u ≤ bits.length → (match seqF go (c :: cs) (.inr .nrm, u, v) with
      | (.inr w, u', v') => u ≤ u' ∧ u' ≤ bits.length ∧ WOk (lp n) w ∧ ∀ cf, After t bits B n w P u' v' cf → From t bits B c P u v cf
      | (.inl x, u', v') => u ≤ u' ∧ u' ≤ bits.length ∧ ∃ cf, From t bits B c P u v cf ∧ cf.vs = v' ∧ cf.us = u' ∧ cf.at_ = .inl x.1 ∧ cf.pd = x.2) := by
  intro cs
  induction cs with
  | nil =>
    intro l1 c u v hl hu
    have hc : c ∈ l := by rw [hl]; simp
    obtain ⟨c1, c2, c3, c4⟩ := W.dn n hn c (by rw [hd]; exact hc)
    rw [hd] at c4
    have c4 : lp c = lp n := c4
    have g := hb c hc u v hu
    have e : seqF go [c] (.inr .nrm, u, v) = go c u v := by simp [seqF]
    rw [e]
    rcases hr : go c u v with ⟨w, u', v'⟩
    rw [hr] at g
    cases w with
    | inl x => exact g
    | inr w =>
      obtain ⟨g1, g2, g3, g4⟩ := g
      refine ⟨g1, g2, by rw [← c4]; exact g3, fun cf h => ?_⟩
      obtain ⟨r, P', N, lv, re⟩ := h
      exact g4 cf ⟨r, P', N, .seqU c3 hd (.inr (by rw [hl]; simp)) lv, re⟩
  | cons m cs ih =>
    intro l1 c u v hl hu
    have hc : c ∈ l := by rw [hl]; simp
    obtain ⟨c1, c2, c3, c4⟩ := W.dn n hn c (by rw [hd]; exact hc)
    rw [hd] at c4
    have c4 : lp c = lp n := c4
    have g := hb c hc u v hu
    have e : seqF go (c :: m :: cs) (.inr .nrm, u, v) = seqF go (m :: cs) (go c u v) := by simp [seqF]
    rw [e]
    rcases hr : go c u v with ⟨w, u', v'⟩
    rw [hr] at g
    cases w with
    | inl x =>
      rw [seqF_stop (w := .inl x) (fun z => nomatch z)]
      exact g
    | inr w =>
      obtain ⟨g1, g2, g3, g4⟩ := g
      by_cases hw : w = .nrm
      · subst hw
        have i := ih (l1 ++ [c]) m u' v' (by rw [hl]; simp) g2
        rcases hr2 : seqF go (m :: cs) (.inr .nrm, u', v') with ⟨w2, u2, v2⟩
        rw [hr2] at i
        have go' : ∀ cf, From t bits B m P u' v' cf → From t bits B c P u v cf := fun cf h => by
          obtain ⟨k, e', N, en, re⟩ := h
          exact g4 cf ⟨_, _, _, .seqN c3 hd hl en, re⟩
        cases w2 with
        | inl x =>
          obtain ⟨k1, k2, cf, k3, k4⟩ := i
          exact ⟨by omega, k2, cf, go' cf k3, k4⟩
        | inr w2 =>
          obtain ⟨k1, k2, k3, k4⟩ := i
          exact ⟨by omega, k2, k3, fun cf h => go' cf (k4 cf h)⟩
      · rw [seqF_stop (fun z => hw (Sum.inr.inj z))]
        refine ⟨g1, g2, by rw [← c4]; exact g3, fun cf h => ?_⟩
        obtain ⟨r, P', N, lv, re⟩ := h
        exact g4 cf ⟨r, P', N, .seqU c3 hd (.inl hw) lv, re⟩
theorem quiet_good (W : t.WF lp) {n : Nat} (hn : n < t.len) (hq : quiet (t.nd n)) {P : Pd} {u : Nat} {v : List Nat} (hB : P.length ≤ B) (hu : u ≤ bits.length) : Good t bits B lp n P u v (.inr (wayN (t.nd n)), u, v ++ [n]) := by
  have he : Ent t 0 n n := .here (fun l e => by rw [e] at hq; exact hq) (fun a b e => by rw [e] at hq; exact hq) (fun a b e => by rw [e] at hq; exact hq)
  have ha : asks (t.nd n) = false := by
    cases e : t.nd n <;> rw [e] at hq <;> first | rfl | exact hq.elim
  refine ⟨Nat.le_refl _, hu, ?_, fun cf h => ?_⟩
  · cases e : t.nd n with
    | brk k => exact W.bk n k hn e
    | cnt k => exact W.ct n k hn e
    | do_ => trivial
    | ret => trivial
    | rai => trivial
    | call => trivial
    | iff a b => trivial
    | whl a => trivial
    | seq l => trivial
    | tr a b => trivial
    | fin a b => trivial
  · obtain ⟨r, P', N, lv, re⟩ := h
    exact ⟨0, n, N + 1, he, .step (.on ha (.quiet hq lv)) hB re⟩
theorem main (W : t.WF lp) : ∀ h n, Hg t h n → n < t.len → ∀ (P : Pd) (u : Nat) (v : List Nat), P.length + h ≤ B → u ≤ bits.length → Good t bits B lp n P u v (goF t bits h n P u v) := by
  intro h
  induction h with
  | zero => exact fun n hg => nomatch hg
  | succ h ih =>
    intro n hg hn P u v hPB hu
    have hB : P.length ≤ B := by omega
    have hP : P.length + h ≤ B := by omega
    cases hg with
    | mk hg =>
    have q : ∀ d, t.nd n = d → quiet d → goF t bits (h + 1) n P u v = (.inr (wayN d), u, v ++ [n]) → Good t bits B lp n P u v (goF t bits (h + 1) n P u v) := fun d e hq e2 => by
      rw [e2, ← e]
      exact quiet_good W hn (by rw [e]; exact hq) hB hu
    cases hd : t.nd n with
    | do_ => exact q _ hd trivial (by simp only [goF, hd])
    | ret => exact q _ hd trivial (by simp only [goF, hd])
    | rai => exact q _ hd trivial (by simp only [goF, hd])
    | brk k => exact q _ hd trivial (by simp only [goF, hd])
    | cnt k => exact q _ hd trivial (by simp only [goF, hd])
    | whl a =>
      have e : goF t bits (h + 1) n P u v = loopF bits n P (goF t bits h a P) (bits.length + 1) u v := by simp only [goF, hd]
      rw [e]
      have ma : a ∈ (t.nd n).ch := by rw [hd]; exact List.mem_singleton.mpr rfl
      obtain ⟨c1, c2, c3, c4⟩ := W.dn n hn a ma
      exact loop_good W hn hd hB (fun u v hu => ih a (hg a ma) c2 P u v hP hu) _ u v (by omega) hu
    | call =>
      have he : Ent t 0 n n := .here (fun l => by rw [hd]; exact fun z => nomatch z) (fun a b => by rw [hd]; exact fun z => nomatch z) (fun a b => by rw [hd]; exact fun z => nomatch z)
      have ha : asks (t.nd n) = true := by rw [hd]; rfl
      cases hx : bits[u]? with
      | none =>
        have e : goF t bits (h + 1) n P u v = (.inl (n, P), u, v) := by simp only [goF, hd, hx]
        rw [e]
        exact ⟨Nat.le_refl _, hu, _, from_wait he ha hx hB, rfl, rfl, rfl, rfl⟩
      | some x =>
        have e : goF t bits (h + 1) n P u v = (.inr (if x then .rai else .nrm), u + 1, v ++ [n]) := by simp only [goF, hd, hx]
        rw [e]
        refine ⟨by omega, bit_lt hx, by cases x <;> trivial, fun cf h => ?_⟩
        obtain ⟨r, P', N, lv, re⟩ := h
        exact ⟨0, n, N + 1, he, .step (.ask ha hx (.call hd lv)) hB re⟩
    | iff a b =>
      have he : Ent t 0 n n := .here (fun l => by rw [hd]; exact fun z => nomatch z) (fun a b => by rw [hd]; exact fun z => nomatch z) (fun a b => by rw [hd]; exact fun z => nomatch z)
      have ha : asks (t.nd n) = true := by rw [hd]; rfl
      cases hx : bits[u]? with
      | none =>
        have e : goF t bits (h + 1) n P u v = (.inl (n, P), u, v) := by simp only [goF, hd, hx]
        rw [e]
        exact ⟨Nat.le_refl _, hu, _, from_wait he ha hx hB, rfl, rfl, rfl, rfl⟩
      | some x =>
        have e : goF t bits (h + 1) n P u v = goF t bits h (if x then b else a) P (u + 1) (v ++ [n]) := by simp only [goF, hd, hx]
        rw [e]
        have mc : (if x then b else a) ∈ (t.nd n).ch := by rw [hd]; cases x <;> simp [Node.ch]
        obtain ⟨c1, c2, c3, c4⟩ := W.dn n hn _ mc
        rw [hd] at c4
        have c4 : lp (if x then b else a) = lp n := c4
        have g := ih _ (hg _ mc) c2 P (u + 1) (v ++ [n]) hP (bit_lt hx)
        have up : ∀ cf, From t bits B (if x then b else a) P (u + 1) (v ++ [n]) cf → From t bits B n P u v cf := fun cf h => by
          obtain ⟨k, e', N, en, re⟩ := h
          exact ⟨0, n, N + 1, he, .step (.ask ha hx (.iff hd en)) hB re⟩
        rcases hr : goF t bits h (if x then b else a) P (u + 1) (v ++ [n]) with ⟨w, u', v'⟩
        rw [hr] at g
        cases w with
        | inl x =>
          obtain ⟨g1, g2, cf, g3, g4⟩ := g
          exact ⟨by omega, g2, cf, up cf g3, g4⟩
        | inr w =>
          obtain ⟨g1, g2, g3, g4⟩ := g
          refine ⟨by omega, g2, by rw [← c4]; exact g3, fun cf h => ?_⟩
          obtain ⟨r, P', N, lv, re⟩ := h
          exact up cf (g4 cf ⟨r, P', N, .iffU c3 hd lv, re⟩)
    | seq l =>
      have e : goF t bits (h + 1) n P u v = seqF (fun c => goF t bits h c P) l (.inr .nrm, u, v) := by simp only [goF, hd]
      rw [e]
      have hne := W.sq n l hn hd
      obtain ⟨c, cs, rfl⟩ : ∃ c cs, l = c :: cs := by
        cases l with
        | nil => exact absurd rfl hne
        | cons c cs => exact ⟨c, cs, rfl⟩
      have mem : ∀ c' ∈ c :: cs, c' ∈ (t.nd n).ch := fun c' hc => by rw [hd]; exact hc
      have g := seq_good W hn hd (go := fun c => goF t bits h c P) (P := P) (fun c' hc u v hu => ih c' (hg c' (mem c' hc)) (W.dn n hn c' (mem c' hc)).2.1 P u v hP hu) cs [] c u v rfl hu
      have up : ∀ cf, From t bits B c P u v cf → From t bits B n P u v cf := fun cf h => by
        obtain ⟨k, e', N, en, re⟩ := h
        exact ⟨k + 1, e', N, .seq hd en, re⟩
      rcases hr : seqF (fun c => goF t bits h c P) (c :: cs) (.inr .nrm, u, v) with ⟨w, u', v'⟩
      rw [hr] at g
      cases w with
      | inl x =>
        obtain ⟨g1, g2, cf, g3, g4⟩ := g
        exact ⟨g1, g2, cf, up cf g3, g4⟩
      | inr w =>
        obtain ⟨g1, g2, g3, g4⟩ := g
        exact ⟨g1, g2, g3, fun cf h => up cf (g4 cf h)⟩
    | tr a b =>
      have ma : a ∈ (t.nd n).ch := by rw [hd]; simp [Node.ch]
      have mb : b ∈ (t.nd n).ch := by rw [hd]; simp [Node.ch]
      obtain ⟨c1, c2, c3, c4⟩ := W.dn n hn a ma
      obtain ⟨b1, b2, b3, b4⟩ := W.dn n hn b mb
      rw [hd] at c4 b4
      have c4 : lp a = lp n := c4
      have b4 : lp b = lp n := b4
      have nab : b ≠ a := by
        have z := W.nd n hn
        rw [hd] at z
        simp [Node.ch] at z
        exact fun y => z y.symm
      have g := ih a (hg a ma) c2 P u v hP hu
      have up : ∀ cf, From t bits B a P u v cf → From t bits B n P u v cf := fun cf h => by
        obtain ⟨k, e', N, en, re⟩ := h
        exact ⟨k + 1, e', N, .tr hd en, re⟩
      rcases hr : goF t bits h a P u v with ⟨w, u', v'⟩
      rw [hr] at g
      cases w with
      | inl x =>
        have e : goF t bits (h + 1) n P u v = (.inl x, u', v') := by simp only [goF, hd, hr]
        rw [e]
        obtain ⟨g1, g2, cf, g3, g4⟩ := g
        exact ⟨g1, g2, cf, up cf g3, g4⟩
      | inr w =>
        obtain ⟨g1, g2, g3, g4⟩ := g
        by_cases hw : w = .rai
        · subst hw
          have e : goF t bits (h + 1) n P u v = goF t bits h b P u' v' := by simp only [goF, hd, hr]
          rw [e]
          have i := ih b (hg b mb) b2 P u' v' hP g2
          have go' : ∀ cf, From t bits B b P u' v' cf → From t bits B n P u v cf := fun cf h => by
            obtain ⟨k, e', N, en, re⟩ := h
            exact up cf (g4 cf ⟨_, _, _, .tryH c3 hd en, re⟩)
          rcases hr2 : goF t bits h b P u' v' with ⟨w2, u2, v2⟩
          rw [hr2] at i
          cases w2 with
          | inl x =>
            obtain ⟨k1, k2, cf, k3, k4⟩ := i
            exact ⟨by omega, k2, cf, go' cf k3, k4⟩
          | inr w2 =>
            obtain ⟨k1, k2, k3, k4⟩ := i
            refine ⟨by omega, k2, by rw [← b4]; exact k3, fun cf h => ?_⟩
            obtain ⟨r, P', N, lv, re⟩ := h
            exact go' cf (k4 cf ⟨r, P', N, .tryU b3 hd (.inr nab) lv, re⟩)
        · have e : goF t bits (h + 1) n P u v = (.inr w, u', v') := by
            simp only [goF, hd, hr]
            cases w <;> first | rfl | exact absurd rfl hw
          rw [e]
          refine ⟨g1, g2, by rw [← c4]; exact g3, fun cf h => ?_⟩
          obtain ⟨r, P', N, lv, re⟩ := h
          exact up cf (g4 cf ⟨r, P', N, .tryU c3 hd (.inl hw) lv, re⟩)
    | fin a b =>
      have ma : a ∈ (t.nd n).ch := by rw [hd]; simp [Node.ch]
      have mb : b ∈ (t.nd n).ch := by rw [hd]; simp [Node.ch]
      obtain ⟨c1, c2, c3, c4⟩ := W.dn n hn a ma
      obtain ⟨b1, b2, b3, b4⟩ := W.dn n hn b mb
      rw [hd] at c4 b4
      have c4 : lp a = lp n := c4
      have b4 : lp b = lp n := b4
      have nab : b ≠ a := by
        have z := W.nd n hn
        rw [hd] at z
        simp [Node.ch] at z
        exact fun y => z y.symm
      have g := ih a (hg a ma) c2 P u v hP hu
      have up : ∀ cf, From t bits B a P u v cf → From t bits B n P u v cf := fun cf h => by
        obtain ⟨k, e', N, en, re⟩ := h
        exact ⟨k + 1, e', N, .fin hd en, re⟩
      rcases hr : goF t bits h a P u v with ⟨w, u', v'⟩
      rw [hr] at g
      cases w with
      | inl x =>
        have e : goF t bits (h + 1) n P u v = (.inl x, u', v') := by simp only [goF, hd, hr]
        rw [e]
        obtain ⟨g1, g2, cf, g3, g4⟩ := g
        exact ⟨g1, g2, cf, up cf g3, g4⟩
      | inr w =>
        obtain ⟨g1, g2, g3, g4⟩ := g
        have e : goF t bits (h + 1) n P u v = finF n w (goF t bits h b (P ++ [(n, w)]) u' v') := by simp only [goF, hd, hr]
        rw [e]
        have i := ih b (hg b mb) b2 (P ++ [(n, w)]) u' v' (by simp; omega) g2
        have go' : ∀ cf, From t bits B b (P ++ [(n, w)]) u' v' cf → From t bits B n P u v cf := fun cf h => by
          obtain ⟨k, e', N, en, re⟩ := h
          exact up cf (g4 cf ⟨_, _, _, .finB c3 hd en, re⟩)
        rcases hr2 : goF t bits h b (P ++ [(n, w)]) u' v' with ⟨w2, u2, v2⟩
        rw [hr2] at i
        cases w2 with
        | inl x =>
          obtain ⟨k1, k2, cf, k3, k4⟩ := i
          exact ⟨by omega, k2, cf, go' cf k3, k4⟩
        | inr w2 =>
          obtain ⟨k1, k2, k3, k4⟩ := i
          by_cases hw : w2 = .nrm
          · subst hw
            have e2 : finF n w (.inr .nrm, u2, v2) = (.inr w, u2, v2 ++ [n]) := by simp [finF]
            rw [e2]
            refine ⟨by omega, k2, by rw [← c4]; exact g3, fun cf h => ?_⟩
            obtain ⟨r, P', N, lv, re⟩ := h
            exact go' cf (k4 cf ⟨_, _, _, .finE b3 hd nab, .step (.on (by rw [hd]; rfl) (.fin hd lv)) (by simp; omega) re⟩)
          · have e2 : finF n w (.inr w2, u2, v2) = (.inr w2, u2, v2) := by simp [finF, hw]
            rw [e2]
            refine ⟨by omega, k2, by rw [← b4]; exact k3, fun cf h => ?_⟩
            obtain ⟨r, P', N, lv, re⟩ := h
            exact go' cf (k4 cf ⟨r, P', N, .finO b3 hd nab hw lv, re⟩)
/-- the whole: from the first entry the walker comes to where the law comes -/
theorem whole (W : t.WF lp) {h : Nat} (hg : Hg t h 0) (hB : h ≤ B) : ∃ k e N cf, Ent t k 0 e ∧ Re t bits B N ⟨.inl e, [], 0, []⟩ cf ∧ cf.vs = (goF t bits h 0 [] 0 []).2.2 ∧ cf.us = (goF t bits h 0 [] 0 []).2.1 ∧
    (match (goF t bits h 0 [] 0 []).1 with | .inl x => cf.at_ = .inl x.1 ∧ cf.pd = x.2 | .inr w => cf.at_ = .inr w ∧ WOk 0 w) := by
  have g := main (bits := bits) (B := B) W h 0 hg W.ne [] 0 [] (by simpa using hB) (Nat.zero_le _)
  rcases hr : goF t bits h 0 [] 0 [] with ⟨w, u', v'⟩
  rw [hr] at g
  cases w with
  | inl x =>
    obtain ⟨_, _, cf, ⟨k, e, N, en, re⟩, g4⟩ := g
    exact ⟨k, e, N, cf, en, re, g4.1, g4.2.1, g4.2.2⟩
  | inr w =>
    obtain ⟨_, _, g3, g4⟩ := g
    obtain ⟨k, e, N, en, re⟩ := g4 _ ⟨_, _, _, .top W.root, .stop .fin (Nat.zero_le _)⟩
    exact ⟨k, e, N, _, en, re, rfl, rfl, rfl, by rw [W.lp0] at g3; exact g3⟩
theorem ent_lt (W : t.WF lp) {k n e : Nat} (h : Ent t k n e) (hn : n < t.len) : e < t.len := by
  induction h with
  | here => exact hn
  | seq h r ih => exact ih (W.dn _ hn _ (by rw [h]; exact List.mem_cons_self)).2.1
  | tr h r ih => exact ih (W.dn _ hn _ (by rw [h]; exact List.mem_cons_self)).2.1
  | fin h r ih => exact ih (W.dn _ hn _ (by rw [h]; exact List.mem_cons_self)).2.1
theorem lv_lt (W : t.WF lp) {n : Nat} {w : Way} {P P' : Pd} {r : Nat ⊕ Way} (h : Lv t n w P r P') (hn : n < t.len) : ∀ e, r = .inl e → e < t.len := by
  induction h with
  | top => exact fun e z => nomatch z
  | seqN h hd hl he => intro e z; cases z; exact ent_lt W he (W.dn _ (W.pu _ _ hn h) _ (by rw [hd, hl]; exact List.mem_append_right _ (List.mem_cons_of_mem _ List.mem_cons_self))).2.1
  | seqU h hd hw up ih => exact ih (W.pu _ _ hn h)
  | whlA h hd hw => intro e z; cases z; exact W.pu _ _ hn h
  | whlU h hd hw up ih => exact ih (W.pu _ _ hn h)
  | tryH h hd he => intro e z; cases z; exact ent_lt W he (W.dn _ (W.pu _ _ hn h) _ (by rw [hd]; simp [Node.ch])).2.1
  | tryU h hd hw up ih => exact ih (W.pu _ _ hn h)
  | iffU h hd up ih => exact ih (W.pu _ _ hn h)
  | finB h hd he => intro e z; cases z; exact ent_lt W he (W.dn _ (W.pu _ _ hn h) _ (by rw [hd]; simp [Node.ch])).2.1
  | finE h hd => intro e z; cases z; exact W.pu _ _ hn h
  | finO h hd hn' hw up ih => exact ih (W.pu _ _ hn h)
theorem dp_lt (W : t.WF lp) {s : Nat} {x : Bool} {P P' : Pd} {r : Nat ⊕ Way} (h : Dp1 t s x P r P') (hs : s < t.len) : ∀ e, r = .inl e → e < t.len := by
  cases h with
  | iff h he => intro e z; cases z; exact ent_lt W he (W.dn _ hs _ (by rw [h]; cases x <;> simp [Node.ch])).2.1
  | whlT h hx he => intro e z; cases z; exact ent_lt W he (W.dn _ hs _ (by rw [h]; simp [Node.ch])).2.1
  | whlF h hx l => exact lv_lt W l hs
  | call h l => exact lv_lt W l hs
  | fin h l => exact lv_lt W l hs
  | quiet h l => exact lv_lt W l hs
theorem Re.vs {N : Nat} {c d : Cfg} (h : Re t bits B N c d) : c.vs.length ≤ d.vs.length := by
  induction h with
  | stop => exact Nat.le_refl _
  | step h hb r ih =>
    cases h with
    | ask _ _ _ => exact Nat.le_trans (by simp) ih
    | on _ _ => exact Nat.le_trans (by simp) ih
theorem Re.pdl {N : Nat} {c d : Cfg} (h : Re t bits B N c d) : c.pd.length ≤ B := by
  cases h with
  | stop _ hb => exact hb
  | step _ hb _ => exact hb
theorem Re.ended {N : Nat} {w : Way} {P : Pd} {u : Nat} {v : List Nat} {d : Cfg} (h : Re t bits B N ⟨.inr w, P, u, v⟩ d) : d = ⟨.inr w, P, u, v⟩ := by
  cases h with
  | stop => rfl
  | step h => cases h
theorem Re.quiet {N s : Nat} {P : Pd} {u : Nat} {v : List Nat} {d : Cfg} (h : Re t bits B N ⟨.inl s, P, u, v⟩ d) (ha : asks (t.nd s) = false) : ∃ M r P', N = M + 1 ∧ Dp1 t s false P r P' ∧ Re t bits B M ⟨r, P', u, v ++ [s]⟩ d := by
  cases h with
  | stop h =>
    cases h with
    | wait h _ => rw [ha] at h; cases h
  | step h _ r =>
    cases h with
    | ask h _ _ => rw [ha] at h; cases h
    | on _ d => exact ⟨_, _, _, rfl, d, r⟩
theorem Re.asked {N s : Nat} {P : Pd} {u : Nat} {v : List Nat} {d : Cfg} {x : Bool} (h : Re t bits B N ⟨.inl s, P, u, v⟩ d) (ha : asks (t.nd s) = true) (hu : bits[u]? = some x) : ∃ M r P', N = M + 1 ∧ Dp1 t s x P r P' ∧ Re t bits B M ⟨r, P', u + 1, v ++ [s]⟩ d := by
  cases h with
  | stop h =>
    cases h with
    | wait _ h => rw [hu] at h; cases h
  | step h _ r =>
    cases h with
    | ask _ h d =>
      rw [hu] at h
      cases h
      exact ⟨_, _, _, rfl, d, r⟩
    | on h _ => rw [ha] at h; cases h
theorem Re.waits {N s : Nat} {P : Pd} {u : Nat} {v : List Nat} {d : Cfg} (h : Re t bits B N ⟨.inl s, P, u, v⟩ d) (ha : asks (t.nd s) = true) (hu : bits[u]? = none) : d = ⟨.inl s, P, u, v⟩ := by
  cases h with
  | stop h => rfl
  | step h _ r =>
    cases h with
    | ask _ h d => rw [hu] at h; cases h
    | on h _ => rw [ha] at h; cases h
end
end FcM

set_option maxRecDepth 100000
set_option maxHeartbeats 4000000
namespace Fc
open PySem PySem.Spec PyProof.Rows L2 FcR
open Evl (Ex)
/-! ### statements by their kinds; the table of a code -/
open FcM (Way Node Tab)
inductive SV (l : Int) : PyData → Prop
  | do_ (x : Str) : SV l (.tuple [.str "do", .str x])
  | call (x : Str) : SV l (.tuple [.str "call", .str x])
  | iff (x : Str) (a b : PyData) : SV l (.tuple [.str "if", .str x, a, b])
  | whl (x : Str) (a : PyData) : SV l (.tuple [.str "while", .str x, a])
  | seq (p : PyData) (ps : List PyData) : SV l (.tuple [.str "seq", .tuple (p :: ps)])
  | brk (n : Int) (h1 : 1 ≤ n) (h2 : n ≤ l) : SV l (.tuple [.str "break", .int n])
  | cnt (n : Int) (h1 : 1 ≤ n) (h2 : n ≤ l) : SV l (.tuple [.str "continue", .int n])
  | ret : SV l (.tuple [.str "return"])
  | rai : SV l (.tuple [.str "raise"])
  | tr (a b : PyData) : SV l (.tuple [.str "try", a, b])
  | fin (a b : PyData) : SV l (.tuple [.str "final", a, b])
theorem lk_mem {l : List (Str × Int)} {k : Str} {n : Int} (h : l.lookup k = some n) : (k, n) ∈ l := by
  induction l with
  | nil => cases h
  | cons p l ih =>
    obtain ⟨a, b⟩ := p
    by_cases e : k == a
    · rw [List.lookup, e] at h
      cases h
      have z : k = a := by simpa using e
      rw [z]
      exact List.mem_cons_self
    · have e' : (k == a) = false := by simpa using e
      rw [List.lookup, e'] at h
      exact List.mem_cons_of_mem _ (ih h)
theorem isName_str {d : PyData} (h : isName d = true) : ∃ x, d = .str x := by
  cases d <;> first | exact ⟨_, rfl⟩ | cases h
theorem isNum_int {d : PyData} {a b : Int} (h : isNum a b d = true) : ∃ n, d = .int n ∧ a ≤ n ∧ n ≤ b := by
  cases d <;> first | (refine ⟨_, rfl, ?_⟩; simpa [isNum] using h) | cases h
theorem ne_tup {d : PyData} (h : nonEmptyT d = true) : ∃ p ps, d = .tuple (p :: ps) := by
  cases d with
  | tuple l => cases l with
    | nil => cases h
    | cons p ps => exact ⟨p, ps, rfl⟩
  | _ => cases h
theorem len_of {r : List PyData} {n : Int} {m : Nat} (h : (r.length : Int) + 1 = n) (e : n = (m : Int) + 1) : r.length = m := by omega
theorem sv_of {d : PyData} {l : Int} (h : isStm d l = true) : SV l d := by
  obtain ⟨k, r, n, rfl, hk, hl, h⟩ := isStm_shape h
  have hm := lk_mem hk
  simp only [kSizes, List.mem_cons, List.not_mem_nil, or_false, Prod.mk.injEq] at hm
  rcases hm with ⟨rfl, rfl⟩ | ⟨rfl, rfl⟩ | ⟨rfl, rfl⟩ | ⟨rfl, rfl⟩ | ⟨rfl, rfl⟩ | ⟨rfl, rfl⟩ | ⟨rfl, rfl⟩ | ⟨rfl, rfl⟩ | ⟨rfl, rfl⟩ | ⟨rfl, rfl⟩ | ⟨rfl, rfl⟩
  · rw [if_pos (by decide)] at h
    match r, len_of (m := 1) hl rfl, h with
    | [a], _, h => obtain ⟨x, rfl⟩ := isName_str h; exact .do_ x
  · rw [if_pos (by decide)] at h
    match r, len_of (m := 1) hl rfl, h with
    | [a], _, h => obtain ⟨x, rfl⟩ := isName_str h; exact .call x
  · rw [if_pos (by decide)] at h
    match r, len_of (m := 3) hl rfl, h with
    | [a, b, c], _, h => obtain ⟨x, rfl⟩ := isName_str h; exact .iff x b c
  · rw [if_pos (by decide)] at h
    match r, len_of (m := 2) hl rfl, h with
    | [a, b], _, h => obtain ⟨x, rfl⟩ := isName_str h; exact .whl x b
  · rw [if_neg (by decide), if_neg (by decide), if_neg (by decide)] at h
    match r, len_of (m := 1) hl rfl, h with
    | [a], _, h => obtain ⟨p, ps, rfl⟩ := ne_tup h; exact .seq p ps
  · rw [if_neg (by decide), if_pos (by decide)] at h
    match r, len_of (m := 1) hl rfl, h with
    | [a], _, h => obtain ⟨x, rfl, h1, h2⟩ := isNum_int h; exact .brk x h1 h2
  · rw [if_neg (by decide), if_pos (by decide)] at h
    match r, len_of (m := 1) hl rfl, h with
    | [a], _, h => obtain ⟨x, rfl, h1, h2⟩ := isNum_int h; exact .cnt x h1 h2
  · match r, len_of (m := 0) hl rfl with
    | [], _ => exact .ret
  · match r, len_of (m := 0) hl rfl with
    | [], _ => exact .rai
  · match r, len_of (m := 2) hl rfl with
    | [a, b], _ => exact .tr a b
  · match r, len_of (m := 2) hl rfl with
    | [a, b], _ => exact .fin a b
/-- the number of a jump -/
def numD : PyData → Nat
  | .tuple [_, .int n] => n.toNat
  | _ => 0
def ndOf (r : Row) : Node :=
  if kindD r.d = "do" then .do_ else if kindD r.d = "call" then .call else if kindD r.d = "return" then .ret else if kindD r.d = "raise" then .rai else
  if kindD r.d = "break" then .brk (numD r.d) else if kindD r.d = "continue" then .cnt (numD r.d) else if kindD r.d = "seq" then .seq r.ch else
  if kindD r.d = "while" then .whl (r.ch.getD 0 0) else if kindD r.d = "if" then .iff (r.ch.getD 0 0) (r.ch.getD 1 0) else
  if kindD r.d = "try" then .tr (r.ch.getD 0 0) (r.ch.getD 1 0) else .fin (r.ch.getD 0 0) (r.ch.getD 1 0)
def tabOf (rows : List Row) : Tab := ⟨rows.length, fun n => match rows[n]? with | some r => ndOf r | none => .do_, fun n => rows[n]?.bind Row.par⟩
def wl (d : PyData) : Nat := if kindD d = "while" then 1 else 0
/-- what is built so far -/
structure BI (st : List WIt) (rows : List Row) (ls : List Nat) : Prop where
  ll : ls.length = rows.length
  dn : ∀ (n : Nat) (r : Row) (l : Nat), rows[n]? = some r → ls[n]? = some l → ∀ c ∈ r.ch, n < c ∧ ∃ r' : Row, rows[c]? = some r' ∧ r'.par = some n ∧ ls[c]? = some (l + wl r.d)
  as : ∀ (n : Nat) (r : Row), rows[n]? = some r → r.ch.Pairwise (· < ·)
  pt : ∀ (n : Nat) (r : Row), rows[n]? = some r → (r.ch.map fun c => (rows[c]?.map Row.d).getD .none) ++ (st.filter fun i => decide (i.par = some n)).map WIt.d = partsD r.d
  sm : ∀ (n : Nat) (r : Row) (l : Nat), rows[n]? = some r → ls[n]? = some l → isStm r.d (l : Int) = true
  it : ∀ i ∈ st, (i.par = none → rows = [] ∧ i.loops = 0 ∧ st.length = 1) ∧ ∀ p : Nat, i.par = some p → ∃ (r : Row) (l : Nat), rows[p]? = some r ∧ ls[p]? = some l ∧ i.loops = l + wl r.d
  up : ∀ (n : Nat) (r : Row) (p : Nat), rows[n]? = some r → r.par = some p → p < n ∧ ∃ rp : Row, rows[p]? = some rp ∧ n ∈ rp.ch
  rt : ∀ r : Row, rows[0]? = some r → r.par = none
  l0 : ∀ l : Nat, ls[0]? = some l → l = 0
theorem addRow_get {rows : List Row} {d : PyData} {par : Option Nat} {n : Nat} {r : Row} (h : (addRow rows d par)[n]? = some r) :
    (n = rows.length ∧ r = ⟨d, par, []⟩) ∨ (∃ r0, rows[n]? = some r0 ∧ r.d = r0.d ∧ r.par = r0.par ∧ ((par = some n ∧ r.ch = r0.ch ++ [rows.length]) ∨ (par ≠ some n ∧ r = r0))) := by
  obtain ⟨bs, hb, hl, hg⟩ : ∃ bs : List Row, addRow rows d par = bs ++ [⟨d, par, []⟩] ∧ bs.length = rows.length ∧ ∀ (n : Nat) (r : Row), bs[n]? = some r → ∃ r0, rows[n]? = some r0 ∧ r.d = r0.d ∧ r.par = r0.par ∧ ((par = some n ∧ r.ch = r0.ch ++ [rows.length]) ∨ (par ≠ some n ∧ r = r0)) := by
    cases par with
    | none => exact ⟨rows, rfl, rfl, fun n r h => ⟨r, h, rfl, rfl, .inr ⟨(fun z => nomatch z), rfl⟩⟩⟩
    | some i =>
      refine ⟨addCh rows i rows.length, rfl, addCh_len _ _ _, fun n r h => ?_⟩
      rw [addCh_eq, List.getElem?_modify] at h
      cases e : rows[n]? with
      | none => rw [e] at h; simp at h
      | some r0 =>
        rw [e] at h
        by_cases z : i = n
        · subst z
          simp at h
          refine ⟨r0, rfl, ?_, ?_, .inl ⟨rfl, ?_⟩⟩ <;> rw [← h] <;> rfl
        · simp [z] at h
          exact ⟨r0, rfl, by rw [h], by rw [h], .inr ⟨fun y => z (Option.some.inj y), h.symm⟩⟩
  rw [hb] at h
  rcases Nat.lt_or_ge n rows.length with lt | ge
  · rw [List.getElem?_append_left (by rw [hl]; exact lt)] at h
    exact .inr (hg n r h)
  · rw [List.getElem?_append_right (by rw [hl]; exact ge), hl] at h
    have e : n - rows.length = 0 := by
      have := (List.getElem?_eq_some_iff.mp h).1
      simp at this
      omega
    rw [e] at h
    simp at h
    exact .inl ⟨by omega, h.symm⟩
theorem addRow_old {rows : List Row} {d : PyData} {par : Option Nat} {n : Nat} {r0 : Row} (h : rows[n]? = some r0) : ∃ r, (addRow rows d par)[n]? = some r ∧ r.d = r0.d ∧ r.par = r0.par := by
  have lt := (List.getElem?_eq_some_iff.mp h).1
  have lt2 : n < (addRow rows d par).length := by rw [addRow_len]; omega
  refine ⟨_, List.getElem?_eq_getElem lt2, ?_⟩
  rcases addRow_get (List.getElem?_eq_getElem lt2) with ⟨e, _⟩ | ⟨r1, h1, h2, h3, _⟩
  · omega
  · rw [h] at h1
    cases h1
    exact ⟨h2, h3⟩
theorem addRow_new {rows : List Row} {d : PyData} {par : Option Nat} : (addRow rows d par)[rows.length]? = some ⟨d, par, []⟩ := by
  have lt2 : rows.length < (addRow rows d par).length := by rw [addRow_len]; omega
  rw [List.getElem?_eq_getElem lt2]
  rcases addRow_get (List.getElem?_eq_getElem lt2) with ⟨_, e⟩ | ⟨r1, h1, _⟩
  · rw [e]
  · have := (List.getElem?_eq_some_iff.mp h1).1
    omega
theorem addRow_d {rows : List Row} {d : PyData} {par : Option Nat} {c : Nat} (hc : c < rows.length) : ((addRow rows d par)[c]?.map Row.d) = rows[c]?.map Row.d := by
  obtain ⟨r, h1, h2, _⟩ := addRow_old (d := d) (par := par) (List.getElem?_eq_getElem hc)
  rw [h1, List.getElem?_eq_getElem hc, Option.map_some, Option.map_some, h2]
theorem BI.step {it : WIt} {st : List WIt} {rows : List Row} {ls : List Nat} (b : BI (it :: st) rows ls) (ok : okIt it rows.length) : BI (newIts it rows.length ++ st) (addRow rows it.d it.par) (ls ++ [it.loops]) := by
  have lsl : ∀ {n l : Nat}, ls[n]? = some l → (ls ++ [it.loops])[n]? = some l := fun {n l} h => by
    rw [List.getElem?_append_left (List.getElem?_eq_some_iff.mp h).1]
    exact h
  have lsn : (ls ++ [it.loops])[rows.length]? = some it.loops := by rw [List.getElem?_append_right (by rw [b.ll]; exact Nat.le_refl _), b.ll, Nat.sub_self] <;> rfl
  have lso : ∀ {n l : Nat}, n < rows.length → (ls ++ [it.loops])[n]? = some l → ls[n]? = some l := fun {n l} hn h => by
    rw [List.getElem?_append_left (by rw [b.ll]; exact hn)] at h
    exact h
  obtain ⟨i1, i2⟩ := b.it it List.mem_cons_self
  have new_par : ∀ i ∈ newIts it rows.length, i.par = some rows.length ∧ i.loops = it.loops + wl it.d := fun i hi => by
    obtain ⟨j, hj, rfl⟩ := List.mem_mapIdx.mp hi
    exact ⟨rfl, rfl⟩
  refine ⟨by rw [List.length_append, addRow_len, b.ll] <;> rfl, fun n r l hr hl c hc => ?_, fun n r hr => ?_, fun n r hr => ?_, fun n r l hr hl => ?_, fun i hi => ?_, fun n r p hr hp => ?_, fun r hr => ?_, fun l hl => ?_⟩
  · rcases addRow_get hr with ⟨rfl, rfl⟩ | ⟨r0, h0, hd, hp, h⟩
    · cases hc
    · have lt := (List.getElem?_eq_some_iff.mp h0).1
      have hl0 := lso lt hl
      have old : ∀ c ∈ r0.ch, n < c ∧ ∃ r' : Row, (addRow rows it.d it.par)[c]? = some r' ∧ r'.par = some n ∧ (ls ++ [it.loops])[c]? = some (l + wl r.d) := fun c hc => by
        obtain ⟨x1, r', x2, x3, x4⟩ := b.dn n r0 l h0 hl0 c hc
        obtain ⟨r2, y1, y2, y3⟩ := addRow_old (d := it.d) (par := it.par) x2
        exact ⟨x1, r2, y1, y3.trans x3, by rw [hd]; exact lsl x4⟩
      rcases h with ⟨hp, hch⟩ | ⟨_, e⟩
      · rw [hch] at hc
        rcases List.mem_append.mp hc with hc | hc
        · exact old c hc
        · have e := List.mem_singleton.mp hc
          subst e
          refine ⟨lt, _, addRow_new, hp, ?_⟩
          obtain ⟨r1, l1, z1, z2, z3⟩ := i2 n hp
          rw [h0] at z1
          cases z1
          rw [hl0] at z2
          cases z2
          rw [lsn, z3, hd]
      · rw [e] at hc
        exact old c hc
  · rcases addRow_get hr with ⟨rfl, rfl⟩ | ⟨r0, h0, hd, hp, h⟩
    · exact .nil
    · rcases h with ⟨hp, hch⟩ | ⟨_, e⟩
      · rw [hch, List.pairwise_append]
        refine ⟨b.as n r0 h0, List.pairwise_singleton _ _, fun c hc y hy => ?_⟩
        rw [List.mem_singleton.mp hy]
        obtain ⟨l, hl⟩ : ∃ l, ls[n]? = some l := ⟨_, List.getElem?_eq_getElem (by rw [b.ll]; exact (List.getElem?_eq_some_iff.mp h0).1)⟩
        obtain ⟨_, r', x2, _⟩ := b.dn n r0 l h0 hl c hc
        exact (List.getElem?_eq_some_iff.mp x2).1
      · rw [e]
        exact b.as n r0 h0
  · rcases addRow_get hr with ⟨rfl, rfl⟩ | ⟨r0, h0, hd, hp, h⟩
    · show ([] : List Nat).map _ ++ _ = _
      rw [List.map_nil, List.nil_append, List.filter_append, List.map_append]
      have e1 : (newIts it rows.length).filter (fun i => decide (i.par = some rows.length)) = newIts it rows.length := List.filter_eq_self.mpr fun i hi => decide_eq_true (new_par i hi).1
      have e2 : st.filter (fun i => decide (i.par = some rows.length)) = [] := List.filter_eq_nil_iff.mpr fun i hi z => by
        obtain ⟨r1, l1, z1, _⟩ := (b.it i (List.mem_cons_of_mem _ hi)).2 _ (of_decide_eq_true z)
        have := (List.getElem?_eq_some_iff.mp z1).1
        omega
      rw [e1, e2, List.map_nil, List.append_nil]
      show (newIts it rows.length).map WIt.d = partsD it.d
      unfold newIts
      apply List.ext_getElem?
      intro j
      rw [List.getElem?_map, List.getElem?_mapIdx]
      cases (partsD it.d)[j]? <;> rfl
    · have lt := (List.getElem?_eq_some_iff.mp h0).1
      obtain ⟨l, hl⟩ : ∃ l, ls[n]? = some l := ⟨_, List.getElem?_eq_getElem (by rw [b.ll]; exact lt)⟩
      have p0 := b.pt n r0 h0
      have e1 : (newIts it rows.length).filter (fun i => decide (i.par = some n)) = [] := List.filter_eq_nil_iff.mpr fun i hi z => by
        have z1 := (new_par i hi).1
        rw [of_decide_eq_true z] at z1
        have := Option.some.inj z1
        omega
      have e3 : (r0.ch.map fun c => ((addRow rows it.d it.par)[c]?.map Row.d).getD .none) = r0.ch.map fun c => (rows[c]?.map Row.d).getD .none := List.map_congr_left fun c hc => by
        obtain ⟨_, r', x2, _⟩ := b.dn n r0 l h0 hl c hc
        rw [addRow_d (List.getElem?_eq_some_iff.mp x2).1]
      rw [List.filter_append, e1, List.nil_append, hd]
      rcases h with ⟨hp, hch⟩ | ⟨hp, e⟩
      · rw [hch, List.map_append, e3, ← p0, List.filter_cons, if_pos (decide_eq_true hp), List.map_cons, List.append_assoc]
        congr 1
        show [(((addRow rows it.d it.par)[rows.length]?).map Row.d).getD .none] ++ _ = _
        rw [addRow_new] <;> rfl
      · rw [e, e3, ← p0, List.filter_cons, if_neg (by simpa using hp)]
  · rcases addRow_get hr with ⟨rfl, rfl⟩ | ⟨r0, h0, hd, hp, h⟩
    · rw [lsn] at hl
      cases hl
      exact ok.2.2.2
    · rw [hd]
      exact b.sm n r0 l h0 (lso (List.getElem?_eq_some_iff.mp h0).1 hl)
  · rcases List.mem_append.mp hi with hi | hi
    · obtain ⟨z1, z2⟩ := new_par i hi
      refine ⟨(fun e => by rw [z1] at e; cases e), fun p hp => ?_⟩
      rw [z1] at hp
      cases hp
      exact ⟨_, _, addRow_new, lsn, z2⟩
    · obtain ⟨z1, z2⟩ := b.it i (List.mem_cons_of_mem _ hi)
      refine ⟨fun e => ?_, fun p hp => ?_⟩
      · have z3 := (z1 e).2.2
        have := List.length_pos_of_mem hi
        rw [List.length_cons] at z3
        omega
      · obtain ⟨r, l, y1, y2, y3⟩ := z2 p hp
        obtain ⟨r2, x1, x2, _⟩ := addRow_old (d := it.d) (par := it.par) y1
        exact ⟨r2, l, x1, lsl y2, by rw [x2]; exact y3⟩
  · have keep : ∀ {rp : Row} {x : Nat}, rows[p]? = some rp → x ∈ rp.ch → ∃ rp' : Row, (addRow rows it.d it.par)[p]? = some rp' ∧ x ∈ rp'.ch := fun {rp x} h1 h2 => by
      obtain ⟨r2, y1, _⟩ := addRow_old (d := it.d) (par := it.par) h1
      refine ⟨r2, y1, ?_⟩
      rcases addRow_get y1 with ⟨e, _⟩ | ⟨r3, z1, _, _, z4⟩
      · have := (List.getElem?_eq_some_iff.mp h1).1
        omega
      · rw [h1] at z1
        cases z1
        rcases z4 with ⟨_, e⟩ | ⟨_, e⟩
        · rw [e]; exact List.mem_append_left _ h2
        · rw [e]; exact h2
    rcases addRow_get hr with ⟨e, rfl⟩ | ⟨r0, h0, hd, hp2, h⟩
    · obtain ⟨rp, l, y1, _⟩ := i2 p hp
      have lt := (List.getElem?_eq_some_iff.mp y1).1
      obtain ⟨r2, y2, _⟩ := addRow_old (d := it.d) (par := it.par) y1
      refine ⟨by omega, r2, y2, ?_⟩
      rcases addRow_get y2 with ⟨e2, _⟩ | ⟨r3, z1, _, _, z4⟩
      · omega
      · rcases z4 with ⟨_, e2⟩ | ⟨e2, _⟩
        · rw [e2, e]; exact List.mem_append_right _ (List.mem_singleton.mpr rfl)
        · exact absurd hp e2
    · rw [hp2] at hp
      obtain ⟨y1, rp, y2, y3⟩ := b.up n r0 p h0 hp
      exact ⟨y1, keep y2 y3⟩
  · rcases addRow_get hr with ⟨e, rfl⟩ | ⟨r0, h0, hd, hp, h⟩
    · show it.par = none
      cases e2 : it.par with
      | none => rfl
      | some p =>
        obtain ⟨r, l, y1, _⟩ := i2 p e2
        have := (List.getElem?_eq_some_iff.mp y1).1
        omega
    · rw [hp]
      exact b.rt r0 h0
  · by_cases hz : rows.length = 0
    · have e : ls = [] := List.eq_nil_of_length_eq_zero (by rw [b.ll]; exact hz)
      subst e
      simp at hl
      cases e2 : it.par with
      | none => rw [← hl]; exact (i1 e2).2.1
      | some p =>
        obtain ⟨r, l, y1, _⟩ := i2 p e2
        have := (List.getElem?_eq_some_iff.mp y1).1
        omega
    · exact b.l0 l (lso (by omega) hl)

theorem BI.all : ∀ {m : Nat} {st : List WIt} {rows fin : List Row}, Builds m st rows fin → ∀ {ls : List Nat}, BI st rows ls → ∃ ls', BI [] fin ls'
  | _, _, _, _, .done _, ls, b => ⟨ls, b⟩
  | _, _, _, _, .step ok h, _, b => BI.all h (b.step ok)
theorem BI.start (d : PyData) : BI [⟨d, none, 1, 0, 0⟩] [] [] :=
  ⟨rfl, fun n r l h => by simp at h, fun n r h => by simp at h, fun n r h => by simp at h, fun n r l h => by simp at h, fun i hi => by
    rw [List.mem_singleton.mp hi]
    exact ⟨fun _ => ⟨rfl, rfl, rfl⟩, fun p hp => nomatch hp⟩, fun n r p h => by simp at h, fun r h => by simp at h, fun l h => by simp at h⟩
theorem Builds.fin_ne {m : Nat} {st : List WIt} {rows fin : List Row} (b : Builds m st rows fin) : rows.length ≤ fin.length := by
  induction b with
  | done => exact Nat.le_refl _
  | step ok h ih =>
    rw [addRow_len] at ih
    omega
/-- the rows of a code: what its runs rest on -/
structure TW (rows : List Row) (lp : Nat → Nat) : Prop where
  wf : (tabOf rows).WF lp
  sv : ∀ (n : Nat) (r : Row), rows[n]? = some r → SV (lp n : Int) r.d ∧ r.ch.length = (partsD r.d).length ∧ r.ch = (ndOf r).ch
  pu : ∀ (n : Nat) (r : Row) (p : Nat), rows[n]? = some r → r.par = some p → p < n ∧ p < rows.length ∧ n ∈ ((tabOf rows).nd p).ch
  pr : ∀ (n : Nat) (r : Row), rows[n]? = some r → ∀ (j c : Nat), r.ch[j]? = some c → ∃ r' : Row, rows[c]? = some r' ∧ (partsD r.d)[j]? = some r'.d
theorem len_two {α : Type} {l : List α} (h : l.length = 2) : ∃ a b, l = [a, b] := by
  match l, h with
  | [a, b], _ => exact ⟨a, b, rfl⟩
theorem len_one {α : Type} {l : List α} (h : l.length = 1) : ∃ a, l = [a] := by
  match l, h with
  | [a], _ => exact ⟨a, rfl⟩
theorem nd_ch {r : Row} {l : Int} (h : SV l r.d) (hl : r.ch.length = (partsD r.d).length) : r.ch = (ndOf r).ch := by
  obtain ⟨d, par, ch⟩ := r
  cases h with
  | do_ x => exact List.eq_nil_of_length_eq_zero (hl.trans rfl)
  | call x => exact List.eq_nil_of_length_eq_zero (hl.trans rfl)
  | ret => exact List.eq_nil_of_length_eq_zero (hl.trans rfl)
  | rai => exact List.eq_nil_of_length_eq_zero (hl.trans rfl)
  | brk n h1 h2 => exact List.eq_nil_of_length_eq_zero (hl.trans rfl)
  | cnt n h1 h2 => exact List.eq_nil_of_length_eq_zero (hl.trans rfl)
  | iff x a b =>
    obtain ⟨a, b, rfl⟩ := len_two (hl.trans rfl)
    rfl
  | whl x a =>
    obtain ⟨a, rfl⟩ := len_one (hl.trans rfl)
    rfl
  | seq p ps => rfl
  | tr a b =>
    obtain ⟨a, b, rfl⟩ := len_two (hl.trans rfl)
    rfl
  | fin a b =>
    obtain ⟨a, b, rfl⟩ := len_two (hl.trans rfl)
    rfl
theorem nd_wl {r : Row} {l : Int} (h : SV l r.d) : wl r.d = (match ndOf r with | .whl _ => 1 | _ => 0) := by
  obtain ⟨d, par, ch⟩ := r
  cases h <;> rfl
theorem tab_nd {rows : List Row} {n : Nat} {r : Row} (h : rows[n]? = some r) : (tabOf rows).nd n = ndOf r := by
  show (match rows[n]? with | some r => ndOf r | none => .do_) = ndOf r
  rw [h]
theorem nd_seq {r : Row} {l : Int} {cs : List Nat} (h : SV l r.d) (hl : r.ch.length = (partsD r.d).length) (e : ndOf r = .seq cs) : cs ≠ [] := by
  obtain ⟨d, par, ch⟩ := r
  cases h with
  | seq p ps =>
    cases e
    intro z
    rw [show ch = [] from z] at hl
    cases hl
  | _ => cases e
theorem nd_brk {r : Row} {l : Nat} {k : Nat} (h : SV (l : Int) r.d) (e : ndOf r = .brk k) : 1 ≤ k ∧ k ≤ l := by
  obtain ⟨d, par, ch⟩ := r
  cases h with
  | brk n h1 h2 =>
    cases e
    show 1 ≤ n.toNat ∧ n.toNat ≤ l
    omega
  | _ => cases e
theorem nd_cnt {r : Row} {l : Nat} {k : Nat} (h : SV (l : Int) r.d) (e : ndOf r = .cnt k) : 1 ≤ k ∧ k ≤ l := by
  obtain ⟨d, par, ch⟩ := r
  cases h with
  | cnt n h1 h2 =>
    cases e
    show 1 ≤ n.toNat ∧ n.toNat ≤ l
    omega
  | _ => cases e
theorem tw_of {fin : List Row} {ls : List Nat} (b : BI [] fin ls) (hne : 0 < fin.length) : TW fin (fun n => ls.getD n 0) := by
  have lpn : ∀ {n l : Nat}, ls[n]? = some l → ls.getD n 0 = l := fun h => by rw [List.getD_eq_getElem?_getD, h] <;> rfl
  have lex : ∀ {n : Nat} {r : Row}, fin[n]? = some r → ∃ l, ls[n]? = some l := fun {n r} h => ⟨_, List.getElem?_eq_getElem (by rw [b.ll]; exact (List.getElem?_eq_some_iff.mp h).1)⟩
  have pt : ∀ (n : Nat) (r : Row), fin[n]? = some r → (r.ch.map fun c => (fin[c]?.map Row.d).getD .none) = partsD r.d := fun n r h => by
    have z := b.pt n r h
    rw [List.filter_nil, List.map_nil, List.append_nil] at z
    exact z
  have sv : ∀ (n : Nat) (r : Row), fin[n]? = some r → SV (ls.getD n 0 : Int) r.d ∧ r.ch.length = (partsD r.d).length ∧ r.ch = (ndOf r).ch := fun n r h => by
    obtain ⟨l, hl⟩ := lex h
    rw [lpn hl]
    have s := sv_of (b.sm n r l h hl)
    have e : r.ch.length = (partsD r.d).length := by rw [← pt n r h, List.length_map]
    exact ⟨s, e, nd_ch s e⟩
  have at_ : ∀ n, n < fin.length → ∃ r, fin[n]? = some r ∧ (tabOf fin).nd n = ndOf r := fun n hn => ⟨_, List.getElem?_eq_getElem hn, tab_nd (List.getElem?_eq_getElem hn)⟩
  refine ⟨⟨hne, ?_, ?_, fun n hn c hc => ?_, fun n hn => ?_, fun n p hn hp => ?_, fun n l hn hd => ?_, fun n k hn hd => ?_, fun n k hn hd => ?_⟩, sv, fun n r p h hp => ?_, fun n r h j c hj => ?_⟩
  · show fin[0]?.bind Row.par = none
    rw [List.getElem?_eq_getElem hne]
    exact b.rt _ (List.getElem?_eq_getElem hne)
  · obtain ⟨l, hl⟩ := lex (List.getElem?_eq_getElem hne)
    rw [lpn hl]
    exact b.l0 l hl
  · obtain ⟨r, hr, e⟩ := at_ n hn
    obtain ⟨s1, s2, s3⟩ := sv n r hr
    rw [e, ← s3] at hc
    obtain ⟨l, hl⟩ := lex hr
    obtain ⟨x1, r', x2, x3, x4⟩ := b.dn n r l hr hl c hc
    refine ⟨x1, (List.getElem?_eq_some_iff.mp x2).1, ?_, ?_⟩
    · show fin[c]?.bind Row.par = some n
      rw [x2]
      exact x3
    · rw [e, lpn x4, lpn hl, nd_wl s1]
      try (cases ndOf r <;> rfl)
  · obtain ⟨r, hr, e⟩ := at_ n hn
    rw [e, ← (sv n r hr).2.2]
    exact (b.as n r hr).imp fun h => Nat.ne_of_lt h
  · obtain ⟨r, hr, e⟩ := at_ n hn
    have hp : fin[n]?.bind Row.par = some p := hp
    rw [hr] at hp
    obtain ⟨_, rp, y2, _⟩ := b.up n r p hr hp
    exact (List.getElem?_eq_some_iff.mp y2).1
  · obtain ⟨r, hr, e⟩ := at_ n hn
    rw [e] at hd
    exact nd_seq (sv n r hr).1 (sv n r hr).2.1 hd
  · obtain ⟨r, hr, e⟩ := at_ n hn
    rw [e] at hd
    exact nd_brk (sv n r hr).1 hd
  · obtain ⟨r, hr, e⟩ := at_ n hn
    rw [e] at hd
    exact nd_cnt (sv n r hr).1 hd
  · obtain ⟨y1, rp, y2, y3⟩ := b.up n r p h hp
    exact ⟨y1, (List.getElem?_eq_some_iff.mp y2).1, by rw [tab_nd y2, ← (sv p rp y2).2.2]; exact y3⟩
  · obtain ⟨l, hl⟩ := lex h
    obtain ⟨_, r', x2, _⟩ := b.dn n r l h hl c (List.mem_of_getElem? hj)
    refine ⟨r', x2, ?_⟩
    rw [← pt n r h, List.getElem?_map, hj, Option.map_some, x2] <;> rfl
/-- the height of a statement -/
inductive HD : Nat → PyData → Prop
  | mk {h : Nat} {d : PyData} (r : ∀ p ∈ partsD d, HD h p) : HD (h + 1) d
theorem hg_of {rows : List Row} {lp : Nat → Nat} (W : TW rows lp) : ∀ {h : Nat} {d : PyData}, HD h d → ∀ {n : Nat} {r : Row}, rows[n]? = some r → r.d = d → FcM.Hg (tabOf rows) h n := by
  intro h d hd
  induction hd with
  | mk r ih =>
    intro n r hr e
    refine .mk fun c hc => ?_
    rw [tab_nd hr, ← (W.sv n r hr).2.2] at hc
    obtain ⟨j, hj⟩ := List.mem_iff_getElem?.mp hc
    obtain ⟨r', x1, x2⟩ := W.pr n r hr j c hj
    exact ih r'.d (by rw [← e]; exact List.mem_of_getElem? x2) x1 rfl

end Fc

set_option maxRecDepth 100000
set_option maxHeartbeats 4000000
namespace Fc
open PySem PySem.Spec PyProof.Rows L2 FcR
open Evl (Ex)
/-! ### drawn statements: their weights, heights, and that Code takes them -/
inductive OkS : Nat → Nat → Nat → Nat → PyData → Prop
  | mk {loops deep blocks : Nat} {d : PyData} (wt : Nat → Nat) (st : isStm d (loops : Int) = true) (hd : deep ≤ 100) (hb : blocks ≤ 25) (ps : ∀ i p, (partsD d)[i]? = some p → OkS (loops + wl d) (deep + 1) (blocks + (if kindD d = "final" ∧ i = 1 then 1 else 0)) (wt i) p) : OkS loops deep blocks (1 + ((List.range (partsD d).length).map wt).sum) d
inductive OkL : List WIt → Nat → Prop
  | nil : OkL [] 0
  | cons {it : WIt} {st : List WIt} {w n : Nat} (h : OkS it.loops it.deep it.blocks w it.d) (r : OkL st n) : OkL (it :: st) (w + n)
theorem OkL.app {b : List WIt} {y : Nat} (hb : OkL b y) : ∀ {a : List WIt} {x : Nat}, OkL a x → OkL (a ++ b) (x + y)
  | _, _, .nil => by rw [Nat.zero_add]; exact hb
  | _, _, .cons h r => by rw [Nat.add_assoc]; exact .cons h (OkL.app hb r)
theorem okL_parts {it : WIt} {n : Nat} : ∀ (ps : List PyData) (k : Nat) (wt : Nat → Nat), (∀ i p, ps[i]? = some p → OkS (it.loops + wl it.d) (it.deep + 1) (it.blocks + (if kindD it.d = "final" ∧ k + i = 1 then 1 else 0)) (wt i) p) → OkL (ps.mapIdx fun i p => newIt it n (k + i) p) (((List.range ps.length).map wt).sum)
  | [], _, _, _ => .nil
  | p :: ps, k, wt, h => by
    rw [List.mapIdx_cons, List.length_cons, List.range_succ_eq_map, List.map_cons, List.sum_cons, List.map_map]
    refine .cons (h 0 p rfl) ?_
    have z := okL_parts (it := it) (n := n) ps (k + 1) (fun i => wt (i + 1)) fun i q hq => by
      have y := h (i + 1) q (by simpa using hq)
      have e : k + (i + 1) = k + 1 + i := by omega
      rw [e] at y
      exact y
    have e2 : (ps.mapIdx fun i p => newIt it n (k + (i + 1)) p) = ps.mapIdx fun i p => newIt it n (k + 1 + i) p := by
      congr 1
      funext i p
      rw [show k + (i + 1) = k + 1 + i by omega]
    rw [e2]
    exact z
theorem builds_of : ∀ (N : Nat) (st : List WIt) (rows : List Row), OkL st N → rows.length + N ≤ 400 → ∃ fin, Builds N st rows fin ∧ fin.length = rows.length + N := by
  intro N
  induction N with
  | zero =>
    intro st rows h _
    have : st = [] := by
      generalize e : 0 = z at h
      cases h with
      | nil => rfl
      | cons h r => cases h; omega
    subst this
    exact ⟨rows, .done rows, rfl⟩
  | succ N ih =>
    intro st rows h hl
    generalize e : N + 1 = z at h
    cases h with
    | nil => cases e
    | @cons it st w n h r =>
      obtain ⟨d, par, deep, loops, blocks⟩ := it
      dsimp only at h
      cases h with
      | mk wt s1 s2 s3 s4 =>
        have nw : OkL (newIts ⟨d, par, deep, loops, blocks⟩ rows.length) (((List.range (partsD d).length).map wt).sum) := by
          have z := okL_parts (it := ⟨d, par, deep, loops, blocks⟩) (n := rows.length) (partsD d) 0 wt fun i p hp => by
            rw [Nat.zero_add]
            exact s4 i p hp
          have e2 : ((partsD d).mapIdx fun i p => newIt ⟨d, par, deep, loops, blocks⟩ rows.length (0 + i) p) = newIts ⟨d, par, deep, loops, blocks⟩ rows.length := by
            unfold newIts
            congr 1
            funext i p
            rw [Nat.zero_add]
          rw [e2] at z
          exact z
        have eN : ((List.range (partsD d).length).map wt).sum + n = N := by omega
        have nw2 := OkL.app r nw
        rw [eN] at nw2
        obtain ⟨fin, b, l⟩ := ih _ (addRow rows d par) nw2 (by rw [addRow_len]; omega)
        have eZ : 1 + ((List.range (partsD d).length).map wt).sum + n = N + 1 := by omega
        rw [eZ]
        exact ⟨fin, .step ⟨by omega, s2, s3, s1⟩ b, by rw [l, addRow_len]; omega⟩

end Fc

set_option maxRecDepth 100000
set_option maxHeartbeats 4000000
namespace Fc
open PySem PySem.Spec PyProof.Rows L2 FcR
open Evl (Ex)
/-! ### statements that Code refuses, by what stands before -/
def FailsL (st : List WIt) (n : Nat) (f : Str × Str × Int) : Prop := ∀ rows : List Row, rows.length = n → ∃ N, Fails N st rows f
theorem fail_now {it : WIt} {st : List WIt} {n : Nat} {f : Str × Str × Int} (h : fault it n = some f) : FailsL (it :: st) n f := fun rows e => ⟨0, .now (by rw [e]; exact h)⟩
theorem fail_step {it : WIt} {st : List WIt} {n : Nat} {f : Str × Str × Int} (ok : okIt it n) (hl : (newIts it n ++ st).length ≤ 50000) (h : FailsL (newIts it n ++ st) (n + 1) f) : FailsL (it :: st) n f := fun rows e => by
  subst e
  obtain ⟨N, z⟩ := h (addRow rows it.d it.par) (addRow_len _ _ _)
  exact ⟨N + 1, .step ok hl z⟩
theorem okL_len {st : List WIt} {w : Nat} (h : OkL st w) : st.length ≤ w := by
  induction h with
  | nil => exact Nat.le_refl _
  | cons h r ih =>
    cases h
    rw [List.length_cons]
    omega
theorem okL_news {d : PyData} {par : Option Nat} {deep loops blocks n : Nat} {wt : Nat → Nat} (s4 : ∀ i p, (partsD d)[i]? = some p → OkS (loops + wl d) (deep + 1) (blocks + (if kindD d = "final" ∧ i = 1 then 1 else 0)) (wt i) p) : OkL (newIts ⟨d, par, deep, loops, blocks⟩ n) (((List.range (partsD d).length).map wt).sum) := by
  have z := okL_parts (it := ⟨d, par, deep, loops, blocks⟩) (n := n) (partsD d) 0 wt fun i p hp => by
    rw [Nat.zero_add]
    exact s4 i p hp
  have e2 : ((partsD d).mapIdx fun i p => newIt ⟨d, par, deep, loops, blocks⟩ n (0 + i) p) = newIts ⟨d, par, deep, loops, blocks⟩ n := by
    unfold newIts
    congr 1
    funext i p
    rw [Nat.zero_add]
  rw [e2] at z
  exact z
theorem fail_pass : ∀ (w : Nat) (a st : List WIt) (n : Nat) (f : Str × Str × Int), OkL a w → n + w ≤ 400 → st.length ≤ 40000 → FailsL st (n + w) f → FailsL (a ++ st) n f := by
  intro w
  induction w with
  | zero =>
    intro a st n f h _ _ hf
    cases a with
    | nil => exact hf
    | cons x a => have := okL_len h; simp at this
  | succ N ih =>
    intro a st n f h hn hs hf
    generalize e : N + 1 = z at h
    cases h with
    | nil => cases e
    | @cons it a w m h r =>
      obtain ⟨d, par, deep, loops, blocks⟩ := it
      dsimp only at h
      cases h with
      | mk wt s1 s2 s3 s4 =>
        have nw := okL_news (par := par) (n := n) s4
        have eN : ((List.range (partsD d).length).map wt).sum + m = N := by omega
        have nw2 := OkL.app r nw
        rw [eN] at nw2
        have ll := okL_len nw2
        rw [List.length_append] at ll
        show FailsL (⟨d, par, deep, loops, blocks⟩ :: (a ++ st)) n f
        refine fail_step ⟨by omega, s2, s3, s1⟩ (by simp only [List.length_append]; omega) ?_
        rw [← List.append_assoc]
        refine ih _ st (n + 1) f nw2 (by omega) hs ?_
        rw [show n + 1 + N = n + (N + 1) by omega]
        exact hf
/-- whatever waits behind it, the statement is refused so -/
def BadS (B loops deep blocks n : Nat) (f : Str × Str × Int) (d : PyData) : Prop := ∀ (st : List WIt) (par : Option Nat), st.length ≤ B + n → FailsL (⟨d, par, deep, loops, blocks⟩ :: st) n f
theorem bad_now {B loops deep blocks n : Nat} {f : Str × Str × Int} {d : PyData} (h : faultI (n : Int) (deep : Int) (loops : Int) (blocks : Int) d = some f) : BadS B loops deep blocks n f d := fun st par _ => fail_now h
/-- a statement that is fine itself: some of its parts are taken, the next is refused -/
theorem bad_part {B loops deep blocks n w : Nat} {f : Str × Str × Int} {d p : PyData} {pre post : List PyData} (hn : n < 400) (hd : deep ≤ 100) (hb : blocks ≤ 25) (hs : isStm d (loops : Int) = true) (e : partsD d = pre ++ p :: post)
    (wt : Nat → Nat) (hp : ∀ i q, pre[i]? = some q → OkS (loops + wl d) (deep + 1) (blocks + (if kindD d = "final" ∧ i = 1 then 1 else 0)) (wt i) q) (hw : ((List.range pre.length).map wt).sum = w) (hnw : n + 1 + w ≤ 400) (hq : B + post.length ≤ 20000)
    (h : BadS (B + post.length) (loops + wl d) (deep + 1) (blocks + (if kindD d = "final" ∧ pre.length = 1 then 1 else 0)) (n + 1 + w) f p) : BadS B loops deep blocks n f d := by
  intro st par hst
  have el : newIts ⟨d, par, deep, loops, blocks⟩ n = (pre.mapIdx fun i q => newIt ⟨d, par, deep, loops, blocks⟩ n i q) ++ newIt ⟨d, par, deep, loops, blocks⟩ n pre.length p :: (post.mapIdx fun i q => newIt ⟨d, par, deep, loops, blocks⟩ n (pre.length + 1 + i) q) := by
    unfold newIts
    rw [show (WIt.mk d par deep loops blocks).d = d from rfl, e, List.mapIdx_append, List.mapIdx_cons]
    congr 2
    · rw [Nat.zero_add]
    · congr 1
      funext i q
      rw [show i + 1 + pre.length = pre.length + 1 + i by omega]
  have op : OkL (pre.mapIdx fun i q => newIt ⟨d, par, deep, loops, blocks⟩ n i q) w := by
    have z := okL_parts (it := ⟨d, par, deep, loops, blocks⟩) (n := n) pre 0 wt fun i q hq => by
      rw [Nat.zero_add]
      exact hp i q hq
    rw [hw] at z
    have e2 : (pre.mapIdx fun i p => newIt ⟨d, par, deep, loops, blocks⟩ n (0 + i) p) = pre.mapIdx fun i q => newIt ⟨d, par, deep, loops, blocks⟩ n i q := by
      congr 1
      funext i p
      rw [Nat.zero_add]
    rw [e2] at z
    exact z
  have lo := okL_len op
  rw [List.length_mapIdx] at lo
  refine fail_step ⟨hn, hd, hb, hs⟩ ?_ ?_
  · rw [el]
    simp only [List.length_append, List.length_mapIdx, List.length_cons]
    omega
  · rw [el, List.append_assoc, List.cons_append]
    refine fail_pass w _ _ (n + 1) f op hnw ?_ (h _ _ ?_)
    · simp only [List.length_append, List.length_mapIdx, List.length_cons]
      omega
    · simp only [List.length_append, List.length_mapIdx]
      omega
theorem fails_of {f : Str × Str × Int} {d : PyData} (h : BadS 0 0 1 0 0 f d) : ∃ N, Fails N [⟨d, none, 1, 0, 0⟩] [] f := h [] none (by simp) [] rfl

end Fc

set_option maxRecDepth 100000
set_option maxHeartbeats 4000000
namespace Fc
open PySem PySem.Spec PyProof.Rows L2 FcR
open Evl (Ex)
/-! ### statements around statements (k04) -/
inductive GS : PyData → Prop
  | mk {e : PyData} (can : PyData.canLay0 e = true) (sz : szD e) (ps : ∀ x ∈ partsD e, GS x) (ns : ∀ x, e = .str x → x.length ≤ 100000) : GS e
theorem gs_parts {e : PyData} (h : GS e) : PyData.canLay0 e = true ∧ szD e ∧ ∀ x ∈ partsD e, GS x := by
  cases h with
  | mk a b c _ => exact ⟨a, b, c⟩
def W1 (e : PyData) : List PyData := [.tuple [.str "seq", .tuple [e]], .tuple [.str "while", .str "w", e], .tuple [.str "try", e, .tuple [.str "do", .str "h"]], .tuple [.str "final", e, .tuple [.str "do", .str "f"]], .tuple [.str "if", .str "i", e, .tuple [.str "raise"]]]
inductive Wr (d : PyData) : Nat → PyData → Prop
  | zero : Wr d 0 d
  | succ {k : Nat} {e e' : PyData} (h : Wr d k e) (m : e' ∈ W1 e) : Wr d (k + 1) e'
def blkD (d : PyData) : Nat → PyData
  | 0 => d
  | k + 1 => .tuple [.str "final", .tuple [.str "call", .str "x"], blkD d k]
def Fine (k b lo hi : Nat) (d : PyData) : Prop := ∀ loops deep blocks, deep + k ≤ 101 → blocks + b ≤ 25 → ∃ w, lo ≤ w ∧ w ≤ hi ∧ OkS loops deep blocks w d
theorem okS_one {loops deep blocks wa : Nat} {d a : PyData} (e : partsD d = [a]) (hs : isStm d (loops : Int) = true) (ha : OkS (loops + wl d) (deep + 1) blocks wa a) (hd : deep ≤ 100) (hk : blocks ≤ 25) : OkS loops deep blocks (1 + wa) d := by
  have z := OkS.mk (loops := loops) (deep := deep) (blocks := blocks) (d := d) (fun _ => wa) hs hd hk fun i p hp => by
    rw [e] at hp
    match i, hp with
    | 0, hp => cases hp; simpa using ha
  rw [e] at z
  simpa using z
theorem okS_two {loops deep blocks wa wb : Nat} {d a b : PyData} (e : partsD d = [a, b]) (hs : isStm d (loops : Int) = true) (ha : OkS (loops + wl d) (deep + 1) blocks wa a) (hb : OkS (loops + wl d) (deep + 1) (blocks + (if kindD d = "final" then 1 else 0)) wb b) (hd : deep ≤ 100) (hk : blocks ≤ 25) : OkS loops deep blocks (1 + (wa + wb)) d := by
  have z := OkS.mk (loops := loops) (deep := deep) (blocks := blocks) (d := d) (fun i => if i = 0 then wa else wb) hs hd hk fun i p hp => by
    rw [e] at hp
    match i, hp with
    | 0, hp => cases hp; simpa using ha
    | 1, hp => cases hp; simpa using hb
  rw [e] at z
  simpa [List.range_succ] using z
theorem okS_lf {loops deep blocks : Nat} {d : PyData} (e : partsD d = []) (hs : isStm d (loops : Int) = true) (hd : deep ≤ 100) (hk : blocks ≤ 25) : OkS loops deep blocks 1 d := by
  have z := OkS.mk (loops := loops) (deep := deep) (blocks := blocks) (d := d) (fun _ => 0) hs hd hk fun i p hp => by
    rw [e] at hp
    simp at hp
  rw [e] at z
  simpa using z
theorem fine_leaf {d : PyData} (e : partsD d = []) (hs : ∀ loops : Nat, isStm d (loops : Int) = true) : Fine 1 0 1 1 d := fun loops deep blocks h1 h2 => ⟨1, by omega, by omega, okS_lf e (hs loops) (by omega) (by omega)⟩
theorem fine_w1 {k b lo hi : Nat} {d e : PyData} (h : Fine k b lo hi d) (hk : 0 < k) (hb : 0 < b) (m : e ∈ W1 d) : Fine (k + 1) b (lo + 1) (hi + 2) e := by
  intro loops deep blocks h1 h2
  have lf : ∀ (x : PyData) (blocks' : Nat), partsD x = [] → isStm x (loops : Int) = true → blocks' ≤ 25 → OkS loops (deep + 1) blocks' 1 x := fun x b' e1 e2 e3 => okS_lf e1 e2 (by omega) (by omega)
  have le1 : ∀ (p : Prop) [Decidable p], blocks + (if p then 1 else 0) ≤ 25 := fun p _ => by split <;> omega
  simp only [W1, List.mem_cons, List.not_mem_nil, or_false] at m
  rcases m with rfl | rfl | rfl | rfl | rfl
  · obtain ⟨w, l1, l2, ok⟩ := h loops (deep + 1) blocks (by omega) h2
    exact ⟨_, by omega, by omega, okS_one rfl rfl ok (by omega) (by omega)⟩
  · obtain ⟨w, l1, l2, ok⟩ := h (loops + 1) (deep + 1) blocks (by omega) h2
    exact ⟨_, by omega, by omega, okS_one rfl (show nameOk "w" = true by decide +kernel) ok (by omega) (by omega)⟩
  · obtain ⟨w, l1, l2, ok⟩ := h loops (deep + 1) blocks (by omega) h2
    exact ⟨_, by omega, by omega, okS_two rfl rfl ok (lf _ _ rfl (show nameOk "h" = true by decide +kernel) (le1 _)) (by omega) (by omega)⟩
  · obtain ⟨w, l1, l2, ok⟩ := h loops (deep + 1) blocks (by omega) h2
    exact ⟨_, by omega, by omega, okS_two rfl rfl ok (lf _ _ rfl (show nameOk "f" = true by decide +kernel) (le1 _)) (by omega) (by omega)⟩
  · obtain ⟨w, l1, l2, ok⟩ := h loops (deep + 1) blocks (by omega) h2
    exact ⟨_, by omega, by omega, okS_two rfl (show nameOk "i" = true by decide +kernel) ok (lf _ _ rfl rfl (le1 _)) (by omega) (by omega)⟩
theorem Fine.mono {k b lo hi b' : Nat} {d : PyData} (h : Fine k b lo hi d) (e : b ≤ b') : Fine k b' lo hi d := fun l d' bl h1 h2 => h l d' bl h1 (by omega)
theorem fine_wr {k b lo hi : Nat} {d : PyData} (h : Fine k b lo hi d) (hk : 0 < k) (hb : 0 < b) {m : Nat} {e : PyData} (w : Wr d m e) : Fine (k + m) b (lo + m) (hi + 2 * m) e := by
  induction w with
  | zero => exact h
  | succ w' me ih => exact fine_w1 ih (Nat.lt_of_lt_of_le hk (Nat.le_add_right ..)) hb me
theorem fine_blk {k b lo hi : Nat} {d : PyData} (h : Fine k b lo hi d) (hk : 0 < k) : ∀ m : Nat, Fine (k + m) (b + m) (lo + 2 * m) (hi + 2 * m) (blkD d m)
  | 0 => h
  | m + 1 => fun loops deep blocks h1 h2 => by
    obtain ⟨w, l1, l2, ok⟩ := fine_blk h hk m loops (deep + 1) (blocks + 1) (by omega) (by omega)
    refine ⟨_, ?_, ?_, okS_two (d := blkD d (m + 1)) rfl rfl (okS_lf (d := .tuple [.str "call", .str "x"]) rfl (show nameOk "x" = true by decide +kernel) (by omega) (by omega)) ok (by omega) (by omega)⟩ <;> omega
/-! .. and what is refused -/
theorem BadS.mono {B B' loops deep blocks n : Nat} {f : Str × Str × Int} {d : PyData} (h : BadS B loops deep blocks n f d) (e : B' ≤ B) : BadS B' loops deep blocks n f d := fun st par hs => h st par (by omega)
theorem bad_head {B loops deep blocks n : Nat} {f : Str × Str × Int} {d p : PyData} {post : List PyData} (hn : n < 400) (hd : deep ≤ 100) (hb : blocks ≤ 25) (hs : isStm d (loops : Int) = true) (e : partsD d = p :: post) (hq : B + post.length ≤ 20000)
    (h : BadS (B + post.length) (loops + wl d) (deep + 1) blocks (n + 1) f p) : BadS B loops deep blocks n f d := by
  refine bad_part (pre := []) (w := 0) hn hd hb hs e (fun _ => 0) (fun i q z => by simp at z) rfl (by omega) hq ?_
  rw [if_neg (by simp)]
  exact h
theorem bad_w1 {B deep blocks n : Nat} {f : Str × Str × Int} {d e : PyData} (hn : n < 400) (hd : deep ≤ 100) (hb : blocks ≤ 25) (hB : B ≤ 10000) (h : ∀ loops, BadS (B + 1) loops (deep + 1) blocks (n + 1) f d) (m : e ∈ W1 d) (loops : Nat) : BadS B loops deep blocks n f e := by
  simp only [W1, List.mem_cons, List.not_mem_nil, or_false] at m
  rcases m with rfl | rfl | rfl | rfl | rfl
  · exact bad_head (post := []) hn hd hb rfl rfl (by simp; omega) ((h _).mono (by simp))
  · exact bad_head (post := []) hn hd hb (show nameOk "w" = true by decide +kernel) rfl (by simp; omega) ((h _).mono (by simp))
  · exact bad_head (post := [_]) hn hd hb rfl rfl (by simp; omega) (h _)
  · exact bad_head (post := [_]) hn hd hb rfl rfl (by simp; omega) (h _)
  · exact bad_head (post := [_]) hn hd hb (show nameOk "i" = true by decide +kernel) rfl (by simp; omega) (h _)
theorem bad_wr {deep blocks n m B : Nat} {f : Str × Str × Int} {d e : PyData} (w : Wr d m e) (hn : n + m ≤ 400) (hd : deep + m ≤ 101) (hb : blocks ≤ 25) (hB : B + m ≤ 10000) (h : ∀ loops, BadS (B + m) loops (deep + m) blocks (n + m) f d) : ∀ loops, BadS B loops deep blocks n f e := by
  induction w generalizing B deep n with
  | zero => exact h
  | @succ k e1 e2 w' me ih =>
    intro loops
    refine bad_w1 (by omega) (by omega) hb (by omega) (ih (by omega) (by omega) (by omega) fun l => ?_) me loops
    have z := h l
    rw [show B + 1 + k = B + (k + 1) by omega, show deep + 1 + k = deep + (k + 1) by omega, show n + 1 + k = n + (k + 1) by omega]
    exact z
theorem bad_blk {B deep blocks n m : Nat} {f : Str × Str × Int} {d : PyData} (hn : n + 2 * m ≤ 400) (hd : deep + m ≤ 100) (hb : blocks + m ≤ 26) (hB : B ≤ 10000) (h : ∀ loops, BadS B loops (deep + m) (blocks + m) (n + 2 * m) f d) : ∀ loops, BadS B loops deep blocks n f (blkD d m) := by
  induction m generalizing deep blocks n with
  | zero => exact h
  | succ k ih =>
    intro loops
    refine bad_part (d := blkD d (k + 1)) (pre := [.tuple [.str "call", .str "x"]]) (p := blkD d k) (post := []) (w := 1) (by omega) (by omega) (by omega) rfl rfl (fun _ => 1) (fun i q z => ?_) rfl (by omega) (by simp; omega) ?_
    · match i, z with
      | 0, z =>
        cases z
        exact okS_lf rfl (show nameOk "x" = true by decide +kernel) (by omega) (by simp; omega)
    · have z := ih (deep := deep + 1) (blocks := blocks + 1) (n := n + 2) (by omega) (by omega) (by omega) (fun l => by
        have y := h l
        rw [show deep + 1 + k = deep + (k + 1) by omega, show blocks + 1 + k = blocks + (k + 1) by omega, show n + 2 + 2 * k = n + 2 * (k + 1) by omega]
        exact y) (loops + 0)
      exact z
theorem blk_add (d : PyData) (a : Nat) : ∀ b, blkD (blkD d a) b = blkD d (b + a)
  | 0 => by rw [Nat.zero_add] <;> rfl
  | b + 1 => by
    rw [show b + 1 + a = (b + a) + 1 by omega]
    show PyData.tuple [.str "final", .tuple [.str "call", .str "x"], blkD (blkD d a) b] = PyData.tuple [.str "final", .tuple [.str "call", .str "x"], blkD d (b + a)]
    rw [blk_add d a b]

end Fc

set_option maxRecDepth 100000
set_option maxHeartbeats 4000000
namespace Fc
open PySem PySem.Spec PyProof.Rows L2 FcR
open Evl (Ex)
/-! ### drawn statements of the second family -/
def SB (room deep loops blocks : Nat) (d : PyData) : Prop := GS d ∧ d.depth ≤ 2 * deep ∧ ∃ w, 1 ≤ w ∧ w ≤ room ∧ ∀ dd, dd + deep ≤ 101 → OkS loops dd blocks w d
theorem SB.up {r k r' k' l b : Nat} {d : PyData} (h : SB r k l b d) (hr : r ≤ r') (hk : k ≤ k') : SB r' k' l b d := by
  obtain ⟨g, e, w, w1, w2, o⟩ := h
  exact ⟨g, by omega, w, w1, by omega, fun dd hd => o dd (by omega)⟩
theorem SB.can {r k l b : Nat} {d : PyData} (h : SB r k l b d) : PyData.canLay0 d = true := (gs_parts h.1).1
theorem sb_leaf {r k l b : Nat} {d : PyData} (hr : 1 ≤ r) (hk : 1 ≤ k) (hb : b ≤ 25) (st : isStm d (l : Int) = true) (e : partsD d = []) (cl : PyData.canLay0 d = true) (sz : szD d) (ns : ∀ x, d = .str x → x.length ≤ 100000) (dp : d.depth ≤ 2) : SB r k l b d :=
  ⟨.mk cl sz (fun x hx => by rw [e] at hx; cases hx) ns, by omega, 1, Nat.le_refl _, hr, fun dd hd => okS_lf e st (by omega) hb⟩
theorem nm_okB : ∀ x ∈ nmB, nameOk x = true ∧ PyData.canLay0 (.str x) = true ∧ x.length ≤ 100000 := by decide +kernel
theorem sb_do {r k l b : Nat} {q x : Str} (hr : 1 ≤ r) (hk : 1 ≤ k) (hb : b ≤ 25) (hq : q = "do" ∨ q = "call") (hx : x ∈ nmB) : SB r k l b (.tuple [.str q, .str x]) := by
  obtain ⟨h1, h2, h3⟩ := nm_okB x hx
  rcases hq with rfl | rfl
  · refine sb_leaf hr hk hb (show nameOk x = true from h1) rfl ?_ (fun k y r e => by cases e; exact h3) (fun x e => by cases e) (by simp [PyData.depth, PyData.depthAll])
    show (PyData.canLay0 (.str "do") && (PyData.canLay0 (.str x) && true)) = true
    rw [h2]
    kernel_rfl
  · refine sb_leaf hr hk hb (show nameOk x = true from h1) rfl ?_ (fun k y r e => by cases e; exact h3) (fun x e => by cases e) (by simp [PyData.depth, PyData.depthAll])
    show (PyData.canLay0 (.str "call") && (PyData.canLay0 (.str x) && true)) = true
    rw [h2]
    kernel_rfl
theorem sb_jmp {r k l b : Nat} {q : Str} {n : Int} (hr : 1 ≤ r) (hk : 1 ≤ k) (hb : b ≤ 25) (hq : q = "break" ∨ q = "continue") (h1 : 1 ≤ n) (h2 : n ≤ l) : SB r k l b (.tuple [.str q, .int n]) := by
  rcases hq with rfl | rfl
  · refine sb_leaf hr hk hb ?_ rfl (by kernel_rfl) (fun k y r e => by cases e) (fun x e => by cases e) (by simp [PyData.depth, PyData.depthAll])
    show (decide (1 ≤ n) && decide (n ≤ (l : Int))) = true
    rw [decide_eq_true h1, decide_eq_true h2] <;> rfl
  · refine sb_leaf hr hk hb ?_ rfl (by kernel_rfl) (fun k y r e => by cases e) (fun x e => by cases e) (by simp [PyData.depth, PyData.depthAll])
    show (decide (1 ≤ n) && decide (n ≤ (l : Int))) = true
    rw [decide_eq_true h1, decide_eq_true h2] <;> rfl
theorem sb_ret {r k l b : Nat} {q : Str} (hr : 1 ≤ r) (hk : 1 ≤ k) (hb : b ≤ 25) (hq : q = "return" ∨ q = "raise") : SB r k l b (.tuple [.str q]) := by
  rcases hq with rfl | rfl <;> exact sb_leaf hr hk hb rfl rfl (by kernel_rfl) (fun k y r e => by cases e) (fun x e => by cases e) (by simp [PyData.depth, PyData.depthAll])
theorem sb_whl {r k l b : Nat} {x : Str} {a : PyData} (hx : x ∈ nmB) (hb : b ≤ 25) (h : SB r k (l + 1) b a) : SB (r + 1) (k + 1) l b (.tuple [.str "while", .str x, a]) := by
  obtain ⟨h1, h2, h3⟩ := nm_okB x hx
  have ca := h.can
  obtain ⟨g, e, w, w1, w2, o⟩ := h
  refine ⟨.mk ?_ (fun k y r e => by cases e; exact h3) (fun z hz => ?_) (fun x e => by cases e), ?_, 1 + w, by omega, by omega, fun dd hd => ?_⟩
  · show (PyData.canLay0 (.str "while") && (PyData.canLay0 (.str x) && (PyData.canLay0 a && true))) = true
    rw [h2, ca]
    kernel_rfl
  · have hz : z ∈ [a] := hz
    rw [List.mem_singleton.mp hz]
    exact g
  · simp only [PyData.depth, PyData.depthAll]
    omega
  · exact okS_one (a := a) rfl (show nameOk x = true from h1) (o (dd + 1) (by omega)) (by omega) hb
theorem sb_two {r r' k l b : Nat} {d a c : PyData} (e : partsD d = [a, c]) (st : isStm d (l : Int) = true) (w0 : wl d = 0) (cl : PyData.canLay0 a = true → PyData.canLay0 c = true → PyData.canLay0 d = true) (sz : szD d) (ns : ∀ x, d = .str x → x.length ≤ 100000) (dp : d.depth ≤ 2 + max a.depth c.depth) (hb : b ≤ 25) (ha : SB r k l b a) (hc : SB r' k l (b + (if kindD d = "final" then 1 else 0)) c) : SB (r + r' + 1) (k + 1) l b d := by
  have ca := ha.can
  have cc := hc.can
  obtain ⟨g, e1, w, w1, w2, o⟩ := ha
  obtain ⟨g', e1', w', w1', w2', o'⟩ := hc
  refine ⟨.mk (cl ca cc) sz (fun z hz => ?_) ns, by omega, 1 + (w + w'), by omega, by omega, fun dd hd => ?_⟩
  · rw [e] at hz
    simp only [List.mem_cons, List.not_mem_nil, or_false] at hz
    rcases hz with rfl | rfl
    · exact g
    · exact g'
  · exact okS_two e st (by rw [w0]; exact o (dd + 1) (by omega)) (by rw [w0]; exact o' (dd + 1) (by omega)) (by omega) hb
theorem sb_if {r r' k l b : Nat} {x : Str} {a c : PyData} (hx : x ∈ nmB) (hb : b ≤ 25) (ha : SB r k l b a) (hc : SB r' k l b c) : SB (r + r' + 1) (k + 1) l b (.tuple [.str "if", .str x, a, c]) := by
  obtain ⟨h1, h2, h3⟩ := nm_okB x hx
  refine sb_two rfl (show nameOk x = true from h1) rfl (fun ca cc => ?_) (fun k y r e => by cases e; exact h3) (fun x e => by cases e) ?_ hb ha hc
  · show (PyData.canLay0 (.str "if") && (PyData.canLay0 (.str x) && (PyData.canLay0 a && (PyData.canLay0 c && true)))) = true
    rw [h2, ca, cc]
    kernel_rfl
  · simp only [PyData.depth, PyData.depthAll]
    omega
theorem sb_try {r r' k l b : Nat} {a c : PyData} (hb : b ≤ 25) (ha : SB r k l b a) (hc : SB r' k l b c) : SB (r + r' + 1) (k + 1) l b (.tuple [.str "try", a, c]) := by
  refine sb_two rfl rfl rfl (fun ca cc => ?_) (fun k y r e => ?_) (fun x e => by cases e) ?_ hb ha hc
  · show (PyData.canLay0 (.str "try") && (PyData.canLay0 a && (PyData.canLay0 c && true))) = true
    rw [ca, cc]
    kernel_rfl
  · injection e with e
    injection e with e1 e2
    injection e2 with e2 e3
    obtain ⟨g, _⟩ := ha
    cases g with
    | mk _ _ _ ns => exact ns _ e2
  · simp only [PyData.depth, PyData.depthAll]
    omega
theorem sb_fin {r r' k l b : Nat} {a c : PyData} (hb : b ≤ 24) (ha : SB r k l b a) (hc : SB r' k l (b + 1) c) : SB (r + r' + 1) (k + 1) l b (.tuple [.str "final", a, c]) := by
  refine sb_two rfl rfl rfl (fun ca cc => ?_) (fun k y r e => ?_) (fun x e => by cases e) ?_ (by omega) ha hc
  · show (PyData.canLay0 (.str "final") && (PyData.canLay0 a && (PyData.canLay0 c && true))) = true
    rw [ca, cc]
    kernel_rfl
  · injection e with e
    injection e with e1 e2
    injection e2 with e2 e3
    obtain ⟨g, _⟩ := ha
    cases g with
    | mk _ _ _ ns => exact ns _ e2
  · simp only [PyData.depth, PyData.depthAll]
    omega
/-- parts of a seq with their rooms -/
inductive SBs (k l b : Nat) : Nat → List PyData → Prop
  | nil : SBs k l b 0 []
  | snoc {r s : Nat} {ds : List PyData} {d : PyData} (h : SBs k l b r ds) (hd : SB s k l b d) : SBs k l b (r + s) (ds ++ [d])
theorem SBs.all {k l b r : Nat} {ds : List PyData} (h : SBs k l b r ds) : (∀ d ∈ ds, GS d ∧ d.depth ≤ 2 * k) ∧ ∃ ws : List Nat, ws.length = ds.length ∧ ws.sum ≤ r ∧ ∀ (i : Nat) (p : PyData) (w : Nat), ds[i]? = some p → ws[i]? = some w → ∀ dd, dd + k ≤ 101 → OkS l dd b w p := by
  induction h with
  | nil => exact ⟨fun d hd => (by cases hd), [], rfl, Nat.le_refl _, fun i p w h => (by simp at h)⟩
  | snoc h hd ih =>
    obtain ⟨i1, ws, i2, i3, i4⟩ := ih
    obtain ⟨g, e, w, w1, w2, o⟩ := hd
    refine ⟨fun d hd => ?_, ws ++ [w], by simp [i2], by simp; omega, fun i p w' hp hw dd hdd => ?_⟩
    · rcases List.mem_append.mp hd with hd | hd
      · exact i1 d hd
      · rw [List.mem_singleton.mp hd]; exact ⟨g, e⟩
    · rcases Nat.lt_or_ge i ws.length with hi | hi
      · rw [List.getElem?_append_left (by omega)] at hp
        rw [List.getElem?_append_left hi] at hw
        exact i4 i p w' hp hw dd hdd
      · rw [List.getElem?_append_right (by omega)] at hp
        rw [List.getElem?_append_right hi] at hw
        have : i - ws.length = 0 := by
          have := (List.getElem?_eq_some_iff.mp hw).1
          simp at this
          omega
        rw [this] at hw
        rw [← i2, this] at hp
        cases hp
        cases hw
        exact o dd hdd
theorem okS_listB {loops deep blocks : Nat} {d : PyData} (ws : List Nat) (st : isStm d (loops : Int) = true) (hd : deep ≤ 100) (hk : blocks ≤ 25) (hl : ws.length = (partsD d).length) (ps : ∀ (i : Nat) (p : PyData) (w : Nat), (partsD d)[i]? = some p → ws[i]? = some w → OkS (loops + wl d) (deep + 1) (blocks + (if kindD d = "final" ∧ i = 1 then 1 else 0)) w p) : OkS loops deep blocks (1 + ws.sum) d := by
  have z := OkS.mk (loops := loops) (deep := deep) (blocks := blocks) (d := d) (fun i => ws.getD i 0) st hd hk fun i p hp => by
    have hi : i < ws.length := by rw [hl]; exact (List.getElem?_eq_some_iff.mp hp).1
    refine ps i p _ hp ?_
    rw [List.getD_eq_getElem?_getD, List.getElem?_eq_getElem hi] <;> rfl
  have e : ((List.range (partsD d).length).map fun i => ws.getD i 0) = ws := by
    apply List.ext_getElem?
    intro i
    rw [List.getElem?_map, ← hl]
    rcases Nat.lt_or_ge i ws.length with hi | hi
    · rw [List.getElem?_range hi, List.getElem?_eq_getElem hi]
      simp [List.getD_eq_getElem?_getD, List.getElem?_eq_getElem hi]
    · rw [List.getElem?_eq_none hi, List.getElem?_eq_none (by simpa using hi)] <;> rfl
  rw [e] at z
  exact z
theorem sb_seq {k l b r : Nat} {ds : List PyData} (hb : b ≤ 25) (hn : ds ≠ []) (h4 : ds.length ≤ 401) (h : SBs k l b r ds) : SB (r + 1) (k + 1) l b (.tuple [.str "seq", .tuple ds]) := by
  obtain ⟨i1, ws, i2, i3, i4⟩ := h.all
  have hp : partsD (.tuple [.str "seq", .tuple ds]) = ds := List.take_of_length_le (by omega)
  have st : isStm (.tuple [.str "seq", .tuple ds]) (l : Int) = true := by
    cases ds with
    | nil => exact absurd rfl hn
    | cons a b => rfl
  refine ⟨.mk ?_ (fun k x r e => by cases e) (fun z hz => ?_) (fun x e => by cases e), ?_, 1 + ws.sum, by omega, by omega, fun dd hd => ?_⟩
  · show (PyData.canLay0 (.str "seq") && (PyData.canLayAll0 ds && true)) = true
    rw [canAll fun d hd => (gs_parts (i1 d hd).1).1]
    kernel_rfl
  · rw [hp] at hz
    exact (i1 z hz).1
  · have : ∀ l : List PyData, (∀ d ∈ l, d.depth ≤ 2 * k) → PyData.depthAll l ≤ 2 * k := fun l => by
      induction l with
      | nil => exact fun _ => Nat.zero_le _
      | cons a l ih =>
        intro h
        have h1 := h a List.mem_cons_self
        have h2 := ih fun d hd => h d (List.mem_cons_of_mem _ hd)
        simp only [PyData.depthAll]
        omega
    have := this ds fun d hd => (i1 d hd).2
    simp only [PyData.depth, PyData.depthAll]
    omega
  · refine okS_listB ws st (by omega) hb (by rw [hp]; exact i2) fun i p w h1 h2 => ?_
    rw [hp] at h1
    have := i4 i p w h1 h2 (dd + 1) (by omega)
    exact this

end Fc

set_option maxRecDepth 100000
set_option maxHeartbeats 4000000
namespace Fc
open PySem PySem.Spec PyProof.Rows L2 FcR
open Evl (Ex)
def sp_leafB (K : PySem.W.Frag) : Sp := fun vs H Q _ => ∃ (F : Hp) (p : Addr) (n loops : Nat), vs = [.ref p, .int (loops : Int)] ∧ Ex F H ∧ F p = none ∧ SrcB H p n ∧ n ≤ 900000000 ∧ loops < 1000 ∧
  ∀ (F' H' : Hp) (v : V) (d : PyData), Gr (fun b => b = p) F H F' H' → F' p = none → SrcB H' p (n + 2) → Dp K F' v d → (∀ r k b, 1 ≤ r → 1 ≤ k → b ≤ 25 → SB r k loops b d) → Q v H'
section
variable {P : Program} {w : World} {h : Heap} {K : PySem.W.Frag} {mg : Str → Option Value} {base : Heap}
abbrev N_law_leaf : List Str := ["_law_source_here", "_law_loops", "_law_way"]
theorem sc_law_leaf : FnScope N_law_leaf ["_law_source_here", "_law_loops"] (defScope sd_law_leaf) := ⟨rfl, rfl, rfl, by decide +kernel, rfl, by decide +kernel, by decide +kernel⟩
theorem ok_law_leaf (T : Tx w h K mg) : Ok P w K mg base 4 ("_law_leaf", none) ["_law_source_here", "_law_loops"] (sp_leafB K) := by
  obtain ⟨fd, F⟩ := F_law_leaf T
  refine ⟨fd, ?_, F.bindsN (fun _ _ _ _ _ _ us hl => match us, hl with | [_, _], _ => rfl), F.kp⟩
  obtain ⟨fd_law_draw, G_law_draw, bi_law_draw, kp_law_draw⟩ := ok_law_draw (P := P) (base := base) T
  obtain ⟨fd_law_name, G_law_name, bi_law_name, kp_law_name⟩ := ok_law_name (P := P) (base := base) T
  refine F.ok sc_law_leaf (fun vs H Q E h => ?_) (fun cdv A outer s H vs Q E hr h => ?_)
  · obtain ⟨F, p, n, loops, rfl, xF, fp, hp, hn, hlp, q⟩ := h
    rfl
  · obtain ⟨F, p, n, loops, rfl, xF, fp, hp, hn, hlp, q⟩ := h
    refine ⟨_, PSs.nox (pss_cons (ps_set (i := 2) sc_law_leaf.nd rfl (Or.inl rfl) (pe_call G_law_draw (hr.mono (by decide)) rfl (g_law_draw T) kp_law_draw bi_law_draw .nil passF (pa_cons (pv 0) (pa_cons pe_int pa_nil)))) (pss_cons (ps_if (pt_cmpR op_gt (pv 2) pe_int (nomark _)) (pss_one (ps_ret (pe_ix ix_list (pe_lst (pa_cons (pe_tup (pa_cons pe_str pa_nil)) (pa_cons (pe_tup (pa_cons pe_str pa_nil)) (pa_cons (pe_tup (pa_cons pe_str pa_nil)) pa_nil)))) (pe_op op_sub (pv 2) pe_int) (fun _ _ => rfl)))) pss_nil) (pss_cons (ps_if (PW.pt (pw_and (pt_cmpR op_gt (pv 2) pe_int (nomark _)) (pw_and1 (pt_cmpR op_gt (pv 1) pe_int (nomark _))))) (pss_one (ps_ret (pe_tup (pa_cons (pe_ix ix_list (pe_lst (pa_cons pe_str (pa_cons pe_str pa_nil))) (pe_op op_mod (pe_callTy call_int1 rfl (fr_int T) b_int (pa_cons (pv 2) pa_nil)) pe_int) (fun _ _ => rfl)) (pa_cons (pe_op op_add pe_int (pe_call G_law_draw (hr.mono (by decide)) rfl (g_law_draw T) kp_law_draw bi_law_draw .nil passF (pa_cons (pv 0) (pa_cons (pv 1) pa_nil)))) pa_nil))))) pss_nil) (pss_one (ps_ret (pe_tup (pa_cons (pe_ix ix_list (pe_lst (pa_cons pe_str (pa_cons pe_str pa_nil))) (pe_callTy call_int1 rfl (fr_int T) b_int (pa_cons (pe_cmpR op_gt (pv 2) pe_int (nomark _)) pa_nil)) (fun _ _ => rfl)) (pa_cons (pe_call G_law_name (hr.mono (by decide)) rfl (g_law_name T) kp_law_name bi_law_name .nil passF (pa_cons (pv 0) pa_nil)) pa_nil)))))))), ?_⟩
    refine ⟨_, rfl, p, n, 10, rfl, hp, by omega, by decide, by decide, fun v H1 v0 v1 s1 o1 => ?_⟩
    have g1 : Gr (fun b => b = p) F H F H1 := gr_kp xF fp o1
    have fin : ∀ {Hx H5 : Hp} {q5 : Addr} {xs : List V} {ds : List PyData}, Gr (fun b => b = p) F H F Hx → Hx q5 = none → H5 q5 = some (.tup xs) → (∀ b, b ≠ q5 → H5 b = Hx b) → SrcB Hx p (n + 2) → DpAll K (upd F q5 (.tup xs)) xs ds → (∀ r k b, 1 ≤ r → 1 ≤ k → b ≤ 25 → SB r k loops b (.tuple ds)) → Q (.ref q5) H5 := fun {Hx H5 q5 xs ds} g n5 s5 o5 sp da sd => by
      have pq : p ≠ q5 := fun z => by
        obtain ⟨b1, b2, b3, hb, _⟩ := sp
        rw [z, n5] at hb
        cases hb
      exact q (upd F q5 (.tup xs)) H5 _ _ (g.trans (Gr.frz g.fh n5 s5 o5)) (by rw [upd_ne pq]; exact fp) (sp.kp fun o h => by rw [o5 p pq]; exact h) (.tup (Evl.st_of upd_same) da) sd
    refine ⟨_, rfl, _, _, rfl, rfl, _, rfl, ite_of (fun h2 => ?_) (fun h2 => ?_)⟩
    · have h2 := of_decide_eq_true h2
      refine ⟨sz (by simp), ?_⟩
      intro p2 n2
      generalize e2 : upd _ p2 _ = H2
      obtain ⟨x2, s2, o2⟩ := new_of e2 n2
      clear e2
      refine ⟨sz (by simp), ?_⟩
      intro p3 n3
      generalize e3 : upd _ p3 _ = H3
      obtain ⟨x3, s3, o3⟩ := new_of e3 n3
      clear e3
      refine ⟨sz (by simp), ?_⟩
      intro p4 n4
      generalize e4 : upd _ p4 _ = H4
      obtain ⟨x4, s4, o4⟩ := new_of e4 n4
      clear e4
      refine ⟨sz (by simp), ?_⟩
      intro p5 n5
      generalize e5 : upd _ p5 _ = H5
      obtain ⟨x5, s5, o5⟩ := new_of e5 n5
      clear e5
      have x15 : Ex H1 H5 := x2.trans (x3.trans (x4.trans x5))
      have g5 := g1.trans (Gr.new g1.fh x15)
      have hx : ∀ {b : Addr}, H1 b = none → H b = none := fun {b} hb => by
        cases z : H b with
        | none => rfl
        | some o =>
          by_cases e : b = p
          · obtain ⟨_, _, _, hs, _⟩ := s1
            rw [e, hs] at hb
            cases hb
          · rw [o1 b o e z] at hb
            cases hb
      obtain ⟨j, hj, hj3⟩ : ∃ j : Nat, v - 7 = (j : Int) ∧ j < 3 := ⟨(v - 7).toNat, by omega, by omega⟩
      obtain ⟨px, kq, hpx, hpn, hps, hkq⟩ : ∃ (px : Addr) (kq : Str), [V.ref p2, .ref p3, .ref p4][j]? = some (.ref px) ∧ H1 px = none ∧ H5 px = some (.tup [.str kq]) ∧ (kq = "return" ∨ kq = "raise") := by
        have : j = 0 ∨ j = 1 ∨ j = 2 := by omega
        rcases this with rfl | rfl | rfl
        · exact ⟨p2, _, rfl, n2, x5 _ _ (x4 _ _ (x3 _ _ s2)), .inl rfl⟩
        · exact ⟨p3, _, rfl, ex_none x2 n3, x5 _ _ (x4 _ _ s3), .inr rfl⟩
        · exact ⟨p4, _, rfl, ex_none (x2.trans x3) n4, x5 _ _ s4, .inr rfl⟩
      refine ⟨_, rfl, _, _, rfl, rfl, p5, _, (j : Int), .ref px, rfl, congrArg V.int hj, Evl.sq_of s5, atI_nat hpx, ?_⟩
      have pp : p ≠ px := fun z => by obtain ⟨_, _, _, hs, _⟩ := s1; rw [z, hpn] at hs; cases hs
      refine q (upd F px (.tup [.str kq])) H5 _ _ (g5.frzAt (hx hpn) hps (ex_none xF (hx hpn))) (by rw [upd_ne pp]; exact fp) ((s1.kp fun o h => x15 _ _ h).up (by omega)) (.tup (Evl.st_of upd_same) (.cons (.str _) .nil)) fun r k b h1 h2 h3 => sb_ret h1 h2 h3 hkq
    refine ⟨_, rfl, _, _, rfl, rfl, _, rfl, ?_⟩
    by_cases hv2 : 2 < v
    · by_cases hl0 : 0 < loops
      · refine itT (decide_eq_true hv2) ?_
        refine ⟨_, rfl, _, _, rfl, rfl, _, rfl, itT (decide_eq_true (show (0 : Int) < (loops : Int) by omega)) ?_⟩
        refine ⟨sz (by simp), ?_⟩
        intro p2 n2
        generalize e2 : upd _ p2 _ = H2
        obtain ⟨x2, s2, o2⟩ := new_of e2 n2
        clear e2
        obtain ⟨j, hj, hj2⟩ : ∃ j : Nat, v % 2 = (j : Int) ∧ j < 2 := ⟨(v % 2).toNat, by omega, by omega⟩
        obtain ⟨kq, hkq, kk⟩ : ∃ kq : Str, [V.str "break", .str "continue"][j]? = some (.str kq) ∧ (kq = "break" ∨ kq = "continue") := by
          have : j = 0 ∨ j = 1 := by omega
          rcases this with rfl | rfl
          · exact ⟨_, rfl, .inl rfl⟩
          · exact ⟨_, rfl, .inr rfl⟩
        refine ⟨_, rfl, .inl ⟨_, rfl, _, _, rfl, rfl, (show (0 : Int) < 2 by decide), p2, _, (j : Int), .str kq, rfl, congrArg V.int hj, Evl.sq_of s2, atI_nat hkq, ?_⟩⟩
        have pn : p2 ≠ p := fun z => by obtain ⟨_, _, _, h, _⟩ := s1; rw [z, h] at n2; cases n2
        refine ⟨_, rfl, _, rfl, p, n + 1, _, rfl, s1.kp fun o h => x2 _ _ h, by omega, by omega, by omega, fun v' H3 w0 w1 s3 o3 => ?_⟩
        refine ⟨_, _, rfl, rfl, sz (by simp), ?_⟩
        intro p4 n4
        generalize e4 : upd _ p4 _ = H4
        obtain ⟨x4, s4, o4⟩ := new_of e4 n4
        clear e4
        have g2 := g1.trans (Gr.new g1.fh x2)
        have g3 := g2.trans (gr_kp g2.fh fp o3)
        exact fin g3 n4 s4 o4 s3 (.cons (.str _) (.cons (.int _) .nil)) fun r k b h1 h2 h3 => sb_jmp h1 h2 h3 kk (by omega) (by omega)
      · refine itT (decide_eq_true hv2) ?_
        refine ⟨_, rfl, _, _, rfl, rfl, _, rfl, itF (decide_eq_false (show ¬ (0 : Int) < (loops : Int) by omega)) ?_⟩
        refine ⟨sz (by simp), ?_⟩
        intro p2 n2
        generalize e2 : upd _ p2 _ = H2
        obtain ⟨x2, s2, o2⟩ := new_of e2 n2
        clear e2
        obtain ⟨kq, hkq, kk⟩ : ∃ kq : Str, [V.str "do", .str "call"][(if decide (0 < v) = true then 1 else 0 : Nat)]? = some (.str kq) ∧ (kq = "do" ∨ kq = "call") := by
          cases decide (0 < v)
          · exact ⟨_, rfl, .inl rfl⟩
          · exact ⟨_, rfl, .inr rfl⟩
        have hji : (if decide (0 < v) = true then (1 : Int) else 0) = ((if decide (0 < v) = true then 1 else 0 : Nat) : Int) := by cases decide (0 < v) <;> rfl
        refine ⟨_, rfl, _, _, rfl, rfl, .inr ⟨_, rfl, p2, _, _, .str kq, rfl, congrArg V.int hji, Evl.sq_of s2, atI_nat hkq, ?_⟩⟩
        refine ⟨_, rfl, p, n + 1, rfl, s1.kp fun o h => x2 _ _ h, by omega, fun H3 nm hm s3 o3 => ?_⟩
        refine ⟨sz (by simp), ?_⟩
        intro p4 n4
        generalize e4 : upd _ p4 _ = H4
        obtain ⟨x4, s4, o4⟩ := new_of e4 n4
        clear e4
        have g2 := g1.trans (Gr.new g1.fh x2)
        have g3 := g2.trans (gr_kp g2.fh fp o3)
        exact fin g3 n4 s4 o4 s3 (.cons (.str _) (.cons (.str _) .nil)) fun r k b h1 h2 h3 => sb_do h1 h2 h3 kk hm
    · refine itF (decide_eq_false hv2) ?_
      refine ⟨sz (by simp), ?_⟩
      intro p2 n2
      generalize e2 : upd _ p2 _ = H2
      obtain ⟨x2, s2, o2⟩ := new_of e2 n2
      clear e2
      obtain ⟨kq, hkq, kk⟩ : ∃ kq : Str, [V.str "do", .str "call"][(if decide (0 < v) = true then 1 else 0 : Nat)]? = some (.str kq) ∧ (kq = "do" ∨ kq = "call") := by
        cases decide (0 < v)
        · exact ⟨_, rfl, .inl rfl⟩
        · exact ⟨_, rfl, .inr rfl⟩
      have hji : (if decide (0 < v) = true then (1 : Int) else 0) = ((if decide (0 < v) = true then 1 else 0 : Nat) : Int) := by cases decide (0 < v) <;> rfl
      refine ⟨_, rfl, _, _, rfl, rfl, .inr ⟨_, rfl, p2, _, _, .str kq, rfl, congrArg V.int hji, Evl.sq_of s2, atI_nat hkq, ?_⟩⟩
      refine ⟨_, rfl, p, n + 1, rfl, s1.kp fun o h => x2 _ _ h, by omega, fun H3 nm hm s3 o3 => ?_⟩
      refine ⟨sz (by simp), ?_⟩
      intro p4 n4
      generalize e4 : upd _ p4 _ = H4
      obtain ⟨x4, s4, o4⟩ := new_of e4 n4
      clear e4
      have g2 := g1.trans (Gr.new g1.fh x2)
      have g3 := g2.trans (gr_kp g2.fh fp o3)
      exact fin g3 n4 s4 o4 s3 (.cons (.str _) (.cons (.str _) .nil)) fun r k b h1 h2 h3 => sb_do h1 h2 h3 kk hm
end

end Fc

set_option maxRecDepth 100000
set_option maxHeartbeats 4000000
namespace Fc
open PySem PySem.Spec PyProof.Rows L2 FcR
open Evl (Ex)
theorem sbs_nil {k l b r : Nat} {ds : List PyData} (h : SBs k l b r ds) : ds = [] → r = 0 := by
  cases h with
  | nil => exact fun _ => rfl
  | snoc => intro e; simp at e
def sp_stmB (K : PySem.W.Frag) (n : Nat) : Sp := fun vs H Q _ => ∃ (F : Hp) (p : Addr) (m room deep loops blocks : Nat), vs = [.ref p, .int (room : Int), .int (deep : Int), .int (loops : Int), .int (blocks : Int)] ∧ deep ≤ n ∧ 1 ≤ room ∧ 1 ≤ deep ∧ room ≤ 400 ∧ loops + deep ≤ 900 ∧ blocks ≤ 25 ∧ Ex F H ∧ F p = none ∧ SrcB H p m ∧ m + 8 * room ≤ 900000000 ∧
  ∀ (F' H' : Hp) (v : V) (d : PyData), Gr (fun b => b = p) F H F' H' → F' p = none → SrcB H' p (m + 8 * room) → Dp K F' v d → SB room deep loops blocks d → Q v H'
section
variable {P : Program} {w : World} {h : Heap} {K : PySem.W.Frag} {mg : Str → Option Value} {base : Heap}
theorem st_preB (n : Nat) (IH : ∀ m, m < n → Ok P w K mg base (m + 5) ("_law_statement", none) ["_law_source_here", "_law_room", "_law_deep", "_law_loops", "_law_blocks"] (sp_stmB K m)) (T : Tx w h K mg) :
    Ok P w K mg base (n + 4) ("_law_statement", none) ["_law_source_here", "_law_room", "_law_deep", "_law_loops", "_law_blocks"] (fun vs H Q E => ∃ m, m < n ∧ sp_stmB K m vs H Q E) := by
  cases n with
  | zero =>
    obtain ⟨fd, F⟩ := F_law_statement T
    refine ⟨fd, ⟨fun vs H Q E h => ?_, fun A outer s H args us vs Q E _ _ _ _ h => ?_⟩, F.bindsN (fun _ _ _ _ _ _ us hl => match us, hl with | [_, _, _, _, _], _ => rfl), F.kp⟩
    · obtain ⟨m, h, _⟩ := h
      exact absurd h (Nat.not_lt_zero _)
    · obtain ⟨m, h, _⟩ := h
      exact absurd h (Nat.not_lt_zero _)
  | succ n =>
    obtain ⟨fd, G, b, kp⟩ := IH n (Nat.lt_succ_self _)
    refine ⟨fd, G.imp fun vs H Q E h => ?_, b, kp⟩
    obtain ⟨m, hm, F, p, m0, room, deep, loops, blocks, e, hd, r⟩ := h
    exact ⟨F, p, m0, room, deep, loops, blocks, e, by omega, r⟩
abbrev N_law_statement : List Str := ["_law_source_here", "_law_room", "_law_deep", "_law_loops", "_law_blocks", "_law_way", "_law_parts_here", "_law_rest", "_law_turn", "_law_share", "_law_one", "_law_other"]
theorem sc_law_statement : FnScope N_law_statement ["_law_source_here", "_law_room", "_law_deep", "_law_loops", "_law_blocks"] (defScope sd_law_statement) := ⟨rfl, rfl, rfl, by decide +kernel, rfl, by decide +kernel, by decide +kernel⟩
theorem ok_law_statement (n : Nat) (IH : ∀ m, m < n → Ok P w K mg base (m + 5) ("_law_statement", none) ["_law_source_here", "_law_room", "_law_deep", "_law_loops", "_law_blocks"] (sp_stmB K m)) (T : Tx w h K mg) : Ok P w K mg base (n+5) ("_law_statement", none) ["_law_source_here", "_law_room", "_law_deep", "_law_loops", "_law_blocks"] (sp_stmB K n) := by
  obtain ⟨fd, F⟩ := F_law_statement T
  refine ⟨fd, ?_, F.bindsN (fun _ _ _ _ _ _ us hl => match us, hl with | [_, _, _, _, _], _ => rfl), F.kp⟩
  obtain ⟨fd_law_draw, G_law_draw, bi_law_draw, kp_law_draw⟩ := ok_law_draw (P := P) (base := base) T
  obtain ⟨fd_law_leaf, G_law_leaf, bi_law_leaf, kp_law_leaf⟩ := ok_law_leaf (P := P) (base := base) T
  obtain ⟨fd_law_name, G_law_name, bi_law_name, kp_law_name⟩ := ok_law_name (P := P) (base := base) T
  obtain ⟨fd_law_statement, G_law_statement, bi_law_statement, kp_law_statement⟩ : Ok P w K mg base (n + 4) ("_law_statement", none) ["_law_source_here", "_law_room", "_law_deep", "_law_loops", "_law_blocks"] (fun vs H Q E => ∃ m, m < n ∧ sp_stmB K m vs H Q E) := st_preB n IH T
  refine F.ok sc_law_statement (fun vs H Q E h => ?_) (fun cdv A outer s H vs Q E hr h => ?_)
  · obtain ⟨F, p, m, room, deep, loops, blocks, rfl, hn, r1, d1, r4, hlp, hbl, xF, fp, hp, hm, q⟩ := h
    rfl
  · obtain ⟨F, p, m, room, deep, loops, blocks, rfl, hn, r1, d1, r4, hlp, hbl, xF, fp, hp, hm, q⟩ := h
    refine ⟨_, PSs.nox (pss_cons (ps_set (i := 5) sc_law_statement.nd rfl (Or.inl rfl) (pe_call G_law_draw (hr.mono (by omega)) rfl (g_law_draw T) kp_law_draw bi_law_draw .nil passF (pa_cons (pv 0) (pa_cons pe_int pa_nil)))) (pss_cons (ps_if (PW.pt (pw_or (pt_cmpR op_lt (pv 1) pe_int (nomark _)) (pw_or (pt_cmpR op_lt (pv 2) pe_int (nomark _)) (pw_or1 (pt_cmpR op_eq (pv 5) pe_int (nomark _)))))) (pss_one (ps_ret (pe_call G_law_leaf (hr.mono (by omega)) rfl (g_law_leaf T) kp_law_leaf bi_law_leaf .nil passF (pa_cons (pv 0) (pa_cons (pv 3) pa_nil))))) pss_nil) (pss_cons (ps_if (pt_cmpR op_lt (pv 5) pe_int (nomark _)) (pss_one (ps_ret (pe_tup (pa_cons pe_str (pa_cons (pe_call G_law_name (hr.mono (by omega)) rfl (g_law_name T) kp_law_name bi_law_name .nil passF (pa_cons (pv 0) pa_nil)) (pa_cons (pe_call G_law_statement (hr.mono (by omega)) rfl (g_law_statement T) kp_law_statement bi_law_statement .nil passF (pa_cons (pv 0) (pa_cons (pe_op op_sub (pv 1) pe_int) (pa_cons (pe_op op_sub (pv 2) pe_int) (pa_cons (pe_op op_add (pv 3) pe_int) (pa_cons (pv 4) pa_nil)))))) pa_nil)))))) pss_nil) (pss_cons (ps_if (PW.pt (pw_or (pt_cmpR op_lt (pv 1) pe_int (nomark _)) (pw_or1 (pt_cmpR op_gt (pv 5) pe_int (nomark _))))) (pss_cons (ps_par rfl sc_law_statement.nd (i := 6) (j := 7) rfl rfl (by decide) rfl rfl (pa_cons (pe_lst pa_nil) (pa_cons (pe_op op_sub (pv 1) pe_int) pa_nil)) (by rfl)) (pss_cons (ps_for PassesOwn.never rfl (pi_range1 rfl (fr_range T) (pa_cons (pe_op op_add pe_int (pe_call G_law_draw (hr.mono (by omega)) rfl (g_law_draw T) kp_law_draw bi_law_draw .nil passF (pa_cons (pv 0) (pa_cons pe_int pa_nil)))) pa_nil)) (pg_name (i := 8) sc_law_statement.nd rfl (Or.inl rfl)) (pss_one (ps_if (pt_cmpR op_gt (pv 7) pe_int (nomark _)) (pss_cons (ps_set (i := 9) sc_law_statement.nd rfl (Or.inl rfl) (pe_op op_add pe_int (pe_call G_law_draw (hr.mono (by omega)) rfl (g_law_draw T) kp_law_draw bi_law_draw .nil passF (pa_cons (pv 0) (pa_cons (pv 7) pa_nil))))) (pss_cons (ps_expr (pe_bm PySem.F.plainAttrs_list PySem.F.slot_list_append PySem.F.type_list_append mt_append (pv 6) (pa_cons (pe_call G_law_statement (hr.mono (by omega)) rfl (g_law_statement T) kp_law_statement bi_law_statement .nil passF (pa_cons (pv 0) (pa_cons (pv 9) (pa_cons (pe_op op_sub (pv 2) pe_int) (pa_cons (pv 3) (pa_cons (pv 4) pa_nil)))))) pa_nil))) (pss_one (ps_set (i := 7) sc_law_statement.nd rfl (Or.inl rfl) (pe_op op_sub (pv 7) (pv 9)))))) pss_nil))) (pss_one (ps_ret (pe_tup (pa_cons pe_str (pa_cons (pe_callTy call_tuple_of rfl (fr_tuple T) b_tuple (pa_cons (pv 6) pa_nil)) pa_nil))))))) pss_nil) (pss_cons (ps_set (i := 9) sc_law_statement.nd rfl (Or.inl rfl) (pe_op op_add pe_int (pe_call G_law_draw (hr.mono (by omega)) rfl (g_law_draw T) kp_law_draw bi_law_draw .nil passF (pa_cons (pv 0) (pa_cons (pe_op op_sub (pv 1) pe_int) pa_nil))))) (pss_cons (ps_set (i := 10) sc_law_statement.nd rfl (Or.inl rfl) (pe_call G_law_statement (hr.mono (by omega)) rfl (g_law_statement T) kp_law_statement bi_law_statement .nil passF (pa_cons (pv 0) (pa_cons (pv 9) (pa_cons (pe_op op_sub (pv 2) pe_int) (pa_cons (pv 3) (pa_cons (pv 4) pa_nil))))))) (pss_cons (ps_if (PW.pt (pw_and (pt_cmpR op_lt (pv 5) pe_int (nomark _)) (pw_and1 (pt_cmpR op_lt (pv 4) pe_int (nomark _))))) (pss_one (ps_ret (pe_tup (pa_cons pe_str (pa_cons (pv 10) (pa_cons (pe_call G_law_statement (hr.mono (by omega)) rfl (g_law_statement T) kp_law_statement bi_law_statement .nil passF (pa_cons (pv 0) (pa_cons (pe_op op_sub (pe_op op_sub (pv 1) pe_int) (pv 9)) (pa_cons (pe_op op_sub (pv 2) pe_int) (pa_cons (pv 3) (pa_cons (pe_op op_add (pv 4) pe_int) pa_nil)))))) pa_nil)))))) pss_nil) (pss_cons (ps_set (i := 11) sc_law_statement.nd rfl (Or.inl rfl) (pe_call G_law_statement (hr.mono (by omega)) rfl (g_law_statement T) kp_law_statement bi_law_statement .nil passF (pa_cons (pv 0) (pa_cons (pe_op op_sub (pe_op op_sub (pv 1) pe_int) (pv 9)) (pa_cons (pe_op op_sub (pv 2) pe_int) (pa_cons (pv 3) (pa_cons (pv 4) pa_nil))))))) (pss_one (ps_ret (pe_ifExp (pt_cmpR op_eq (pv 5) pe_int (nomark _)) (pe_tup (pa_cons pe_str (pa_cons (pv 10) (pa_cons (pv 11) pa_nil)))) (pe_tup (pa_cons pe_str (pa_cons (pe_call G_law_name (hr.mono (by omega)) rfl (g_law_name T) kp_law_name bi_law_name .nil passF (pa_cons (pv 0) pa_nil)) (pa_cons (pv 10) (pa_cons (pv 11) pa_nil)))))))))))))))), ?_⟩
    refine ⟨_, rfl, p, m, 12, rfl, hp, by omega, by decide, by decide, fun v H1 v0 v1 s1 o1 => ?_⟩
    have g1 : Gr (fun b => b = p) F H F H1 := gr_kp xF fp o1
    have leafQ : sp_leafB K [.ref p, .int (loops : Int)] H1 Q (fun _ _ _ => False) := ⟨F, p, m + 1, loops, rfl, g1.fh, fp, s1, by omega, by omega, fun F' H' v d g' f' s' dv sb => q F' H' v d (g1.trans g') f' (s'.up (by omega)) dv (sb _ _ _ r1 d1 hbl)⟩
    have fin : ∀ {F4 H4 H5 : Hp} {q5 : Addr} {xs : List V} {ds : List PyData} {m' : Nat}, Gr (fun b => b = p) F H F4 H4 → F4 p = none → H4 q5 = none → H5 q5 = some (.tup xs) → (∀ b, b ≠ q5 → H5 b = H4 b) → SrcB H4 p m' → m' ≤ m + 8 * room → DpAll K F4 xs ds → SB room deep loops blocks (.tuple ds) → Q (.ref q5) H5 := fun {F4 H4 H5 q5 xs ds m'} g f4 n5 s5 o5 sp hm' da sd => by
      have pq : p ≠ q5 := fun z => by
        obtain ⟨b1, b2, b3, hb, _⟩ := sp
        rw [z, n5] at hb
        cases hb
      exact q (upd F4 q5 (.tup xs)) H5 _ _ (g.trans (Gr.frz g.fh n5 s5 o5)) (by rw [upd_ne pq]; exact f4) ((sp.kp fun o h => by rw [o5 p pq]; exact h).up hm') (.tup (Evl.st_of upd_same) (dpA_ex (exu (Evl.Ex.refl _) (ex_none g.fh n5)) da)) sd
    have rec_ : ∀ {F4 H4 : Hp} {m' rm lp bk : Nat} {ri di li bi : Int} {Q' : VK}, ri = (rm : Int) → di = ((deep - 1 : Nat) : Int) → li = (lp : Int) → bi = (bk : Int) → 2 ≤ deep → Gr (fun b => b = p) F H F4 H4 → F4 p = none → SrcB H4 p m' → m' + 8 * rm ≤ 900000000 → 1 ≤ rm → rm ≤ 400 → lp + deep ≤ 901 → bk ≤ 25 → (∀ (F' H' : Hp) (v : V) (d : PyData), Gr (fun b => b = p) F4 H4 F' H' → F' p = none → SrcB H' p (m' + 8 * rm) → Dp K F' v d → SB rm (deep - 1) lp bk d → Q' v H') →
        (∃ k, k < n ∧ sp_stmB K k [.ref p, .int ri, .int di, .int li, .int bi] H4 Q' (fun _ _ _ => False)) := fun {F4 H4 m' rm lp bk ri di li bi Q'} e1 e2 e3 e4 d2 g f4 s4 hm' hr1 hr4 hl hb hq => by
      rw [e1, e2, e3, e4]
      exact ⟨deep - 1, by omega, F4, p, m', rm, deep - 1, lp, bk, rfl, Nat.le_refl _, hr1, by omega, hr4, by omega, hb, g.fh, f4, s4, hm', hq⟩
    by_cases hr2 : room < 2
    · refine ⟨_, rfl, _, _, rfl, rfl, _, rfl, itT (decide_eq_true (show (room : Int) < 2 by omega)) ?_⟩
      exact ⟨_, rfl, _, rfl, leafQ⟩
    refine ⟨_, rfl, _, _, rfl, rfl, _, rfl, itF (decide_eq_false (show ¬ (room : Int) < 2 by omega)) ?_⟩
    by_cases hd2 : deep < 2
    · refine ⟨_, rfl, _, _, rfl, rfl, _, rfl, itT (decide_eq_true (show (deep : Int) < 2 by omega)) ?_⟩
      exact ⟨_, rfl, _, rfl, leafQ⟩
    refine ⟨_, rfl, _, _, rfl, rfl, _, rfl, itF (decide_eq_false (show ¬ (deep : Int) < 2 by omega)) ?_⟩
    refine ⟨_, rfl, rfl, _, rfl, ite_of (fun h0 => ?_) (fun h0 => ?_)⟩
    · exact ⟨_, rfl, _, rfl, leafQ⟩
    obtain ⟨dm, rfl⟩ : ∃ dm, deep = dm + 1 := ⟨deep - 1, by omega⟩
    obtain ⟨rr, rfl⟩ : ∃ rr, room = rr + 1 := ⟨room - 1, by omega⟩
    have edm : ((dm + 1 : Nat) : Int) - 1 = ((dm + 1 - 1 : Nat) : Int) := by omega
    have hdd : dm + 1 - 1 = dm := rfl
    refine ⟨_, rfl, _, _, rfl, rfl, _, rfl, ite_of (fun h3 => ?_) (fun h3 => ?_)⟩
    · -- while
      refine ⟨_, rfl, p, m + 1, rfl, s1, by omega, fun H2 nm hnm s2 o2 => ?_⟩
      have g2 := g1.trans (gr_kp g1.fh fp o2)
      refine ⟨_, rfl, _, rfl, _, _, rfl, rfl, _, rfl, _, _, rfl, rfl, _, rfl, _, _, rfl, rfl, _, rfl, ?_⟩
      refine rec_ (rm := rr) (lp := loops + 1) (bk := blocks) (by show ((rr + 1 : Nat) : Int) - 1 = _; omega) edm (by omega) rfl (by omega) g2 fp s2 (by omega) (by omega) (by omega) (by omega) hbl fun F3 H3 va da g3 f3 s3 dva sba => ?_
      refine ⟨sz (by simp), ?_⟩
      intro p4 n4
      generalize e4 : upd _ p4 _ = H4
      obtain ⟨x4, s4, o4⟩ := new_of e4 n4
      clear e4
      exact fin (g2.trans g3) f3 n4 s4 o4 s3 (by omega) (.cons (.str _) (.cons (.str _) (.cons dva .nil))) (sb_whl hnm hbl sba)
    by_cases hr3 : rr + 1 < 3
    · refine ⟨_, rfl, _, _, rfl, rfl, _, rfl, itT (decide_eq_true (show ((rr + 1 : Nat) : Int) < 3 by omega)) ?_⟩
      refine ⟨sz (by simp), ?_⟩
      intro p2 n2
      generalize e2 : upd _ p2 _ = H2
      obtain ⟨x2, s2, o2⟩ := new_of e2 n2
      clear e2
      refine ⟨_, rfl, _, _, rfl, rfl, _, _, rfl, ?_⟩
      have p2p : p2 ≠ p := fun z => by obtain ⟨_, _, _, h, _⟩ := s1; rw [z, h] at n2; cases n2
      have nH2 : H p2 = none := by
        cases z : H p2 with
        | none => rfl
        | some o => rw [o1 p2 o p2p z] at n2; cases n2
      refine ⟨_, rfl, p, m + 1, 4, rfl, s1.kp fun o h => x2 _ _ h, by omega, by decide, by decide, fun c H3 c0 c1 s3 o3 => ?_⟩
      have g2 := g1.trans (Gr.new g1.fh x2)
      have g3 := g2.trans (gr_kp g2.fh fp o3)
      have l3 := o3 p2 _ p2p s2
      refine ⟨_, _, rfl, rfl, _, rfl, (by omega), (by omega), ?_⟩
      obtain ⟨cn, hcn⟩ : ∃ cn : Nat, ((1 : Int) + c).toNat = cn := ⟨_, rfl⟩
      rw [hcn]
      refine for_it (walk_range (lo := 0) (n := cn)) (fun i σ' H' => ∃ (F' : Hp) (ds : List PyData) (vs : List V) (rest used : Nat) (o8 o9 : Option V), σ' = [some (.ref p), some (.int ((rr + 1 : Nat) : Int)), some (.int ((dm + 1 : Nat) : Int)), some (.int (loops : Int)), some (.int (blocks : Int)), some (.int v), some (.ref p2), some (.int (rest : Int)), o8, o9, none, none] ∧ Gr (fun b => b = p) F H F' H' ∧ F' p = none ∧ F' p2 = none ∧ H' p2 = some (.lst vs) ∧ DpAll K F' vs ds ∧ SBs dm loops blocks used ds ∧ used + rest = rr ∧ ds.length ≤ i ∧ (1 ≤ i → ds ≠ []) ∧ SrcB H' p (m + 2 + i + 8 * used)) ?_ ?_ ?_ ?_
      · exact ⟨F, [], [], rr, 0, _, _, (by have e : ((rr + 1 : Nat) : Int) - 1 = (rr : Int) := by omega
                                           rw [← e] <;> rfl), g3, fp, ex_none g1.fh n2, l3, .nil, .nil, by omega, Nat.le_refl _, fun z => absurd z (by decide), s3.up (by omega)⟩
      · exact fun _ _ _ _ _ => True.intro
      · rintro i vi σ' Ha H4 hi ⟨F4, ds, vs, rest, used, o8, o9, rfl, g4, f4, f42, l4, da, sbs, hu, hdl, hne, s4⟩ ⟨rfl, _⟩
        have hi : i < cn := hi
        have i4 : i < 4 := by omega
        refine ⟨_, rfl, _, _, rfl, rfl, _, rfl, ite_of (fun h5 => ?_) (fun h5 => ?_)⟩
        · have h5 : 0 < rest := by have := of_decide_eq_true h5; omega
          refine ⟨_, rfl, _, rfl, p, _, _, rfl, s4, by omega, by omega, by omega, fun sh H5 sh0 sh1 s5 o5 => ?_⟩
          obtain ⟨sn, hsn⟩ : ∃ sn : Nat, (1 : Int) + sh = (sn : Int) := ⟨(1 + sh).toNat, by omega⟩
          have g5 := g4.trans (gr_kp g4.fh f4 o5)
          have l5 := o5 p2 _ p2p l4
          refine ⟨_, _, rfl, rfl, ?_⟩
          refine ⟨_, rfl, Or.inl ⟨rfl, _, Evl.sq_of l5⟩, _, rfl, _, rfl, _, rfl, _, _, rfl, rfl, _, rfl, _, rfl, ?_⟩
          refine rec_ (rm := sn) (lp := loops) (bk := blocks) hsn edm rfl rfl (by omega) g5 f4 s5 (by omega) (by omega) (by omega) (by omega) hbl fun F6 H6 va d6 g6 f6 s6 dva sba => ?_
          have l6 := g6.kp p2 _ l5 p2p
          have f62 : F6 p2 = none := g6.nw p2 (by rw [l5]; exact fun z => nomatch z) f42 p2p
          refine ⟨p2, _, _, rfl, rfl, l6, szl (by have := dpA_len da; omega), ?_⟩
          generalize e7 : upd _ p2 _ = H7
          obtain ⟨s7, o7⟩ := set_of e7
          clear e7
          refine ⟨_, rfl, _, rfl, _, _, rfl, rfl, ?_⟩
          have g56 := g5.trans g6
          refine ⟨F6, ds ++ [d6], vs ++ [va], rest - sn, used + sn, some vi, some (.int (1 + sh)), ?_, ⟨g56.ff, set_ex g56.fh f62 o7, g56.nw, fun b o e hb => by rw [o7 b (ne_of_none e nH2)]; exact g56.kp b o e hb⟩, f6, f62, s7, dpA_app (dpA_ex g6.ff da) (.cons dva .nil), .snoc sbs sba, by omega, (by simp; omega), (fun _ => by simp), ?_⟩
          · have e : (rest : Int) - (1 + sh) = ((rest - sn : Nat) : Int) := by omega
            rw [← e] <;> rfl
          · exact (s6.kp fun o h => by rw [o7 p p2p.symm]; exact h).up (by omega)
        · have h5 : rest = 0 := by have := of_decide_eq_false h5; omega
          refine ⟨F4, ds, vs, rest, used, _, _, rfl, g4, f4, f42, l4, da, sbs, hu, by omega, fun _ => ?_, s4.up (by omega)⟩
          rcases Nat.eq_zero_or_pos i with z | z
          · subst z
            have := sbs_nil sbs (List.eq_nil_of_length_eq_zero (by omega))
            omega
          · exact hne z
      rintro σ' H4 ⟨F4, ds, vs, rest, used, o8, o9, rfl, g4, f4, f42, l4, da, sbs, hu, hdl, hne, s4⟩
      have hdl : ds.length ≤ cn := hdl
      refine ⟨_, rfl, p2, vs, rfl, .inl ⟨Evl.sq_of l4, ?_⟩⟩
      intro p8 n8
      generalize e8 : upd _ p8 _ = H8
      obtain ⟨x8, s8, o8⟩ := new_of e8 n8
      clear e8
      refine ⟨sz (by simp), ?_⟩
      intro p9 n9
      generalize e9 : upd _ p9 _ = H9
      obtain ⟨x9, s9, o9⟩ := new_of e9 n9
      clear e9
      have p8p : p ≠ p8 := fun e => by obtain ⟨_, _, _, h, _⟩ := s4; rw [← e, h] at n8; cases n8
      have g8 := g4.trans (Gr.frz g4.fh n8 s8 o8)
      have hm9 : m + 2 + cn + 8 * used ≤ m + 8 * (rr + 1) := by omega
      exact fin (m' := m + 2 + cn + 8 * used) (ds := [.str "seq", .tuple ds]) g8 (by rw [upd_ne p8p]; exact f4) n9 s9 o9 (s4.kp fun o h => x8 _ _ h) hm9 (.cons (.str _) (.cons (.tup (Evl.st_of upd_same) (dpA_ex (exu (Evl.Ex.refl _) (ex_none g4.fh n8)) da)) .nil)) ((sb_seq hbl (hne (show 1 ≤ cn by omega)) (by omega) sbs).up (by omega) (Nat.le_refl _))
    refine ⟨_, rfl, _, _, rfl, rfl, _, rfl, itF (decide_eq_false (show ¬ ((rr + 1 : Nat) : Int) < 3 by omega)) ?_⟩
    refine ⟨_, rfl, _, _, rfl, rfl, _, rfl, ite_of (fun h9 => ?_) (fun h9 => ?_)⟩
    · refine ⟨sz (by simp), ?_⟩
      intro p2 n2
      generalize e2 : upd _ p2 _ = H2
      obtain ⟨x2, s2, o2⟩ := new_of e2 n2
      clear e2
      refine ⟨_, rfl, _, _, rfl, rfl, _, _, rfl, ?_⟩
      have p2p : p2 ≠ p := fun z => by obtain ⟨_, _, _, h, _⟩ := s1; rw [z, h] at n2; cases n2
      have nH2 : H p2 = none := by
        cases z : H p2 with
        | none => rfl
        | some o => rw [o1 p2 o p2p z] at n2; cases n2
      refine ⟨_, rfl, p, m + 1, 4, rfl, s1.kp fun o h => x2 _ _ h, by omega, by decide, by decide, fun c H3 c0 c1 s3 o3 => ?_⟩
      have g2 := g1.trans (Gr.new g1.fh x2)
      have g3 := g2.trans (gr_kp g2.fh fp o3)
      have l3 := o3 p2 _ p2p s2
      refine ⟨_, _, rfl, rfl, _, rfl, (by omega), (by omega), ?_⟩
      obtain ⟨cn, hcn⟩ : ∃ cn : Nat, ((1 : Int) + c).toNat = cn := ⟨_, rfl⟩
      rw [hcn]
      refine for_it (walk_range (lo := 0) (n := cn)) (fun i σ' H' => ∃ (F' : Hp) (ds : List PyData) (vs : List V) (rest used : Nat) (o8 o9 : Option V), σ' = [some (.ref p), some (.int ((rr + 1 : Nat) : Int)), some (.int ((dm + 1 : Nat) : Int)), some (.int (loops : Int)), some (.int (blocks : Int)), some (.int v), some (.ref p2), some (.int (rest : Int)), o8, o9, none, none] ∧ Gr (fun b => b = p) F H F' H' ∧ F' p = none ∧ F' p2 = none ∧ H' p2 = some (.lst vs) ∧ DpAll K F' vs ds ∧ SBs dm loops blocks used ds ∧ used + rest = rr ∧ ds.length ≤ i ∧ (1 ≤ i → ds ≠ []) ∧ SrcB H' p (m + 2 + i + 8 * used)) ?_ ?_ ?_ ?_
      · exact ⟨F, [], [], rr, 0, _, _, (by have e : ((rr + 1 : Nat) : Int) - 1 = (rr : Int) := by omega
                                           rw [← e] <;> rfl), g3, fp, ex_none g1.fh n2, l3, .nil, .nil, by omega, Nat.le_refl _, fun z => absurd z (by decide), s3.up (by omega)⟩
      · exact fun _ _ _ _ _ => True.intro
      · rintro i vi σ' Ha H4 hi ⟨F4, ds, vs, rest, used, o8, o9, rfl, g4, f4, f42, l4, da, sbs, hu, hdl, hne, s4⟩ ⟨rfl, _⟩
        have hi : i < cn := hi
        have i4 : i < 4 := by omega
        refine ⟨_, rfl, _, _, rfl, rfl, _, rfl, ite_of (fun h5 => ?_) (fun h5 => ?_)⟩
        · have h5 : 0 < rest := by have := of_decide_eq_true h5; omega
          refine ⟨_, rfl, _, rfl, p, _, _, rfl, s4, by omega, by omega, by omega, fun sh H5 sh0 sh1 s5 o5 => ?_⟩
          obtain ⟨sn, hsn⟩ : ∃ sn : Nat, (1 : Int) + sh = (sn : Int) := ⟨(1 + sh).toNat, by omega⟩
          have g5 := g4.trans (gr_kp g4.fh f4 o5)
          have l5 := o5 p2 _ p2p l4
          refine ⟨_, _, rfl, rfl, ?_⟩
          refine ⟨_, rfl, Or.inl ⟨rfl, _, Evl.sq_of l5⟩, _, rfl, _, rfl, _, rfl, _, _, rfl, rfl, _, rfl, _, rfl, ?_⟩
          refine rec_ (rm := sn) (lp := loops) (bk := blocks) hsn edm rfl rfl (by omega) g5 f4 s5 (by omega) (by omega) (by omega) (by omega) hbl fun F6 H6 va d6 g6 f6 s6 dva sba => ?_
          have l6 := g6.kp p2 _ l5 p2p
          have f62 : F6 p2 = none := g6.nw p2 (by rw [l5]; exact fun z => nomatch z) f42 p2p
          refine ⟨p2, _, _, rfl, rfl, l6, szl (by have := dpA_len da; omega), ?_⟩
          generalize e7 : upd _ p2 _ = H7
          obtain ⟨s7, o7⟩ := set_of e7
          clear e7
          refine ⟨_, rfl, _, rfl, _, _, rfl, rfl, ?_⟩
          have g56 := g5.trans g6
          refine ⟨F6, ds ++ [d6], vs ++ [va], rest - sn, used + sn, some vi, some (.int (1 + sh)), ?_, ⟨g56.ff, set_ex g56.fh f62 o7, g56.nw, fun b o e hb => by rw [o7 b (ne_of_none e nH2)]; exact g56.kp b o e hb⟩, f6, f62, s7, dpA_app (dpA_ex g6.ff da) (.cons dva .nil), .snoc sbs sba, by omega, (by simp; omega), (fun _ => by simp), ?_⟩
          · have e : (rest : Int) - (1 + sh) = ((rest - sn : Nat) : Int) := by omega
            rw [← e] <;> rfl
          · exact (s6.kp fun o h => by rw [o7 p p2p.symm]; exact h).up (by omega)
        · have h5 : rest = 0 := by have := of_decide_eq_false h5; omega
          refine ⟨F4, ds, vs, rest, used, _, _, rfl, g4, f4, f42, l4, da, sbs, hu, by omega, fun _ => ?_, s4.up (by omega)⟩
          rcases Nat.eq_zero_or_pos i with z | z
          · subst z
            have := sbs_nil sbs (List.eq_nil_of_length_eq_zero (by omega))
            omega
          · exact hne z
      rintro σ' H4 ⟨F4, ds, vs, rest, used, o8, o9, rfl, g4, f4, f42, l4, da, sbs, hu, hdl, hne, s4⟩
      have hdl : ds.length ≤ cn := hdl
      refine ⟨_, rfl, p2, vs, rfl, .inl ⟨Evl.sq_of l4, ?_⟩⟩
      intro p8 n8
      generalize e8 : upd _ p8 _ = H8
      obtain ⟨x8, s8, o8⟩ := new_of e8 n8
      clear e8
      refine ⟨sz (by simp), ?_⟩
      intro p9 n9
      generalize e9 : upd _ p9 _ = H9
      obtain ⟨x9, s9, o9⟩ := new_of e9 n9
      clear e9
      have p8p : p ≠ p8 := fun e => by obtain ⟨_, _, _, h, _⟩ := s4; rw [← e, h] at n8; cases n8
      have g8 := g4.trans (Gr.frz g4.fh n8 s8 o8)
      have hm9 : m + 2 + cn + 8 * used ≤ m + 8 * (rr + 1) := by omega
      exact fin (m' := m + 2 + cn + 8 * used) (ds := [.str "seq", .tuple ds]) g8 (by rw [upd_ne p8p]; exact f4) n9 s9 o9 (s4.kp fun o h => x8 _ _ h) hm9 (.cons (.str _) (.cons (.tup (Evl.st_of upd_same) (dpA_ex (exu (Evl.Ex.refl _) (ex_none g4.fh n8)) da)) .nil)) ((sb_seq hbl (hne (show 1 ≤ cn by omega)) (by omega) sbs).up (by omega) (Nat.le_refl _))
    have hr3 : 3 ≤ rr + 1 := by omega
    refine ⟨_, rfl, _, rfl, _, _, rfl, rfl, p, m + 1, _, rfl, s1, by omega, (by show (0 : Int) < ((rr + 1 : Nat) : Int) - 2; omega), (by show ((rr + 1 : Nat) : Int) - 2 < _; omega), fun sh H2 sh0 sh1 s2 o2 => ?_⟩
    have g2 := g1.trans (gr_kp g1.fh fp o2)
    obtain ⟨sn, hsn⟩ : ∃ sn : Nat, (1 : Int) + sh = (sn : Int) := ⟨(1 + sh).toNat, by omega⟩
    refine ⟨_, _, rfl, rfl, ?_⟩
    refine ⟨_, rfl, _, rfl, _, rfl, _, _, rfl, rfl, _, rfl, _, rfl, ?_⟩
    have sh1 : sh < ((rr + 1 : Nat) : Int) - 2 := sh1
    refine rec_ (rm := sn) (lp := loops) (bk := blocks) hsn edm rfl rfl (by omega) g2 fp s2 (by omega) (by omega) (by omega) (by omega) hbl fun F3 H3 va da g3 f3 s3 dva sba => ?_
    have g23 := g2.trans g3
    have eo : ((rr + 1 : Nat) : Int) - 1 - (1 + sh) = ((rr - sn : Nat) : Int) := by omega
    by_cases h7 : v < 7 ∧ blocks < 25
    · refine ⟨_, rfl, _, _, rfl, rfl, _, rfl, itT (decide_eq_true h7.1) ?_⟩
      refine ⟨_, rfl, _, _, rfl, rfl, _, rfl, itT (decide_eq_true (show (blocks : Int) < 25 by omega)) ?_⟩
      refine ⟨_, rfl, _, rfl, _, rfl, _, _, rfl, rfl, _, rfl, _, _, rfl, rfl, _, rfl, _, _, rfl, rfl, _, rfl, _, rfl, _, _, rfl, rfl, ?_⟩
      refine rec_ (rm := rr - sn) (lp := loops) (bk := blocks + 1) eo edm rfl (by omega) (by omega) g23 f3 s3 (by omega) (by omega) (by omega) (by omega) (by omega) fun F4 H4 vb db g4 f4 s4 dvb sbb => ?_
      refine ⟨sz (by simp), ?_⟩
      intro p5 n5
      generalize e5 : upd _ p5 _ = H5
      obtain ⟨x5, s5, o5⟩ := new_of e5 n5
      clear e5
      exact fin (g23.trans g4) f4 n5 s5 o5 s4 (by omega) (.cons (.str _) (.cons (dp_ex g4.ff dva) (.cons dvb .nil))) ((sb_fin (by omega) sba sbb).up (by omega) (Nat.le_refl _))
    by_cases h7v : v < 7
    · refine ⟨_, rfl, _, _, rfl, rfl, _, rfl, itT (decide_eq_true h7v) ?_⟩
      refine ⟨_, rfl, _, _, rfl, rfl, _, rfl, itF (decide_eq_false (show ¬ (blocks : Int) < 25 by omega)) ?_⟩
      refine ⟨_, rfl, _, rfl, _, _, rfl, rfl, _, rfl, _, _, rfl, rfl, _, rfl, _, _, rfl, rfl, _, rfl, _, rfl, ?_⟩
      refine rec_ (rm := rr - sn) (lp := loops) (bk := blocks) eo edm rfl rfl (by omega) g23 f3 s3 (by omega) (by omega) (by omega) (by omega) hbl fun F4 H4 vb db g4 f4 s4 dvb sbb => ?_
      refine ⟨_, rfl, rfl, _, rfl, ite_of (fun h8 => ?_) (fun h8 => ?_)⟩
      · refine ⟨_, rfl, _, rfl, sz (by simp), ?_⟩
        intro p5 n5
        generalize e5 : upd _ p5 _ = H5
        obtain ⟨x5, s5, o5⟩ := new_of e5 n5
        clear e5
        exact fin (g23.trans g4) f4 n5 s5 o5 s4 (by omega) (.cons (.str _) (.cons (dp_ex g4.ff dva) (.cons dvb .nil))) ((sb_try hbl sba sbb).up (by omega) (Nat.le_refl _))
      · refine ⟨_, rfl, p, _, rfl, s4, by omega, fun H5 nm hnm s5 o5 => ?_⟩
        have g5 := (g23.trans g4).trans (gr_kp g4.fh f4 o5)
        refine ⟨_, rfl, _, rfl, sz (by simp), ?_⟩
        intro p6 n6
        generalize e6 : upd _ p6 _ = H6
        obtain ⟨x6, s6, o6⟩ := new_of e6 n6
        clear e6
        exact fin g5 f4 n6 s6 o6 s5 (by omega) (.cons (.str _) (.cons (.str _) (.cons (dp_ex g4.ff dva) (.cons dvb .nil)))) ((sb_if hnm hbl sba sbb).up (by omega) (Nat.le_refl _))
    · refine ⟨_, rfl, _, _, rfl, rfl, _, rfl, itF (decide_eq_false h7v) ?_⟩
      refine ⟨_, rfl, _, rfl, _, _, rfl, rfl, _, rfl, _, _, rfl, rfl, _, rfl, _, _, rfl, rfl, _, rfl, _, rfl, ?_⟩
      refine rec_ (rm := rr - sn) (lp := loops) (bk := blocks) eo edm rfl rfl (by omega) g23 f3 s3 (by omega) (by omega) (by omega) (by omega) hbl fun F4 H4 vb db g4 f4 s4 dvb sbb => ?_
      refine ⟨_, rfl, rfl, _, rfl, ite_of (fun h8 => ?_) (fun h8 => ?_)⟩
      · refine ⟨_, rfl, _, rfl, sz (by simp), ?_⟩
        intro p5 n5
        generalize e5 : upd _ p5 _ = H5
        obtain ⟨x5, s5, o5⟩ := new_of e5 n5
        clear e5
        exact fin (g23.trans g4) f4 n5 s5 o5 s4 (by omega) (.cons (.str _) (.cons (dp_ex g4.ff dva) (.cons dvb .nil))) ((sb_try hbl sba sbb).up (by omega) (Nat.le_refl _))
      · refine ⟨_, rfl, p, _, rfl, s4, by omega, fun H5 nm hnm s5 o5 => ?_⟩
        have g5 := (g23.trans g4).trans (gr_kp g4.fh f4 o5)
        refine ⟨_, rfl, _, rfl, sz (by simp), ?_⟩
        intro p6 n6
        generalize e6 : upd _ p6 _ = H6
        obtain ⟨x6, s6, o6⟩ := new_of e6 n6
        clear e6
        exact fin g5 f4 n6 s6 o6 s5 (by omega) (.cons (.str _) (.cons (.str _) (.cons (dp_ex g4.ff dva) (.cons dvb .nil)))) ((sb_if hnm hbl sba sbb).up (by omega) (Nat.le_refl _))
theorem ok_stmB (T : Tx w h K mg) (n : Nat) : Ok P w K mg base (n + 5) ("_law_statement", none) ["_law_source_here", "_law_room", "_law_deep", "_law_loops", "_law_blocks"] (sp_stmB K n) := by
  induction n using Nat.strongRecOn with
  | ind n ih => exact ok_law_statement n ih T
end

end Fc

set_option maxRecDepth 100000
set_option maxHeartbeats 4000000
namespace Fc
open PySem PySem.Spec PyProof.Rows L2 FcR
open Evl (Ex)
open FcM (Way Node Tab)
def kindN : Node → Str
  | .do_ => "do"
  | .call => "call"
  | .ret => "return"
  | .rai => "raise"
  | .brk _ => "break"
  | .cnt _ => "continue"
  | .iff _ _ => "if"
  | .whl _ => "while"
  | .seq _ => "seq"
  | .tr _ _ => "try"
  | .fin _ _ => "final"
theorem kd_nd {r : Row} {l : Int} (h : SV l r.d) : kindD r.d = kindN (ndOf r) := by
  obtain ⟨d, par, ch⟩ := r
  cases h <;> rfl
/-- what stands in a code's lists at n -/
structure At (K : PySem.W.Frag) (H : Hp) (A : CAd) (rows : List Row) (n : Nat) (r : Row) (c : Addr) : Prop where
  kd : (rows.map fun r => V.str (kindD r.d))[n]? = some (.str (kindN (ndOf r)))
  lb : (rows.map fun r => labD r.d)[n]? = some (labD r.d)
  pr : (rows.map fun r => parV r.par)[n]? = some (parV r.par)
  cs : (A.cs.map V.ref)[n]? = some (.ref c)
  ch : H c = some (.lst (intsV r.ch))
theorem at_of {K : PySem.W.Frag} {H : Hp} {A : CAd} {rows : List Row} {lp : Nat → Nat} {L1 L2 L3 L4 : List V} (W : TW rows lp) (C : CL K H A L1 L2 L3 L4 (rows.map fun r => intsV r.ch)) {n : Nat} {r : Row} (h : rows[n]? = some r) : ∃ c, At K H A rows n r c := by
  have lt := (List.getElem?_eq_some_iff.mp h).1
  have lc : n < A.cs.length := by rw [C.cl, List.length_map]; exact lt
  refine ⟨A.cs[n], by rw [List.getElem?_map, h, ← kd_nd (W.sv n r h).1] <;> rfl, by rw [List.getElem?_map, h] <;> rfl, by rw [List.getElem?_map, h] <;> rfl, by rw [List.getElem?_map, List.getElem?_eq_getElem lc] <;> rfl, ?_⟩
  exact C.cc n _ _ (List.getElem?_eq_getElem lc) (by rw [List.getElem?_map, h] <;> rfl)
theorem row_at {rows : List Row} {n : Nat} (h : n < rows.length) : ∃ r, rows[n]? = some r := ⟨_, List.getElem?_eq_getElem h⟩
theorem ints_at {l : List Nat} {j c : Nat} (h : l[j]? = some c) : (intsV l)[j]? = some (.int (c : Int)) := by
  unfold intsV
  rw [List.getElem?_map, h] <;> rfl
def kDown : List Str := ["seq", "try", "final"]
theorem down_case {t : Tab} {m n e : Nat} (h : FcM.Ent t m n e) : (e = n ∧ decide (kindN (t.nd n) ∈ kDown) = false) ∨ ∃ m' c, m = m' + 1 ∧ (t.nd n).ch[0]? = some c ∧ FcM.Ent t m' c e ∧ decide (kindN (t.nd n) ∈ kDown) = true := by
  cases h with
  | here h1 h2 h3 =>
    refine .inl ⟨rfl, decide_eq_false fun z => ?_⟩
    cases hd : t.nd n with
    | seq l => exact h1 l hd
    | tr a b => exact h2 a b hd
    | fin a b => exact h3 a b hd
    | do_ => rw [hd] at z; exact absurd z (by decide +kernel)
    | call => rw [hd] at z; exact absurd z (by decide +kernel)
    | ret => rw [hd] at z; exact absurd z (by decide +kernel)
    | rai => rw [hd] at z; exact absurd z (by decide +kernel)
    | brk k => rw [hd] at z; exact absurd z (show ¬ ("break" : Str) ∈ kDown by decide +kernel)
    | cnt k => rw [hd] at z; exact absurd z (show ¬ ("continue" : Str) ∈ kDown by decide +kernel)
    | iff a b => rw [hd] at z; exact absurd z (show ¬ ("if" : Str) ∈ kDown by decide +kernel)
    | whl a => rw [hd] at z; exact absurd z (show ¬ ("while" : Str) ∈ kDown by decide +kernel)
  | @seq k _ c _ l hd r => exact .inr ⟨k, c, rfl, by rw [hd] <;> rfl, r, by rw [hd]; exact decide_eq_true (show ("seq" : Str) ∈ kDown by decide +kernel)⟩
  | @tr k _ a b _ hd r => exact .inr ⟨k, a, rfl, by rw [hd] <;> rfl, r, by rw [hd]; exact decide_eq_true (show ("try" : Str) ∈ kDown by decide +kernel)⟩
  | @fin k _ a b _ hd r => exact .inr ⟨k, a, rfl, by rw [hd] <;> rfl, r, by rw [hd]; exact decide_eq_true (show ("final" : Str) ∈ kDown by decide +kernel)⟩
theorem in_strs {k : Str} {l : List Str} {b : Bool} (h : decide (k ∈ l) = b) : inV (.str k) (l.map V.str) = b := by rw [inV_strs]; exact h
def sp_entry (K : PySem.W.Frag) : Sp := fun vs H Q _ => ∃ (F : Hp) (A : CAd) (rows : List Row) (lp : Nat → Nat) (n k e : Nat), vs = [.ref A.p, .int (n : Int)] ∧ CodeH K F F A rows ∧ TW rows lp ∧ Ex F H ∧ n < rows.length ∧ FcM.Ent (tabOf rows) k n e ∧ ∀ H', Ex H H' → Q (.int (e : Int)) H'

end Fc

set_option maxRecDepth 100000
set_option maxHeartbeats 4000000
namespace Fc
open PySem PySem.Spec PyProof.Rows L2 FcR
open Evl (Ex)
/-! ### the law's parts -/
def sp_lparts (K : PySem.W.Frag) : Sp := fun vs H Q _ => ∃ (F : Hp) (v : V) (d : PyData) (l : Int), vs = [v] ∧ Ex F H ∧ Dp K F v d ∧ SV l d ∧ (partsD d).length ≤ 400 ∧ ∀ (p : Addr) (ys : List V) (H' : Hp), H p = none → Ex H H' → H' p = some (.lst ys) → DpAll K F ys (partsD d) → Q (.ref p) H'
section
variable {P : Program} {w : World} {h : Heap} {K : PySem.W.Frag} {mg : Str → Option Value} {base : Heap}
abbrev N_law_parts : List Str := ["_law_statement_here"]
theorem sc_law_parts : FnScope N_law_parts ["_law_statement_here"] (defScope sd_law_parts) := ⟨rfl, rfl, rfl, by decide +kernel, rfl, by decide +kernel, by decide +kernel⟩
theorem ok_law_parts (T : Tx w h K mg) : Ok P w K mg base 1 ("_law_parts", none) ["_law_statement_here"] (sp_lparts K) := by
  obtain ⟨fd, F⟩ := F_law_parts T
  refine ⟨fd, ?_, F.bindsN (fun _ _ _ _ _ _ us hl => match us, hl with | [_], _ => rfl), F.kp⟩
  refine F.ok sc_law_parts (fun vs H Q E h => ?_) (fun cdv A outer s H vs Q E hr h => ?_)
  · obtain ⟨F0, v, d, l, rfl, xF, hd, sv, h4, q⟩ := h
    rfl
  · obtain ⟨F0, v, d, l, rfl, xF, hd, sv, h4, q⟩ := h
    refine ⟨_, PSs.nox (pss_cons (ps_if (pt_cmpR op_eq (pe_ix ix_tup (pv 0) pe_int (fun _ _ => rfl)) pe_str (nomark _)) (pss_one (ps_ret (pe_callTy call_list_of rfl (fr_list T) b_list (pa_cons (pe_ix ix_tup (pv 0) pe_int (fun _ _ => rfl)) pa_nil)))) pss_nil) (pss_cons (ps_if (pt_cmpR op_in_seq (pe_ix ix_tup (pv 0) pe_int (fun _ _ => rfl)) (pe_tup (pa_cons pe_str (pa_cons pe_str pa_nil))) (by rfl)) (pss_one (ps_ret (pe_callTy call_list_of rfl (fr_list T) b_list (pa_cons (pe_slice sl_tupA (pv 0) (po_some pe_int) po_none) pa_nil)))) pss_nil) (pss_one (ps_ret (pe_ifExp (pt_cmpR op_in_seq (pe_ix ix_tup (pv 0) pe_int (fun _ _ => rfl)) (pe_tup (pa_cons pe_str (pa_cons pe_str pa_nil))) (by rfl)) (pe_callTy call_list_of rfl (fr_list T) b_list (pa_cons (pe_slice sl_tupA (pv 0) (po_some pe_int) po_none) pa_nil)) (pe_lst pa_nil)))))), ?_⟩
    obtain ⟨k, r, rfl⟩ : ∃ k r, d = .tuple (.str k :: r) := by cases sv <;> exact ⟨_, _, rfl⟩
    obtain ⟨a, xs, rfl, hS, hA⟩ := dp_tup hd
    have hS := Evl.ex_t xF hS
    cases hA with
    | @cons v0 xr _ _ h0 hA =>
    obtain rfl := dp_str h0
    cases sv with
    | do_ x =>
      refine ⟨_, rfl, a, _, _, _, rfl, rfl, hS, at0, rfl, _, rfl, itF rfl ?_⟩
      refine ⟨_, rfl, a, _, _, _, rfl, rfl, hS, at0, sz (by simp), ?_⟩
      intro p1 n1
      generalize e1 : upd _ p1 _ = H1
      obtain ⟨x1, s1, o1⟩ := new_of e1 n1
      clear e1
      refine ⟨p1, _, rfl, .inr (Evl.st_of s1), rfl, flat_strs ["if", "while"], _, rfl, itF (in_strs (l := ["if", "while"]) (by decide +kernel)) ?_⟩
      have hS1 := Evl.ex_t x1 hS
      refine ⟨_, rfl, a, _, _, _, rfl, rfl, hS1, at0, sz (by simp), ?_⟩
      intro p2 n2
      generalize e2 : upd _ p2 _ = H2
      obtain ⟨x2, s2, o2⟩ := new_of e2 n2
      clear e2
      refine ⟨p2, _, rfl, .inr (Evl.st_of s2), rfl, flat_strs ["try", "final"], _, rfl, itF (in_strs (l := ["try", "final"]) (by decide +kernel)) ?_⟩
      have hS2 := Evl.ex_t x2 hS1
      have x12 := x1.trans x2
      refine ⟨sz (by simp), ?_⟩
      intro p3 n3
      generalize e3 : upd _ p3 _ = H3
      obtain ⟨x3, s3, o3⟩ := new_of e3 n3
      clear e3
      exact q p3 _ H3 (ex_none x12 n3) (x12.trans x3) s3 .nil
    | call x =>
      refine ⟨_, rfl, a, _, _, _, rfl, rfl, hS, at0, rfl, _, rfl, itF rfl ?_⟩
      refine ⟨_, rfl, a, _, _, _, rfl, rfl, hS, at0, sz (by simp), ?_⟩
      intro p1 n1
      generalize e1 : upd _ p1 _ = H1
      obtain ⟨x1, s1, o1⟩ := new_of e1 n1
      clear e1
      refine ⟨p1, _, rfl, .inr (Evl.st_of s1), rfl, flat_strs ["if", "while"], _, rfl, itF (in_strs (l := ["if", "while"]) (by decide +kernel)) ?_⟩
      have hS1 := Evl.ex_t x1 hS
      refine ⟨_, rfl, a, _, _, _, rfl, rfl, hS1, at0, sz (by simp), ?_⟩
      intro p2 n2
      generalize e2 : upd _ p2 _ = H2
      obtain ⟨x2, s2, o2⟩ := new_of e2 n2
      clear e2
      refine ⟨p2, _, rfl, .inr (Evl.st_of s2), rfl, flat_strs ["try", "final"], _, rfl, itF (in_strs (l := ["try", "final"]) (by decide +kernel)) ?_⟩
      have hS2 := Evl.ex_t x2 hS1
      have x12 := x1.trans x2
      refine ⟨sz (by simp), ?_⟩
      intro p3 n3
      generalize e3 : upd _ p3 _ = H3
      obtain ⟨x3, s3, o3⟩ := new_of e3 n3
      clear e3
      exact q p3 _ H3 (ex_none x12 n3) (x12.trans x3) s3 .nil
    | ret =>
      refine ⟨_, rfl, a, _, _, _, rfl, rfl, hS, at0, rfl, _, rfl, itF rfl ?_⟩
      refine ⟨_, rfl, a, _, _, _, rfl, rfl, hS, at0, sz (by simp), ?_⟩
      intro p1 n1
      generalize e1 : upd _ p1 _ = H1
      obtain ⟨x1, s1, o1⟩ := new_of e1 n1
      clear e1
      refine ⟨p1, _, rfl, .inr (Evl.st_of s1), rfl, flat_strs ["if", "while"], _, rfl, itF (in_strs (l := ["if", "while"]) (by decide +kernel)) ?_⟩
      have hS1 := Evl.ex_t x1 hS
      refine ⟨_, rfl, a, _, _, _, rfl, rfl, hS1, at0, sz (by simp), ?_⟩
      intro p2 n2
      generalize e2 : upd _ p2 _ = H2
      obtain ⟨x2, s2, o2⟩ := new_of e2 n2
      clear e2
      refine ⟨p2, _, rfl, .inr (Evl.st_of s2), rfl, flat_strs ["try", "final"], _, rfl, itF (in_strs (l := ["try", "final"]) (by decide +kernel)) ?_⟩
      have hS2 := Evl.ex_t x2 hS1
      have x12 := x1.trans x2
      refine ⟨sz (by simp), ?_⟩
      intro p3 n3
      generalize e3 : upd _ p3 _ = H3
      obtain ⟨x3, s3, o3⟩ := new_of e3 n3
      clear e3
      exact q p3 _ H3 (ex_none x12 n3) (x12.trans x3) s3 .nil
    | rai =>
      refine ⟨_, rfl, a, _, _, _, rfl, rfl, hS, at0, rfl, _, rfl, itF rfl ?_⟩
      refine ⟨_, rfl, a, _, _, _, rfl, rfl, hS, at0, sz (by simp), ?_⟩
      intro p1 n1
      generalize e1 : upd _ p1 _ = H1
      obtain ⟨x1, s1, o1⟩ := new_of e1 n1
      clear e1
      refine ⟨p1, _, rfl, .inr (Evl.st_of s1), rfl, flat_strs ["if", "while"], _, rfl, itF (in_strs (l := ["if", "while"]) (by decide +kernel)) ?_⟩
      have hS1 := Evl.ex_t x1 hS
      refine ⟨_, rfl, a, _, _, _, rfl, rfl, hS1, at0, sz (by simp), ?_⟩
      intro p2 n2
      generalize e2 : upd _ p2 _ = H2
      obtain ⟨x2, s2, o2⟩ := new_of e2 n2
      clear e2
      refine ⟨p2, _, rfl, .inr (Evl.st_of s2), rfl, flat_strs ["try", "final"], _, rfl, itF (in_strs (l := ["try", "final"]) (by decide +kernel)) ?_⟩
      have hS2 := Evl.ex_t x2 hS1
      have x12 := x1.trans x2
      refine ⟨sz (by simp), ?_⟩
      intro p3 n3
      generalize e3 : upd _ p3 _ = H3
      obtain ⟨x3, s3, o3⟩ := new_of e3 n3
      clear e3
      exact q p3 _ H3 (ex_none x12 n3) (x12.trans x3) s3 .nil
    | brk n0 h1 h2 =>
      refine ⟨_, rfl, a, _, _, _, rfl, rfl, hS, at0, rfl, _, rfl, itF rfl ?_⟩
      refine ⟨_, rfl, a, _, _, _, rfl, rfl, hS, at0, sz (by simp), ?_⟩
      intro p1 n1
      generalize e1 : upd _ p1 _ = H1
      obtain ⟨x1, s1, o1⟩ := new_of e1 n1
      clear e1
      refine ⟨p1, _, rfl, .inr (Evl.st_of s1), rfl, flat_strs ["if", "while"], _, rfl, itF (in_strs (l := ["if", "while"]) (by decide +kernel)) ?_⟩
      have hS1 := Evl.ex_t x1 hS
      refine ⟨_, rfl, a, _, _, _, rfl, rfl, hS1, at0, sz (by simp), ?_⟩
      intro p2 n2
      generalize e2 : upd _ p2 _ = H2
      obtain ⟨x2, s2, o2⟩ := new_of e2 n2
      clear e2
      refine ⟨p2, _, rfl, .inr (Evl.st_of s2), rfl, flat_strs ["try", "final"], _, rfl, itF (in_strs (l := ["try", "final"]) (by decide +kernel)) ?_⟩
      have hS2 := Evl.ex_t x2 hS1
      have x12 := x1.trans x2
      refine ⟨sz (by simp), ?_⟩
      intro p3 n3
      generalize e3 : upd _ p3 _ = H3
      obtain ⟨x3, s3, o3⟩ := new_of e3 n3
      clear e3
      exact q p3 _ H3 (ex_none x12 n3) (x12.trans x3) s3 .nil
    | cnt n0 h1 h2 =>
      refine ⟨_, rfl, a, _, _, _, rfl, rfl, hS, at0, rfl, _, rfl, itF rfl ?_⟩
      refine ⟨_, rfl, a, _, _, _, rfl, rfl, hS, at0, sz (by simp), ?_⟩
      intro p1 n1
      generalize e1 : upd _ p1 _ = H1
      obtain ⟨x1, s1, o1⟩ := new_of e1 n1
      clear e1
      refine ⟨p1, _, rfl, .inr (Evl.st_of s1), rfl, flat_strs ["if", "while"], _, rfl, itF (in_strs (l := ["if", "while"]) (by decide +kernel)) ?_⟩
      have hS1 := Evl.ex_t x1 hS
      refine ⟨_, rfl, a, _, _, _, rfl, rfl, hS1, at0, sz (by simp), ?_⟩
      intro p2 n2
      generalize e2 : upd _ p2 _ = H2
      obtain ⟨x2, s2, o2⟩ := new_of e2 n2
      clear e2
      refine ⟨p2, _, rfl, .inr (Evl.st_of s2), rfl, flat_strs ["try", "final"], _, rfl, itF (in_strs (l := ["try", "final"]) (by decide +kernel)) ?_⟩
      have hS2 := Evl.ex_t x2 hS1
      have x12 := x1.trans x2
      refine ⟨sz (by simp), ?_⟩
      intro p3 n3
      generalize e3 : upd _ p3 _ = H3
      obtain ⟨x3, s3, o3⟩ := new_of e3 n3
      clear e3
      exact q p3 _ H3 (ex_none x12 n3) (x12.trans x3) s3 .nil
    | iff x b1 b2 =>
      refine ⟨_, rfl, a, _, _, _, rfl, rfl, hS, at0, rfl, _, rfl, itF rfl ?_⟩
      refine ⟨_, rfl, a, _, _, _, rfl, rfl, hS, at0, sz (by simp), ?_⟩
      intro p1 n1
      generalize e1 : upd _ p1 _ = H1
      obtain ⟨x1, s1, o1⟩ := new_of e1 n1
      clear e1
      refine ⟨p1, _, rfl, .inr (Evl.st_of s1), rfl, flat_strs ["if", "while"], _, rfl, itT (in_strs (l := ["if", "while"]) (by decide +kernel)) ?_⟩
      have hS1 := Evl.ex_t x1 hS
      refine ⟨_, rfl, _, rfl, ?_⟩
      dsimp only [tNoPart]
      refine sl_any (hi := none) hS1 fun p5 H5 x5 s5 => ?_
      have x15 := x1.trans x5
      refine ⟨p5, _, rfl, .inr s5, fun l hl => q l _ _ (fresh_up x15 hl) (exu x15 hl) upd_same ?_⟩
      rw [show (2 : Int) = ((2 : Nat) : Int) from rfl, cut_from]
      exact dpA_drop 1 hA
    | whl x b1 =>
      refine ⟨_, rfl, a, _, _, _, rfl, rfl, hS, at0, rfl, _, rfl, itF rfl ?_⟩
      refine ⟨_, rfl, a, _, _, _, rfl, rfl, hS, at0, sz (by simp), ?_⟩
      intro p1 n1
      generalize e1 : upd _ p1 _ = H1
      obtain ⟨x1, s1, o1⟩ := new_of e1 n1
      clear e1
      refine ⟨p1, _, rfl, .inr (Evl.st_of s1), rfl, flat_strs ["if", "while"], _, rfl, itT (in_strs (l := ["if", "while"]) (by decide +kernel)) ?_⟩
      have hS1 := Evl.ex_t x1 hS
      refine ⟨_, rfl, _, rfl, ?_⟩
      dsimp only [tNoPart]
      refine sl_any (hi := none) hS1 fun p5 H5 x5 s5 => ?_
      have x15 := x1.trans x5
      refine ⟨p5, _, rfl, .inr s5, fun l hl => q l _ _ (fresh_up x15 hl) (exu x15 hl) upd_same ?_⟩
      rw [show (2 : Int) = ((2 : Nat) : Int) from rfl, cut_from]
      exact dpA_drop 1 hA
    | tr b1 b2 =>
      refine ⟨_, rfl, a, _, _, _, rfl, rfl, hS, at0, rfl, _, rfl, itF rfl ?_⟩
      refine ⟨_, rfl, a, _, _, _, rfl, rfl, hS, at0, sz (by simp), ?_⟩
      intro p1 n1
      generalize e1 : upd _ p1 _ = H1
      obtain ⟨x1, s1, o1⟩ := new_of e1 n1
      clear e1
      refine ⟨p1, _, rfl, .inr (Evl.st_of s1), rfl, flat_strs ["if", "while"], _, rfl, itF (in_strs (l := ["if", "while"]) (by decide +kernel)) ?_⟩
      have hS1 := Evl.ex_t x1 hS
      refine ⟨_, rfl, a, _, _, _, rfl, rfl, hS1, at0, sz (by simp), ?_⟩
      intro p2 n2
      generalize e2 : upd _ p2 _ = H2
      obtain ⟨x2, s2, o2⟩ := new_of e2 n2
      clear e2
      refine ⟨p2, _, rfl, .inr (Evl.st_of s2), rfl, flat_strs ["try", "final"], _, rfl, itT (in_strs (l := ["try", "final"]) (by decide +kernel)) ?_⟩
      have hS2 := Evl.ex_t x2 hS1
      have x12 := x1.trans x2
      refine ⟨_, rfl, _, rfl, ?_⟩
      dsimp only [tNoPart]
      refine sl_any (hi := none) hS2 fun p5 H5 x5 s5 => ?_
      have x15 := x12.trans x5
      refine ⟨p5, _, rfl, .inr s5, fun l hl => q l _ _ (fresh_up x15 hl) (exu x15 hl) upd_same ?_⟩
      rw [show (1 : Int) = ((1 : Nat) : Int) from rfl, cut_from]
      exact hA
    | fin b1 b2 =>
      refine ⟨_, rfl, a, _, _, _, rfl, rfl, hS, at0, rfl, _, rfl, itF rfl ?_⟩
      refine ⟨_, rfl, a, _, _, _, rfl, rfl, hS, at0, sz (by simp), ?_⟩
      intro p1 n1
      generalize e1 : upd _ p1 _ = H1
      obtain ⟨x1, s1, o1⟩ := new_of e1 n1
      clear e1
      refine ⟨p1, _, rfl, .inr (Evl.st_of s1), rfl, flat_strs ["if", "while"], _, rfl, itF (in_strs (l := ["if", "while"]) (by decide +kernel)) ?_⟩
      have hS1 := Evl.ex_t x1 hS
      refine ⟨_, rfl, a, _, _, _, rfl, rfl, hS1, at0, sz (by simp), ?_⟩
      intro p2 n2
      generalize e2 : upd _ p2 _ = H2
      obtain ⟨x2, s2, o2⟩ := new_of e2 n2
      clear e2
      refine ⟨p2, _, rfl, .inr (Evl.st_of s2), rfl, flat_strs ["try", "final"], _, rfl, itT (in_strs (l := ["try", "final"]) (by decide +kernel)) ?_⟩
      have hS2 := Evl.ex_t x2 hS1
      have x12 := x1.trans x2
      refine ⟨_, rfl, _, rfl, ?_⟩
      dsimp only [tNoPart]
      refine sl_any (hi := none) hS2 fun p5 H5 x5 s5 => ?_
      have x15 := x12.trans x5
      refine ⟨p5, _, rfl, .inr s5, fun l hl => q l _ _ (fresh_up x15 hl) (exu x15 hl) upd_same ?_⟩
      rw [show (1 : Int) = ((1 : Nat) : Int) from rfl, cut_from]
      exact hA
    | seq p ps =>
      cases hA with
      | @cons v1 xr2 _ _ g1 hA =>
      obtain ⟨b, ys, rfl, gS, gA⟩ := dp_tup g1
      have gS := Evl.ex_t xF gS
      refine ⟨_, rfl, a, _, _, _, rfl, rfl, hS, at0, rfl, _, rfl, itT rfl ?_⟩
      refine ⟨_, rfl, a, _, _, _, rfl, rfl, hS, at1, b, _, rfl, .inr gS, fun l hl => q l _ _ hl (exu (Evl.Ex.refl _) hl) upd_same ?_⟩
      have e : partsD (.tuple [.str "seq", .tuple (p :: ps)]) = p :: ps := by
        show (p :: ps).take 401 = p :: ps
        have h5 : ((p :: ps).take 401).length ≤ 400 := h4
        rw [List.length_take] at h5
        exact List.take_of_length_le (by omega)
      rw [e]
      exact gA
end

end Fc

set_option maxRecDepth 100000
set_option maxHeartbeats 4000000
namespace Fc
open PySem PySem.Spec PyProof.Rows L2 FcR
open Evl (Ex)
def sp_len (K : PySem.W.Frag) : Sp := fun vs H Q _ => ∃ (F : Hp) (A : CAd) (rows : List Row), vs = [.ref A.p] ∧ CodeH K F F A rows ∧ Ex F H ∧ Q (.int (rows.length : Int)) H
section
variable {P : Program} {w : World} {h : Heap} {K : PySem.W.Frag} {mg : Str → Option Value} {base : Heap}
abbrev N_Code___len__ : List Str := ["self"]
theorem sc_Code___len__ : FnScope N_Code___len__ ["self"] (defScope sd_Code___len__) := ⟨rfl, rfl, rfl, by decide +kernel, rfl, by decide +kernel, by decide +kernel⟩
theorem ok_Code___len__ (T : Tx w h K mg) : Ok P w K mg base 1 ("Code", some "__len__") ["self"] (sp_len K) := by
  obtain ⟨fd, F⟩ := F_Code___len__ T
  refine ⟨fd, ?_, F.bindsN (fun _ _ _ _ _ _ us hl => match us, hl with | [_], _ => rfl), F.kp⟩
  refine F.ok sc_Code___len__ (fun vs H Q E h => ?_) (fun cdv A outer s H vs Q E hr h => ?_)
  · obtain ⟨F, A, rows, rfl, C, xF, q⟩ := h
    rfl
  · obtain ⟨F, A, rows, rfl, C, xF, q⟩ := h
    refine ⟨_, PSs.nox (pss_one (ps_ret (pe_callB call_len_seq rfl (fr_len T) b_len (pa_cons (pe_fld (pv 0) rfl) pa_nil)))), ?_⟩
    obtain ⟨vs, C1, _⟩ := C.ex (Evl.Ex.refl _) xF
    refine ⟨_, rfl, A.p, _, _, _, _, rfl, C1.ob, c_Code T, na_Code_kinds T, fl_Code_kinds _ _ _ _ _, A.a2, _, rfl, .inl (Evl.sq_of C1.h2), ?_⟩
    rw [List.length_map]
    exact q
end

end Fc

set_option maxRecDepth 100000
set_option maxHeartbeats 4000000
namespace FcR
open PySem PySem.Spec PyProof.Rows L2
variable {X : Cx}
/-- str(x) of a text or of a number -/
theorem call_strIS : CallR X (.type "str") (fun xs H Q => (∃ i, xs = [.int i] ∧ i.natAbs.log2 < 1920 ∧ Q (.str (toString i)) H) ∨ ∃ a, xs = [.str a] ∧ Q (.str a) H) := CallR.or call_str_int SkE.call_str_str
/-- a text, so many times -/
theorem op_mul_str : OpR X (binaryOp .Mult) (fun x y H Q => ∃ a n, x = .str a ∧ y = .int n ∧ MulOk a n ∧ Q (.str (Txt.mul a n)) H) := by
  intro pins s σ H x y v u Q I rx ry h
  obtain ⟨a, n, rfl, rfl, ok, q⟩ := h
  obtain ⟨t, rfl⟩ := rx
  obtain ⟨t', rfl⟩ := ry
  exact SB.mul ok fun t' k => ⟨.str _, H, I.tok _, ⟨_, rfl⟩, q⟩
/-- a list against an empty one: the lengths tell -/
def rNe0 (K : PySem.W.Frag) : R2 := fun x y H Q => ∃ a b xs, x = .ref a ∧ y = .ref b ∧ SqL K H a xs ∧ SqL K H b [] ∧ Q (.bl (!xs.isEmpty)) H
def rEq0 (K : PySem.W.Frag) : R2 := fun x y H Q => ∃ a b xs, x = .ref a ∧ y = .ref b ∧ SqL K H a xs ∧ SqL K H b [] ∧ Q (.bl xs.isEmpty) H
theorem op_ne0 {k : Nat} (hr : Room k X.A) : OpR X (compareOp .NotEq) (rNe0 X.K) := by
  intro pins s σ H x y v u Q I rx ry h
  obtain ⟨a, b, xs, rfl, rfl, ha, hb, q⟩ := h
  obtain rfl : v = Value.ref a := rx
  obtain rfl : u = Value.ref b := ry
  obtain ⟨i1, r1, l1, _⟩ := I.list ha
  obtain ⟨i2, r2, l2, _⟩ := I.list hb
  cases r2
  have hu : X.A.units < cLine := by have := hr.un; omega
  cases r1 with
  | nil => exact SeqAt.RcNeAt.lists (e := fun _ => true) l1.isList l2.isList rfl hu (fun j h1 _ => absurd h1 (Nat.not_lt_zero _)) _ _ _ _ ⟨.bl _, H, I, rfl, q⟩
  | cons _ _ => exact SeqAt.RcNeAt.lists_lengths l1.isList l2.isList (by simp) hu _ _ _ _ ⟨.bl _, H, I, rfl, q⟩
theorem op_eq0 {k : Nat} (hr : Room k X.A) : OpR X (compareOp .Eq) (rEq0 X.K) := by
  intro pins s σ H x y v u Q I rx ry h
  obtain ⟨a, b, xs, rfl, rfl, ha, hb, q⟩ := h
  obtain rfl : v = Value.ref a := rx
  obtain rfl : u = Value.ref b := ry
  obtain ⟨i1, r1, l1, _⟩ := I.list ha
  obtain ⟨i2, r2, l2, _⟩ := I.list hb
  cases r2
  have hu : X.A.units < cLine := by have := hr.un; omega
  cases r1 with
  | nil => exact SeqAt.RcAt.lists (e := fun _ => true) l1.isList l2.isList rfl hu (fun j h1 _ => absurd h1 (Nat.not_lt_zero _)) _ _ _ _ ⟨.bl _, H, I, rfl, q⟩
  | cons _ _ => exact SeqAt.RcAt.lists_lengths l1.isList l2.isList (by simp) hu _ _ _ _ ⟨.bl _, H, I, rfl, q⟩
end FcR

set_option maxRecDepth 100000
set_option maxHeartbeats 4000000
namespace Fc
open PySem PySem.Spec PyProof.Rows L2 FcR
open Evl (Ex)
/-! ### texts: words_of, show -/
def labW : V → List Str
  | .str x => [x]
  | .int n => [Str.ofString (toString n)]
  | _ => []
def wordsR (r : Row) : List Str := if kindD r.d = "seq" then ["seq", Str.ofString (toString (r.ch.length : Int))] else kindD r.d :: labW (labD r.d)
theorem labD_is (d : PyData) : labD d = .non ∨ (∃ x, labD d = .str x) ∨ ∃ n, labD d = .int n := by
  unfold labD
  split
  · split
    · split
      · exact .inr (.inl ⟨_, rfl⟩)
      · exact .inr (.inr ⟨_, rfl⟩)
      · exact .inl rfl
    · exact .inl rfl
  · exact .inl rfl
def sp_words (K : PySem.W.Frag) : Sp := fun vs H Q _ => ∃ (F : Hp) (A : CAd) (rows : List Row) (n : Nat) (r : Row), vs = [.ref A.p, .int (n : Int)] ∧ CodeH K F F A rows ∧ Ex F H ∧ rows[n]? = some r ∧ r.ch.length ≤ 400 ∧ (∀ k : Int, labD r.d = .int k → k.natAbs ≤ 1000) ∧
  ∀ (H' : Hp) (a : Addr), Ex H H' → H a = none → H' a = some (.lst ((wordsR r).map V.str)) → Q (.ref a) H'
def sp_show (K : PySem.W.Frag) : Sp := fun vs H Q _ => ∃ (F : Hp) (A : CAd) (rows : List Row), vs = [.ref A.p] ∧ CodeH K F F A rows ∧ Ex F H ∧ rows.length ≤ 400 ∧ (∀ r ∈ rows, r.ch.length ≤ 400 ∧ (∀ k : Int, labD r.d = .int k → k.natAbs ≤ 1000) ∧ ∀ x ∈ wordsR r, x.length ≤ 20) ∧
  ∀ H', Ex H H' → Q (.str (Txt.join " " (rows.flatMap wordsR))) H'
theorem wordsR_len (r : Row) : (wordsR r).length ≤ 2 := by
  unfold wordsR
  split
  · simp
  · rcases labD_is r.d with z | ⟨x, z⟩ | ⟨k, z⟩ <;> rw [z] <;> simp [labW]
theorem flat_len {rows : List Row} (h : ∀ r ∈ rows, (wordsR r).length ≤ 2) (hl : rows.length ≤ 400) : (rows.flatMap wordsR).length ≤ 800 := by
  have key : ∀ l : List Row, (l.flatMap wordsR).length ≤ 2 * l.length := fun l => by
    induction l with
    | nil => simp
    | cons a l ih =>
      rw [List.flatMap_cons, List.length_append, List.length_cons]
      have := wordsR_len a
      omega
  have := key rows
  omega
theorem sum_len {l : List Str} {m : Nat} (h : ∀ x ∈ l, x.length ≤ m) : (l.map (·.length)).sum ≤ m * l.length := by
  induction l with
  | nil => simp
  | cons a l ih =>
    have h1 := h a List.mem_cons_self
    have h2 := ih fun x hx => h x (List.mem_cons_of_mem _ hx)
    rw [List.map_cons, List.sum_cons, List.length_cons, Nat.mul_add]
    omega
theorem log2_le {n : Nat} (h : n ≤ 1000) : n.log2 < 1920 := Nat.lt_of_le_of_lt (Nat.log2_le_self n) (by omega)
section
variable {P : Program} {w : World} {h : Heap} {K : PySem.W.Frag} {mg : Str → Option Value} {base : Heap}
abbrev N_words_of : List Str := ["code", "number", "kind"]
theorem sc_words_of : FnScope N_words_of ["code", "number"] (defScope sd_words_of) := ⟨rfl, rfl, rfl, by decide +kernel, rfl, by decide +kernel, by decide +kernel⟩
theorem ok_words_of (T : Tx w h K mg) : Ok P w K mg base 1 ("words_of", none) ["code", "number"] (sp_words K) := by
  obtain ⟨fd, F⟩ := F_words_of T
  refine ⟨fd, ?_, F.bindsN (fun _ _ _ _ _ _ us hl => match us, hl with | [_, _], _ => rfl), F.kp⟩
  refine F.ok sc_words_of (fun vs H Q E h => ?_) (fun cdv A outer s H vs Q E hr h => ?_)
  · obtain ⟨F, A, rows, n, r, rfl, C, xF, hr, hc, hk, q⟩ := h
    rfl
  · obtain ⟨F, A, rows, n, r, rfl, C, xF, hr, hc, hk, q⟩ := h
    refine ⟨_, PSs.nox (pss_cons (ps_set (i := 2) sc_words_of.nd rfl (Or.inl rfl) (pe_ix ix_list (pe_fld (pv 0) rfl) (pv 1) (fun _ _ => rfl))) (pss_cons (ps_if (pt_cmpR op_eq (pv 2) pe_str (nomark _)) (pss_one (ps_ret (pe_lst (pa_cons (pv 2) (pa_cons (pe_callTy call_str_int rfl (fr_str T) b_str (pa_cons (pe_callB call_len_seq rfl (fr_len T) b_len (pa_cons (pe_ix ix_list (pe_fld (pv 0) rfl) (pv 1) (fun _ _ => rfl)) pa_nil)) pa_nil)) pa_nil))))) pss_nil) (pss_cons (ps_if (pt_cmpR op_isN (pe_ix ix_list (pe_fld (pv 0) rfl) (pv 1) (fun _ _ => rfl)) pe_non (nomark _)) (pss_one (ps_ret (pe_lst (pa_cons (pv 2) pa_nil)))) pss_nil) (pss_one (ps_ret (pe_lst (pa_cons (pv 2) (pa_cons (pe_callTy call_strIS rfl (fr_str T) b_str (pa_cons (pe_ix ix_list (pe_fld (pv 0) rfl) (pv 1) (fun _ _ => rfl)) pa_nil)) pa_nil)))))))), ?_⟩
    obtain ⟨vs, C1, _⟩ := C.ex (Evl.Ex.refl _) xF
    refine ⟨_, rfl, A.p, _, _, _, _, rfl, C1.ob, c_Code T, na_Code_kinds T, fl_Code_kinds _ _ _ _ _, _, rfl, A.a2, _, _, _, rfl, rfl, Evl.sq_of C1.h2, atI_nat (by rw [List.getElem?_map, hr] <;> rfl), ?_⟩
    refine ⟨_, rfl, rfl, _, rfl, ite_of (fun h1 => ?_) (fun h1 => ?_)⟩
    · have e1 : kindD r.d = "seq" := V.str.inj (of_decide_eq_true h1)
      obtain ⟨c, hcc⟩ : ∃ c, A.cs[n]? = some c := ⟨_, List.getElem?_eq_getElem (by rw [C1.cl, List.length_map]; exact (List.getElem?_eq_some_iff.mp hr).1)⟩
      have hcl := C1.cc n c _ hcc (show (rows.map fun r => intsV r.ch)[n]? = some (intsV r.ch) from by rw [List.getElem?_map, hr] <;> rfl)
      refine ⟨_, rfl, _, rfl, A.p, _, _, _, _, rfl, C1.ob, c_Code T, na_Code_children T, fl_Code_children _ _ _ _ _, _, rfl, A.a5, _, _, .ref c, rfl, rfl, Evl.sq_of C1.h5, atI_nat (by rw [List.getElem?_map, hcc] <;> rfl), c, _, rfl, .inl (Evl.sq_of hcl), _, rfl, ?_, sz (by simp), ?_⟩
      · unfold intsV
        rw [List.length_map]
        exact log2_le (by omega)
      · intro p1 n1
        generalize e1 : upd _ p1 _ = H1
        obtain ⟨x1, s1, o1⟩ := new_of e1 n1
        clear e1
        refine q H1 p1 x1 n1 ?_
        rw [s1]
        unfold wordsR intsV
        rw [if_pos e1, List.length_map]
        show some (HO.lst [V.str (kindD r.d), _]) = _
        rw [e1] <;> rfl
    · have e1 : ¬ kindD r.d = "seq" := fun e => of_decide_eq_false h1 (by show V.str (kindD r.d) = _; rw [e])
      have hl : (rows.map fun r => labD r.d)[n]? = some (labD r.d) := by rw [List.getElem?_map, hr] <;> rfl
      have ew : wordsR r = kindD r.d :: labW (labD r.d) := by unfold wordsR; rw [if_neg e1]
      refine ⟨_, rfl, A.p, _, _, _, _, rfl, C1.ob, c_Code T, na_Code_labels T, fl_Code_labels _ _ _ _ _, _, rfl, A.a3, _, _, _, rfl, rfl, Evl.sq_of C1.h3, atI_nat hl, ?_⟩
      rcases labD_is r.d with z | ⟨x, z⟩ | ⟨k, z⟩
      · rw [z] at ew ⊢
        refine ⟨rfl, _, rfl, itT rfl ?_⟩
        refine ⟨_, rfl, sz (by simp), ?_⟩
        intro p1 n1
        generalize e1 : upd _ p1 _ = H1
        obtain ⟨x1, s1, o1⟩ := new_of e1 n1
        clear e1
        refine q H1 p1 x1 n1 ?_
        rw [s1, ew] <;> rfl
      · have hl2 := hl
        rw [z] at ew hl2 ⊢
        refine ⟨rfl, _, rfl, itF rfl ?_⟩
        refine ⟨_, rfl, _, rfl, A.p, _, _, _, _, rfl, C1.ob, c_Code T, na_Code_labels T, fl_Code_labels _ _ _ _ _, _, rfl, A.a3, _, _, _, rfl, rfl, Evl.sq_of C1.h3, atI_nat hl2, .inr ⟨_, rfl, sz (by simp), ?_⟩⟩
        intro p1 n1
        generalize e1 : upd _ p1 _ = H1
        obtain ⟨x1, s1, o1⟩ := new_of e1 n1
        clear e1
        refine q H1 p1 x1 n1 ?_
        rw [s1, ew] <;> rfl
      · have hl2 := hl
        rw [z] at ew hl2 ⊢
        refine ⟨rfl, _, rfl, itF rfl ?_⟩
        refine ⟨_, rfl, _, rfl, A.p, _, _, _, _, rfl, C1.ob, c_Code T, na_Code_labels T, fl_Code_labels _ _ _ _ _, _, rfl, A.a3, _, _, _, rfl, rfl, Evl.sq_of C1.h3, atI_nat hl2, .inl ⟨_, rfl, log2_le (hk k z), sz (by simp), ?_⟩⟩
        intro p1 n1
        generalize e1 : upd _ p1 _ = H1
        obtain ⟨x1, s1, o1⟩ := new_of e1 n1
        clear e1
        refine q H1 p1 x1 n1 ?_
        rw [s1, ew] <;> rfl
abbrev N_show : List Str := ["code", "words", "number"]
theorem sc_show : FnScope N_show ["code"] (defScope sd_show) := ⟨rfl, rfl, rfl, by decide +kernel, rfl, by decide +kernel, by decide +kernel⟩
theorem okF_show (T : Tx w h K mg) : ∃ fd, FnOk P w K mg base (CX P w) 3 (He.fAd K ("show", none)) fd ["code"] (sp_show K) ∧ Binds K fd ["code"] [] ∧ PySem.W.keepIn K (.ref (He.fAd K ("show", none))) = true ∧ FunD K "show" "show" (defArgs sd_show) (defBody sd_show) (defScope sd_show) [] [] (He.fAd K ("show", none)) fd := by
  obtain ⟨fd, F⟩ := F_show T
  refine ⟨fd, ?_, F.bindsN (fun _ _ _ _ _ _ us hl => match us, hl with | [_], _ => rfl), F.kp, F⟩
  obtain ⟨fd_words_of, G_words_of, bi_words_of, kp_words_of⟩ := ok_words_of (P := P) (base := base) T
  obtain ⟨fd_Code___len__, G_Code___len__, bi_Code___len__, kp_Code___len__⟩ := ok_Code___len__ (P := P) (base := base) T
  refine F.ok sc_show (fun vs H Q E h => ?_) (fun cdv A outer s H vs Q E hr h => ?_)
  · obtain ⟨F, A, rows, rfl, C, xF, hl, hall, q⟩ := h
    rfl
  · obtain ⟨F, A, rows, rfl, C, xF, hl, hall, q⟩ := h
    refine ⟨_, PSs.nox (pss_cons (ps_set (i := 1) sc_show.nd rfl (Or.inl rfl) (pe_lst pa_nil)) (pss_cons (ps_for PassesOwn.never rfl (pi_range1 rfl (fr_range T) (pa_cons (pe_callB (FcO.call_lenO G_Code___len__ (hr.mono (by decide)) (me_Code___len__ T) bi_Code___len__ passF) rfl (fr_len T) b_len (pa_cons (pv 0) pa_nil)) pa_nil)) (pg_name (i := 2) sc_show.nd rfl (Or.inl rfl)) (pss_one (ps_expr (pe_bm PySem.F.plainAttrs_list PySem.F.slot_list_extend PySem.F.type_list_extend mt_extend (pv 1) (pa_cons (pe_call G_words_of (hr.mono (by decide)) rfl (g_words_of T) kp_words_of bi_words_of .nil passF (pa_cons (pv 0) (pa_cons (pv 2) pa_nil))) pa_nil))))) (pss_one (ps_ret (pe_bm PySem.F.plainAttrs_str PySem.F.slot_str_join PySem.F.type_str_join mt_join pe_str (pa_cons (pv 1) pa_nil)))))), ?_⟩
    refine ⟨sz (by simp), ?_⟩
    intro p1 n1
    generalize e1 : upd _ p1 _ = H1
    obtain ⟨x1, s1, o1⟩ := new_of e1 n1
    clear e1
    have ob : ∀ {H' : Hp}, Ex F H' → H' A.p = some (.ins (He.ga K "Code") A.dx (cFs A)) := fun {H'} x => by
      obtain ⟨vs, C1, _⟩ := C.ex (Evl.Ex.refl _) x
      exact C1.ob
    have fp1 : F p1 = none := ex_none xF n1
    refine ⟨_, rfl, A.p, _, _, rfl, ob (xF.trans x1), F, A, rows, rfl, C, xF.trans x1, rows.length, rfl, by omega, _, rfl, by omega, by omega, ?_⟩
    refine for_it (walk_range (lo := 0) (n := rows.length)) (fun i σ' H' => ∃ o2, σ' = [some (.ref A.p), some (.ref p1), o2] ∧ Ex H H' ∧ H' p1 = some (.lst (((rows.take i).flatMap wordsR).map V.str))) ?_ ?_ ?_ ?_
    · exact ⟨_, rfl, x1, s1⟩
    · exact fun _ _ _ _ _ => True.intro
    · rintro i vi σ' Ha H2 hi ⟨o2, rfl, x2, l2⟩ ⟨rfl, hvi⟩
      have hi : i < rows.length := hi
      obtain ⟨r, hr⟩ : ∃ r, rows[i]? = some r := ⟨_, List.getElem?_eq_getElem hi⟩
      obtain ⟨a1, a2, a3⟩ := hall r (List.mem_of_getElem? hr)
      have ev : vi = .int (i : Int) := by rw [hvi]; simp
      subst ev
      refine ⟨_, rfl, Or.inl ⟨rfl, _, Evl.sq_of l2⟩, _, rfl, _, rfl, F, A, rows, i, r, rfl, C, xF.trans x2, hr, a1, a2, fun H3 a3' x3 n3 l3 => ?_⟩
      have hle : ((rows.take i).flatMap wordsR).length ≤ 800 := flat_len (fun r _ => wordsR_len r) (by rw [List.length_take]; omega)
      have hlr := wordsR_len r
      refine ⟨p1, a3', _, _, rfl, rfl, x3 _ _ l2, l3, sz (by simp only [List.length_append, List.length_map]; omega), ?_⟩
      generalize e4 : upd _ p1 _ = H4
      obtain ⟨s4, o4⟩ := set_of e4
      clear e4
      refine ⟨_, rfl, set_ex (x2.trans x3) n1 o4, ?_⟩
      rw [s4, List.take_add_one, hr, List.flatMap_append, List.map_append]
      simp
    · rintro σ' H2 ⟨o2, rfl, x2, l2⟩
      have l2 : H2 p1 = some (.lst (((rows.take rows.length).flatMap wordsR).map V.str)) := l2
      rw [List.take_length] at l2
      have hle : (rows.flatMap wordsR).length ≤ 800 := flat_len (fun r _ => wordsR_len r) hl
      have hsum : ((rows.flatMap wordsR).map (·.length)).sum ≤ 20 * (rows.flatMap wordsR).length := sum_len fun x hx => by
        obtain ⟨r, h1, h2⟩ := List.mem_flatMap.mp hx
        exact (hall r h1).2.2 x h2
      refine ⟨rfl, _, rfl, " ", p1, rows.flatMap wordsR, rfl, rfl, .inl (Evl.sq_of l2), ?_, q H2 x2⟩
      have e1 : ((" " : Str)).length = 1 := by decide +kernel
      rw [e1]
      omega
theorem ok_show (T : Tx w h K mg) : Ok P w K mg base 3 ("show", none) ["code"] (sp_show K) := by
  obtain ⟨fd, a, b, c, _⟩ := okF_show (P := P) (base := base) T
  exact ⟨fd, a, b, c⟩
end

end Fc

set_option maxRecDepth 100000
set_option maxHeartbeats 4000000
namespace Fc
open PySem PySem.Spec PyProof.Rows L2 FcR
open Evl (Ex)
/-! ### words of statements, and how words are read (plain) -/
open TL (tl numL)
theorem parts_lt {d p : PyData} (h : p ∈ partsD d) : sizeOf p < sizeOf d := by
  unfold partsD at h
  split at h
  · rename_i k r
    split at h
    · split at h
      · rename_i ps r'
        have h1 := List.sizeOf_lt_of_mem (List.mem_of_mem_take h)
        simp
        omega
      · cases h
    · split at h
      · have h1 := List.sizeOf_lt_of_mem (List.mem_of_mem_drop h)
        simp
        omega
      · split at h
        · have h1 := List.sizeOf_lt_of_mem h
          simp
          omega
        · cases h
  · cases h
def preD (d : PyData) : List PyData := d :: ((partsD d).attach.map fun x => preD x.1).flatten
termination_by sizeOf d
decreasing_by exact parts_lt x.2
theorem preD_eq (d : PyData) : preD d = d :: (partsD d).flatMap preD := by
  rw [preD]
  congr 1
  rw [List.flatMap_def]
  congr 1
  rw [List.attach_map_val (f := preD)]
def hdW (d : PyData) : List Str := if kindD d = "seq" then ["seq", Str.ofString (toString ((partsD d).length : Int))] else kindD d :: labW (labD d)
def wordsD (d : PyData) : List Str := (preD d).flatMap hdW
theorem wordsD_eq (d : PyData) : wordsD d = hdW d ++ (partsD d).flatMap wordsD := by
  unfold wordsD
  rw [preD_eq, List.flatMap_cons, List.flatMap_assoc]
theorem builds_pre {m : Nat} {st : List WIt} {rows fin : List Row} (b : Builds m st rows fin) : fin.map Row.d = rows.map Row.d ++ st.flatMap (fun i => preD i.d) := by
  induction b with
  | done => simp
  | @step n it st rows fin ok h ih =>
    rw [ih, List.flatMap_append, List.flatMap_cons, preD_eq]
    have e1 : (addRow rows it.d it.par).map Row.d = rows.map Row.d ++ [it.d] := by
      apply List.ext_getElem?
      intro i
      rw [List.getElem?_map]
      rcases Nat.lt_trichotomy i rows.length with hi | hi | hi
      · rw [addRow_d hi, List.getElem?_append_left (by simpa using hi), List.getElem?_map]
      · rw [hi, addRow_new, List.getElem?_append_right (by simp)]
        simp
      · rw [List.getElem?_eq_none (by rw [addRow_len]; omega), List.getElem?_eq_none (by simp; omega)] <;> rfl
    have e2 : (newIts it rows.length).flatMap (fun i => preD i.d) = (partsD it.d).flatMap preD := by
      have : (newIts it rows.length).map WIt.d = partsD it.d := by
        apply List.ext_getElem?
        intro i
        unfold newIts
        rw [List.getElem?_map, List.getElem?_mapIdx]
        cases (partsD it.d)[i]? <;> rfl
      rw [← this, List.flatMap_map]
    rw [e1, e2]
    simp
theorem builds_words {m : Nat} {d : PyData} {fin : List Row} (b : Builds m [⟨d, none, 1, 0, 0⟩] [] fin) : fin.flatMap wordsR = wordsD d := by
  have e := builds_pre b
  simp only [List.map_nil, List.nil_append, List.flatMap_cons, List.flatMap_nil, List.append_nil] at e
  obtain ⟨ls, bi⟩ := BI.all b (BI.start d)
  unfold wordsD
  rw [← e, List.flatMap_map]
  have key : ∀ l : List Row, (∀ r ∈ l, r.ch.length = (partsD r.d).length) → l.flatMap wordsR = l.flatMap fun r => hdW r.d := fun l => by
    induction l with
    | nil => exact fun _ => rfl
    | cons a l ih =>
      intro h
      rw [List.flatMap_cons, List.flatMap_cons, ih fun r hr => h r (List.mem_cons_of_mem _ hr)]
      congr 1
      unfold wordsR hdW
      rw [h a List.mem_cons_self]
  refine key fin fun r hr => ?_
  obtain ⟨n, hn⟩ := List.mem_iff_getElem?.mp hr
  have z := congrArg List.length (bi.pt n r hn)
  simpa using z
/-! ### reading -/
def digs : List Nat := (Str.ofString "0123456789").cps.toList
def numOkL (l : List Nat) : Bool := (decide (1 ≤ l.length) && decide (l.length ≤ 3)) && ((!(l.head? == some 48)) && ((l.all fun c => decide (c ∈ digs)) && decide (NumText.digitsVal l ≤ 400)))
def numOk (x : Str) : Bool := numOkL (tl x)
def numV (x : Str) : Nat := NumText.digitsVal (tl x)
theorem num_okL : ∀ n : Fin 401, 1 ≤ n.val → numOkL (numL n.val) = true := by decide +kernel
theorem num_ok {n : Nat} (h1 : 1 ≤ n) (h2 : n ≤ 400) : numOk (Str.ofString (toString (n : Int))) = true ∧ numV (Str.ofString (toString (n : Int))) = n := by
  unfold numOk numV
  rw [TL.tl_num]
  exact ⟨num_okL ⟨n, by omega⟩ h1, TL.numL_val n⟩
inductive HdR where
  | bad (i : Nat)
  | ok (hd : List PyData) (many at_ : Nat)
def kRR : List Str := ["return", "raise"]
def kTF : List Str := ["try", "final"]
def kPrt : List (Str × Int) := [("do", 0), ("call", 0), ("if", 2), ("while", 1)]
def headW (w : Str) (i : Nat) (nx : Option Str) : HdR :=
  if w ∈ kRR then .ok [.str w] 0 (i + 1) else if w ∈ kTF then .ok [.str w] 2 (i + 1) else
    match kPrt.lookup w with
    | some m => (match nx.filter nameOk with
      | some x => .ok [.str w, .str x] m.toNat (i + 2)
      | none => .bad (i + 1))
    | none => if w = "seq" then (match nx.filter numOk with
        | some x => .ok [.str w] (numV x) (i + 2)
        | none => .bad (i + 1))
      else if w ∈ kJumps then (match nx.filter numOk with
        | some x => .ok [.str w, .int (numV x)] 0 (i + 2)
        | none => .bad (i + 1))
      else .bad i
def headAt (ws : List Str) (i : Nat) : HdR := match ws[i]? with
  | none => .bad i
  | some w => headW w i ws[i + 1]?
def isSeqH : List PyData → Bool
  | [.str k] => decide (k = "seq")
  | _ => false
def builtD (hd ps : List PyData) : PyData := if isSeqH hd = true then .tuple [.str "seq", .tuple ps] else .tuple (hd ++ ps)
structure Fr where
  hd : List PyData
  m : Nat
  ps : List PyData
def closeP : List Fr → PyData → List Fr × Option PyData
  | [], d => ([], some d)
  | f :: st, d => if f.ps.length + 1 < f.m then (⟨f.hd, f.m, f.ps ++ [d]⟩ :: st, none) else closeP st (builtD f.hd (f.ps ++ [d]))
def readP (ws : List Str) : Nat → Nat → List Fr → Nat ⊕ (PyData × Nat)
  | 0, i, _ => .inl i
  | n + 1, i, st => match headAt ws i with
    | .bad j => .inl j
    | .ok hd m i' => if 0 < m then readP ws n i' (⟨hd, m, []⟩ :: st) else
      match (closeP st (.tuple hd)).2 with
      | some d => .inr (d, i')
      | none => readP ws n i' (closeP st (.tuple hd)).1
def goP (ws : List Str) (n i : Nat) (c : List Fr × Option PyData) : Nat ⊕ (PyData × Nat) := match c.2 with
  | some d => .inr (d, i)
  | none => readP ws n i c.1
theorem readP_succ (ws : List Str) (n i : Nat) (st : List Fr) : readP ws (n + 1) i st = match headAt ws i with
    | .bad j => .inl j
    | .ok hd m i' => if 0 < m then readP ws n i' (⟨hd, m, []⟩ :: st) else goP ws n i' (closeP st (.tuple hd)) := rfl
def RdS (ws : List Str) (q : PyData) : Prop := ∀ (i n : Nat) (rest : List Str) (st : List Fr), ws.drop i = wordsD q ++ rest → readP ws (n + (preD q).length) i st = goP ws n (i + (wordsD q).length) (closeP st q)
theorem read_parts (ws : List Str) (hd : List PyData) (m : Nat) : ∀ (qs ps : List PyData) (st : List Fr) (i n : Nat) (rest : List Str), qs ≠ [] → ps.length + qs.length = m → (∀ q ∈ qs, RdS ws q) → ws.drop i = qs.flatMap wordsD ++ rest →
    readP ws (n + (qs.flatMap preD).length) i (⟨hd, m, ps⟩ :: st) = goP ws n (i + (qs.flatMap wordsD).length) (closeP st (builtD hd (ps ++ qs)))
  | [], _, _, _, _, _, h, _, _, _ => absurd rfl h
  | [q], ps, st, i, n, rest, _, hl, hq, e => by
    have z := hq q List.mem_cons_self i n rest (⟨hd, m, ps⟩ :: st) (by simpa using e)
    simp only [List.flatMap_cons, List.flatMap_nil, List.append_nil]
    rw [z]
    have : ¬ ps.length + 1 < m := by simp at hl; omega
    show goP ws n _ (if ps.length + 1 < m then _ else _) = _
    rw [if_neg this]
  | q :: q' :: qs, ps, st, i, n, rest, _, hl, hq, e => by
    have ea : (q :: q' :: qs).flatMap preD = preD q ++ (q' :: qs).flatMap preD := List.flatMap_cons
    have eb : (q :: q' :: qs).flatMap wordsD = wordsD q ++ (q' :: qs).flatMap wordsD := List.flatMap_cons
    rw [ea, eb, List.length_append, List.length_append]
    have z := hq q List.mem_cons_self i (n + ((q' :: qs).flatMap preD).length) ((q' :: qs).flatMap wordsD ++ rest) (⟨hd, m, ps⟩ :: st) (by rw [e, eb, List.append_assoc])
    have e1 : n + ((preD q).length + ((q' :: qs).flatMap preD).length) = n + ((q' :: qs).flatMap preD).length + (preD q).length := by omega
    rw [e1, z]
    have : ps.length + 1 < m := by simp at hl; omega
    show goP ws _ _ (if ps.length + 1 < m then _ else _) = _
    rw [if_pos this]
    show readP ws _ _ _ = _
    rw [read_parts ws hd m (q' :: qs) (ps ++ [q]) st (i + (wordsD q).length) n rest (by simp) (by simp at hl ⊢; omega) (fun x hx => hq x (List.mem_cons_of_mem _ hx)) (by rw [← List.drop_drop, e, eb, List.append_assoc, List.drop_left]), List.append_assoc, Nat.add_assoc]
    rfl
theorem drop_at {ws rest : List Str} {i : Nat} {a : Str} (h : ws.drop i = a :: rest) : ws[i]? = some a ∧ ws.drop (i + 1) = rest := by
  refine ⟨?_, ?_⟩
  · have := congrArg (fun l => l[0]?) h
    simpa using this
  · have := congrArg (fun l => l.drop 1) h
    simpa [List.drop_drop] using this
theorem head_one {ws rest : List Str} {i : Nat} {a : Str} (h : ws.drop i = a :: rest) : headAt ws i = headW a i ws[i + 1]? := by
  unfold headAt
  rw [(drop_at h).1]
theorem head_two {ws rest : List Str} {i : Nat} {a b : Str} (h : ws.drop i = a :: b :: rest) : headAt ws i = headW a i (some b) := by
  rw [head_one h, (drop_at (drop_at h).2).1]
theorem filt_t {p : Str → Bool} {x : Str} (h : p x = true) : (some x).filter p = some x := by simp [Option.filter, h]
/-- how a statement begins -/
theorem head_of {loops : Nat} {d : PyData} (h : isStm d (loops : Int) = true) (hl : loops ≤ 400) (hp : (partsD d).length ≤ 400) : ∃ hd, (∀ ws i rest, ws.drop i = hdW d ++ rest → headAt ws i = .ok hd (partsD d).length (i + (hdW d).length)) ∧ builtD hd (partsD d) = d ∧ (partsD d = [] → PyData.tuple hd = d) := by
  have nm : ∀ (q : Str) (x : Str) (m : Int), kPrt.lookup q = some m → ¬ q ∈ kRR → ¬ q ∈ kTF → nameOk x = true → ∀ ws i rest, ws.drop i = q :: x :: rest → headAt ws i = .ok [.str q, .str x] m.toNat (i + 2) := fun q x m e1 e2 e3 e4 ws i rest hw => by
    rw [head_two hw]
    unfold headW
    rw [if_neg e2, if_neg e3, e1, filt_t e4]
  have jm : ∀ (q : Str) (n : Int), kPrt.lookup q = none → ¬ q ∈ kRR → ¬ q ∈ kTF → ¬ q = "seq" → q ∈ kJumps → 1 ≤ n → n ≤ loops → ∀ ws i rest, ws.drop i = q :: Str.ofString (toString n) :: rest → headAt ws i = .ok [.str q, .int n] 0 (i + 2) := fun q n e1 e2 e3 e4 e5 n1 n2 ws i rest hw => by
    obtain ⟨k, rfl⟩ : ∃ k : Nat, n = (k : Int) := ⟨n.toNat, by omega⟩
    obtain ⟨g1, g2⟩ := num_ok (n := k) (by omega) (by omega)
    rw [head_two hw]
    unfold headW
    rw [if_neg e2, if_neg e3, e1, filt_t g1]
    show (if q = "seq" then _ else if q ∈ kJumps then HdR.ok [.str q, .int ((numV (Str.ofString (toString (k : Int))) : Nat) : Int)] 0 (i + 2) else _) = _
    rw [if_neg e4, if_pos e5, g2]
  cases sv_of h with
  | do_ x => exact ⟨_, fun ws i rest hw => nm "do" x 0 (by decide +kernel) (by decide +kernel) (by decide +kernel) h ws i rest hw, rfl, fun _ => rfl⟩
  | call x => exact ⟨_, fun ws i rest hw => nm "call" x 0 (by decide +kernel) (by decide +kernel) (by decide +kernel) h ws i rest hw, rfl, fun _ => rfl⟩
  | iff x a b => exact ⟨_, fun ws i rest hw => nm "if" x 2 (by decide +kernel) (by decide +kernel) (by decide +kernel) h ws i rest hw, rfl, fun z => nomatch z⟩
  | whl x a => exact ⟨_, fun ws i rest hw => nm "while" x 1 (by decide +kernel) (by decide +kernel) (by decide +kernel) h ws i rest hw, rfl, fun z => nomatch z⟩
  | seq p ps =>
    have e1 : partsD (.tuple [.str "seq", .tuple (p :: ps)]) = p :: ps := by
      have e0 : partsD (.tuple [.str "seq", .tuple (p :: ps)]) = (p :: ps).take 401 := rfl
      rw [e0, List.length_take] at hp
      rw [e0]
      exact List.take_of_length_le (by omega)
    rw [e1] at hp ⊢
    refine ⟨[.str "seq"], fun ws i rest hw => ?_, rfl, fun z => nomatch z⟩
    have hw : ws.drop i = (Str.ofString "seq") :: Str.ofString (toString ((partsD (.tuple [.str "seq", .tuple (p :: ps)])).length : Int)) :: rest := hw
    rw [e1] at hw
    obtain ⟨g1, g2⟩ := num_ok (n := (p :: ps).length) (by simp) hp
    rw [head_two hw]
    unfold headW
    have k0 : kPrt.lookup (Str.ofString "seq") = none := by decide +kernel
    rw [if_neg (by decide +kernel), if_neg (by decide +kernel), k0, filt_t g1]
    show HdR.ok [.str "seq"] (numV (Str.ofString (toString ((p :: ps).length : Int)))) (i + 2) = _
    rw [g2]
    rfl
  | brk n h1 h2 => exact ⟨_, fun ws i rest hw => jm "break" n (by decide +kernel) (by decide +kernel) (by decide +kernel) (by decide +kernel) (by decide +kernel) h1 h2 ws i rest hw, rfl, fun _ => rfl⟩
  | cnt n h1 h2 => exact ⟨_, fun ws i rest hw => jm "continue" n (by decide +kernel) (by decide +kernel) (by decide +kernel) (by decide +kernel) (by decide +kernel) h1 h2 ws i rest hw, rfl, fun _ => rfl⟩
  | ret => exact ⟨[.str "return"], fun ws i rest hw => by rw [head_one hw]; rfl, rfl, fun _ => rfl⟩
  | rai => exact ⟨[.str "raise"], fun ws i rest hw => by rw [head_one hw]; rfl, rfl, fun _ => rfl⟩
  | tr a b => exact ⟨[.str "try"], fun ws i rest hw => by rw [head_one hw]; rfl, rfl, fun z => nomatch z⟩
  | fin a b => exact ⟨[.str "final"], fun ws i rest hw => by rw [head_one hw]; rfl, rfl, fun z => nomatch z⟩
theorem okS_pos {l d b w : Nat} {e : PyData} (h : OkS l d b w e) : 1 ≤ w := by
  cases h with
  | mk => omega
theorem sum_le_of (f : Nat → Nat) : ∀ (n i : Nat), i < n → f i ≤ ((List.range n).map f).sum
  | n + 1, i, h => by
    rw [List.range_succ, List.map_append, List.sum_append]
    rcases Nat.lt_or_ge i n with z | z
    · have := sum_le_of f n i z
      omega
    · obtain rfl : i = n := by omega
      simp
theorem sum_ge_of (f : Nat → Nat) : ∀ (n : Nat), (∀ i, i < n → 1 ≤ f i) → n ≤ ((List.range n).map f).sum
  | 0, _ => Nat.zero_le _
  | n + 1, h => by
    rw [List.range_succ, List.map_append, List.sum_append]
    have := sum_ge_of f n fun i hi => h i (by omega)
    have := h n (Nat.lt_succ_self n)
    simp
    omega
theorem read_stm {loops deep blocks w : Nat} {d : PyData} (h : OkS loops deep blocks w d) : w ≤ 400 → loops + 1 ≤ deep → ∀ ws, RdS ws d := by
  induction h with
  | @mk loops deep blocks d wt st hd hb ps ih =>
    intro hw hl ws i n rest stk e
    have pos : (partsD d).length ≤ ((List.range (partsD d).length).map wt).sum := sum_ge_of wt _ fun j hj => okS_pos (ps j _ (List.getElem?_eq_getElem hj))
    obtain ⟨hdd, h1, h2, h3⟩ := head_of st (by omega) (by omega)
    rw [wordsD_eq] at e ⊢
    rw [preD_eq, List.length_cons, ← Nat.add_assoc, readP_succ, h1 ws i ((partsD d).flatMap wordsD ++ rest) (by rw [e, List.append_assoc])]
    by_cases hz : partsD d = []
    · rw [hz]
      simp only [List.length_nil, List.flatMap_nil, Nat.add_zero, List.append_nil]
      rw [if_neg (by omega), h3 hz]
    · have lp : 0 < (partsD d).length := List.length_pos_iff.mpr hz
      show (if 0 < (partsD d).length then _ else _) = _
      rw [if_pos lp, read_parts ws hdd (partsD d).length (partsD d) [] stk _ n rest hz (by simp) (fun q hq => ?_) (by rw [← List.drop_drop, e, List.append_assoc, List.drop_left]), List.nil_append, h2, List.length_append, Nat.add_assoc]
      obtain ⟨j, hj⟩ := List.mem_iff_getElem?.mp hq
      have jl := (List.getElem?_eq_some_iff.mp hj).1
      have := sum_le_of wt _ j jl
      refine ih j q hj (by omega) ?_ ws
      have : wl d ≤ 1 := by unfold wl; split <;> omega
      omega
def readAll (ws : List Str) : Nat ⊕ PyData := match readP ws (ws.length + 1) 0 [] with
  | .inl j => .inl j
  | .inr (d, i) => if i < ws.length then .inl i else .inr d
theorem readP_more {ws : List Str} : ∀ {n : Nat} {i : Nat} {st : List Fr} {r : PyData × Nat} (m : Nat), readP ws n i st = .inr r → readP ws (n + m) i st = .inr r
  | 0, _, _, _, _, h => by cases h
  | n + 1, i, st, r, m, h => by
    have e : n + 1 + m = n + m + 1 := by omega
    rw [e]
    rw [readP_succ] at h ⊢
    cases hh : headAt ws i with
    | bad j => rw [hh] at h; cases h
    | ok hd k i' =>
      rw [hh] at h
      replace h : (if 0 < k then readP ws n i' (⟨hd, k, []⟩ :: st) else goP ws n i' (closeP st (.tuple hd))) = .inr r := h
      show (if 0 < k then readP ws (n + m) i' (⟨hd, k, []⟩ :: st) else goP ws (n + m) i' (closeP st (.tuple hd))) = .inr r
      by_cases hk : 0 < k
      · rw [if_pos hk] at h ⊢
        exact readP_more m h
      · rw [if_neg hk] at h ⊢
        unfold goP at h ⊢
        cases hc : (closeP st (.tuple hd)).2 with
        | some d => rw [hc] at h; exact h
        | none =>
          rw [hc] at h
          exact readP_more m h
theorem hdW_pos (d : PyData) : 1 ≤ (hdW d).length := by
  unfold hdW
  split <;> simp
theorem pre_le_words (d : PyData) : (preD d).length ≤ (wordsD d).length := by
  unfold wordsD
  generalize preD d = l
  induction l with
  | nil => exact Nat.le_refl _
  | cons a l ih =>
    rw [List.flatMap_cons, List.length_append, List.length_cons]
    have := hdW_pos a
    omega
theorem read_back {blocks w : Nat} {d : PyData} (h : OkS 0 1 blocks w d) (hw : w ≤ 400) : readAll (wordsD d) = .inr d := by
  have z := read_stm h hw (by omega) (wordsD d) 0 0 [] [] (by simp)
  rw [Nat.zero_add] at z
  have z2 := readP_more ((wordsD d).length + 1 - (preD d).length) (z.trans (show goP _ 0 _ (closeP [] d) = .inr (d, (wordsD d).length) from by rw [Nat.zero_add]; rfl))
  unfold readAll
  have e : (preD d).length + ((wordsD d).length + 1 - (preD d).length) = (wordsD d).length + 1 := by have := pre_le_words d; omega
  rw [e] at z2
  rw [z2]
  show (if (wordsD d).length < (wordsD d).length then _ else _) = _
  rw [if_neg (Nat.lt_irrefl _)]

end Fc

set_option maxRecDepth 100000
set_option maxHeartbeats 4000000
namespace Fc
open PySem PySem.Spec PyProof.Rows L2 FcR
open Evl (Ex)
/-! ### the law's words -/
theorem pre_len {loops deep blocks w : Nat} {d : PyData} (h : OkS loops deep blocks w d) : (preD d).length = w := by
  induction h with
  | @mk loops deep blocks d wt st hd hb ps ih =>
    rw [preD_eq, List.length_cons, List.length_flatMap]
    have key : (partsD d).map (fun a => (preD a).length) = (List.range (partsD d).length).map wt := by
      apply List.ext_getElem?
      intro i
      rw [List.getElem?_map, List.getElem?_map]
      rcases Nat.lt_or_ge i (partsD d).length with hi | hi
      · rw [List.getElem?_eq_getElem hi, List.getElem?_range hi]
        exact congrArg some (ih i _ (List.getElem?_eq_getElem hi))
      · rw [List.getElem?_eq_none hi, List.getElem?_eq_none (by simpa using hi)] <;> rfl
    rw [key]
    omega
theorem okS_st {l d b w : Nat} {e : PyData} (h : OkS l d b w e) : isStm e (l : Int) = true := by
  cases h with
  | mk _ st _ _ _ => exact st
theorem hdW_le (d : PyData) : (hdW d).length ≤ 2 := by
  unfold hdW
  split
  · simp
  · rcases labD_is d with z | ⟨x, z⟩ | ⟨k, z⟩ <;> rw [z] <;> simp [labW]
theorem words_le_pre (d : PyData) : (wordsD d).length ≤ 2 * (preD d).length := by
  unfold wordsD
  generalize preD d = l
  induction l with
  | nil => exact Nat.le_refl _
  | cons a l ih =>
    rw [List.flatMap_cons, List.length_append, List.length_cons]
    have := hdW_le a
    omega

end Fc

set_option maxRecDepth 100000
set_option maxHeartbeats 4000000
namespace Fc
open PySem PySem.Spec PyProof.Rows L2 FcR
open Evl (Ex)
/-! ### the law's words: the walk -/
def sp_lwords (K : PySem.W.Frag) (n : Nat) : Sp := fun vs H Q _ => ∃ (F : Hp) (v : V) (d : PyData) (loops deep blocks w : Nat), vs = [v] ∧ Ex F H ∧ Dp K F v d ∧ OkS loops deep blocks w d ∧ w ≤ 400 ∧ loops + 1 ≤ deep ∧ 101 ≤ n + deep ∧
  ∀ (H' : Hp) (a : Addr), Ex H H' → H a = none → H' a = some (.lst ((wordsD d).map V.str)) → Q (.ref a) H'
theorem k_tupS {K : PySem.W.Frag} {x : Str} : PySem.W.kitOne K (.type (tyD (.str x))) (.type "tuple") = some false := k_tuple (.str x)
section
variable {P : Program} {w : World} {h : Heap} {K : PySem.W.Frag} {mg : Str → Option Value} {base : Heap}
theorem lw_pre (n : Nat) (IH : ∀ m, m < n → Ok P w K mg base (m + 2) ("_law_words", none) ["_law_statement_here"] (sp_lwords K m)) (T : Tx w h K mg) :
    Ok P w K mg base (n + 1) ("_law_words", none) ["_law_statement_here"] (fun vs H Q E => ∃ m, m < n ∧ sp_lwords K m vs H Q E) := by
  cases n with
  | zero =>
    obtain ⟨fd, F⟩ := F_law_words T
    refine ⟨fd, ⟨fun vs H Q E h => ?_, fun A outer s H args us vs Q E _ _ _ _ h => ?_⟩, F.bindsN (fun _ _ _ _ _ _ us hl => match us, hl with | [_], _ => rfl), F.kp⟩
    · obtain ⟨m, h, _⟩ := h
      exact absurd h (Nat.not_lt_zero _)
    · obtain ⟨m, h, _⟩ := h
      exact absurd h (Nat.not_lt_zero _)
  | succ n =>
    obtain ⟨fd, G, b, kp⟩ := IH n (Nat.lt_succ_self _)
    refine ⟨fd, G.imp fun vs H Q E h => ?_, b, kp⟩
    obtain ⟨m, hm, F, v, d, l, dp, bl, w, e, x, dv, ok, hw, hl, hn, q⟩ := h
    exact ⟨F, v, d, l, dp, bl, w, e, x, dv, ok, hw, hl, by omega, q⟩
abbrev N_law_words : List Str := ["_law_statement_here", "_law_head", "_law_part"]
theorem sc_law_words : FnScope N_law_words ["_law_statement_here"] (defScope sd_law_words) := ⟨rfl, rfl, rfl, by decide +kernel, rfl, by decide +kernel, by decide +kernel⟩
theorem ok_law_words (n : Nat) (IH : ∀ m, m < n → Ok P w K mg base (m + 2) ("_law_words", none) ["_law_statement_here"] (sp_lwords K m)) (T : Tx w h K mg) : Ok P w K mg base (n+2) ("_law_words", none) ["_law_statement_here"] (sp_lwords K n) := by
  obtain ⟨fd, F⟩ := F_law_words T
  refine ⟨fd, ?_, F.bindsN (fun _ _ _ _ _ _ us hl => match us, hl with | [_], _ => rfl), F.kp⟩
  obtain ⟨fd_law_parts, G_law_parts, bi_law_parts, kp_law_parts⟩ := ok_law_parts (P := P) (base := base) T
  obtain ⟨fd_law_words, G_law_words, bi_law_words, kp_law_words⟩ : Ok P w K mg base (n + 1) ("_law_words", none) ["_law_statement_here"] (fun vs H Q E => ∃ m, m < n ∧ sp_lwords K m vs H Q E) := lw_pre n IH T
  refine F.ok sc_law_words (fun vs H Q E h => ?_) (fun cdv A outer s H vs Q E hr h => ?_)
  · obtain ⟨F, v, d, loops, deep, blocks, wt, rfl, xF, dv, ok, hw, hlp, hn, q⟩ := h
    rfl
  · obtain ⟨F, v, d, loops, deep, blocks, wt, rfl, xF, dv, ok, hw, hlp, hn, q⟩ := h
    refine ⟨_, PSs.nox (pss_cons (ps_set (i := 1) sc_law_words.nd rfl (Or.inl rfl) (pe_lst (pa_cons (pe_ix ix_tup (pv 0) pe_int (fun _ _ => rfl)) pa_nil))) (Evl.pss_cut (ps_if (pt_cmpR op_eq (pe_ix ix_tup (pv 0) pe_int (fun _ _ => rfl)) pe_str (nomark _)) (pss_one (ps_expr (pe_bm PySem.F.plainAttrs_list PySem.F.slot_list_append PySem.F.type_list_append mt_append (pv 1) (pa_cons (pe_callTy call_str_int rfl (fr_str T) b_str (pa_cons (pe_callB call_len_seq rfl (fr_len T) b_len (pa_cons (pe_ix ix_tup (pv 0) pe_int (fun _ _ => rfl)) pa_nil)) pa_nil)) pa_nil)))) (pss_one (ps_if (PW.pt (pw_and (pt_cmpR op_gt (pe_callB call_len_seq rfl (fr_len T) b_len (pa_cons (pv 0) pa_nil)) pe_int (nomark _)) (pw_and1 (pt_not (pt_val (pe_callB call_isi rfl (fr_isinstance T) b_isinstance (pa_cons (pe_ix ix_tup (pv 0) pe_int (fun _ _ => rfl)) (pa_cons (pe_bltn (v := .ty "tuple") rfl (fr_tuple T) b_tuple rfl) pa_nil)))))))) (pss_one (ps_expr (pe_bm PySem.F.plainAttrs_list PySem.F.slot_list_append PySem.F.type_list_append mt_append (pv 1) (pa_cons (pe_callTy call_strIS rfl (fr_str T) b_str (pa_cons (pe_ix ix_tup (pv 0) pe_int (fun _ _ => rfl)) pa_nil)) pa_nil)))) pss_nil))) (pss_cons (ps_for PassesOwn.never rfl (pi_list (pe_call G_law_parts (hr.mono (by omega)) rfl (g_law_parts T) kp_law_parts bi_law_parts .nil passF (pa_cons (pv 0) pa_nil))) (pg_name (i := 2) sc_law_words.nd rfl (Or.inl rfl)) (pss_one (ps_expr (pe_bm PySem.F.plainAttrs_list PySem.F.slot_list_extend PySem.F.type_list_extend mt_extend (pv 1) (pa_cons (pe_call G_law_words (hr.mono (by omega)) rfl (g_law_words T) kp_law_words bi_law_words .nil passF (pa_cons (pv 2) pa_nil)) pa_nil))))) (pss_one (ps_ret (pv 1)))))), ?_⟩
    have ok' := ok
    cases ok' with
    | @mk _ _ _ _ wf st hd hb ps =>
    obtain ⟨k, r, rfl⟩ : ∃ k r, d = .tuple (.str k :: r) := by cases sv_of st <;> exact ⟨_, _, rfl⟩
    obtain ⟨a, xs, rfl, hS0, hA⟩ := dp_tup dv
    have hS := Evl.ex_t xF hS0
    cases hA with
    | @cons v0 xr _ _ h0 hA =>
    obtain rfl := dp_str h0
    have pl : (partsD (.tuple (.str k :: r))).length ≤ 400 := by
      have := sum_ge_of wf (partsD (.tuple (.str k :: r))).length fun j hj => okS_pos (ps j _ (List.getElem?_eq_getElem hj))
      omega
    have wl2 := words_le_pre (.tuple (.str k :: r))
    rw [pre_len ok] at wl2
    refine ⟨_, rfl, a, _, _, _, rfl, rfl, hS, at0, sz (by simp), ?_⟩
    intro p1 n1
    generalize e1 : upd _ p1 _ = H1
    obtain ⟨x1, s1, o1⟩ := new_of e1 n1
    clear e1
    have hS1 := Evl.ex_t x1 hS
    refine ⟨fun σ' H' => σ' = [some (.ref a), some (.ref p1), none] ∧ Ex H H' ∧ H' p1 = some (.lst ((hdW (.tuple (.str k :: r))).map V.str)), ?_, ?_⟩
    · have lone : ∀ {H2 : Hp}, H2 = H1 → hdW (.tuple (.str k :: r)) = [k] → Ex H H2 ∧ H2 p1 = some (.lst ((hdW (.tuple (.str k :: r))).map V.str)) := fun {H2} e1 e2 => by
        rw [e1, e2]
        exact ⟨x1, s1⟩
      have two : ∀ {x : Str} {H2 : Hp}, H2 p1 = some (.lst [.str k, .str x]) → (∀ b, b ≠ p1 → H2 b = H1 b) → hdW (.tuple (.str k :: r)) = [k, x] → Ex H H2 ∧ H2 p1 = some (.lst ((hdW (.tuple (.str k :: r))).map V.str)) := fun {x H2} e1 e2 e3 => by
        rw [e3]
        refine ⟨fun b o e => ?_, e1⟩
        rw [e2 b (ne_of_none e n1)]
        exact x1 _ _ e
      have hq : k = "seq" ∨ k ≠ "seq" := Decidable.em _
      rcases hq with hq | hq
      · subst hq
        cases sv_of st with
        | seq p qs =>
        cases hA with
        | @cons v1 xr2 _ _ g1 hA =>
        obtain ⟨b, ys, rfl, gS, gA⟩ := dp_tup g1
        have gS1 := Evl.ex_t (xF.trans x1) gS
        have eP : partsD (.tuple [.str "seq", .tuple (p :: qs)]) = p :: qs := by
          have e0 : partsD (.tuple [.str "seq", .tuple (p :: qs)]) = (p :: qs).take 401 := rfl
          rw [e0, List.length_take] at pl
          rw [e0]
          exact List.take_of_length_le (by omega)
        have ly := dpA_len gA
        refine ⟨_, rfl, a, _, _, _, rfl, rfl, hS1, at0, rfl, _, rfl, itT rfl ?_⟩
        refine ⟨_, rfl, Or.inl ⟨rfl, _, Evl.sq_of s1⟩, _, rfl, a, _, _, _, rfl, rfl, hS1, at1, b, _, rfl, .inr gS1, _, rfl, ?_, ?_⟩
        · rw [ly]
          rw [eP] at pl
          exact log2_le (by omega)
        refine ⟨p1, _, _, rfl, rfl, s1, szl (by simp), ?_⟩
        generalize e2 : upd _ p1 _ = H2
        obtain ⟨s2, o2⟩ := set_of e2
        clear e2
        refine ⟨rfl, two (x := Str.ofString (toString (ys.length : Int))) s2 o2 ?_⟩
        show [Str.ofString "seq", Str.ofString (toString ((partsD (.tuple [.str "seq", .tuple (p :: qs)])).length : Int))] = _
        rw [eP, ly]
      · have hk2 : hdW (.tuple (.str k :: r)) = k :: labW (labD (.tuple (.str k :: r))) := if_neg hq
        refine ⟨_, rfl, a, _, _, _, rfl, rfl, hS1, at0, rfl, _, rfl, itF (decide_eq_false fun z => hq (V.str.inj z)) ?_⟩
        cases sv_of st with
        | seq p qs => exact absurd rfl hq
        | ret =>
          cases hA
          refine ⟨_, rfl, a, _, rfl, .inr hS1, _, _, rfl, rfl, _, rfl, itF rfl ?_⟩
          exact ⟨rfl, lone rfl rfl⟩
        | rai =>
          cases hA
          refine ⟨_, rfl, a, _, rfl, .inr hS1, _, _, rfl, rfl, _, rfl, itF rfl ?_⟩
          exact ⟨rfl, lone rfl rfl⟩
        | do_ x =>
          cases hA with
          | @cons v1 xr2 _ _ g1 hA =>
          obtain rfl := dp_str g1
          refine ⟨_, rfl, a, _, rfl, .inr hS1, _, _, rfl, rfl, _, rfl, itT (decide_eq_true (by simp; omega)) ?_⟩
          refine ⟨_, rfl, a, _, _, _, rfl, rfl, hS1, at1, .str x, .ty "tuple", _, _, _, rfl, .ty _, dp_ty (Dp.str (K := K) (H := H1) x), k_tuple (.str x), _, rfl, itT rfl ?_⟩
          refine ⟨_, rfl, Or.inl ⟨rfl, _, Evl.sq_of s1⟩, _, rfl, a, _, _, _, rfl, rfl, hS1, at1, .inr ⟨_, rfl, ?_⟩⟩
          refine ⟨p1, _, _, rfl, rfl, s1, szl (by simp), ?_⟩
          generalize e2 : upd _ p1 _ = H2
          obtain ⟨s2, o2⟩ := set_of e2
          clear e2
          exact ⟨rfl, two s2 o2 rfl⟩
        | call x =>
          cases hA with
          | @cons v1 xr2 _ _ g1 hA =>
          obtain rfl := dp_str g1
          refine ⟨_, rfl, a, _, rfl, .inr hS1, _, _, rfl, rfl, _, rfl, itT (decide_eq_true (by simp; omega)) ?_⟩
          refine ⟨_, rfl, a, _, _, _, rfl, rfl, hS1, at1, .str x, .ty "tuple", _, _, _, rfl, .ty _, dp_ty (Dp.str (K := K) (H := H1) x), k_tuple (.str x), _, rfl, itT rfl ?_⟩
          refine ⟨_, rfl, Or.inl ⟨rfl, _, Evl.sq_of s1⟩, _, rfl, a, _, _, _, rfl, rfl, hS1, at1, .inr ⟨_, rfl, ?_⟩⟩
          refine ⟨p1, _, _, rfl, rfl, s1, szl (by simp), ?_⟩
          generalize e2 : upd _ p1 _ = H2
          obtain ⟨s2, o2⟩ := set_of e2
          clear e2
          exact ⟨rfl, two s2 o2 rfl⟩
        | iff x b1 b2 =>
          cases hA with
          | @cons v1 xr2 _ _ g1 hA =>
          obtain rfl := dp_str g1
          refine ⟨_, rfl, a, _, rfl, .inr hS1, _, _, rfl, rfl, _, rfl, itT (decide_eq_true (by simp; omega)) ?_⟩
          refine ⟨_, rfl, a, _, _, _, rfl, rfl, hS1, at1, .str x, .ty "tuple", _, _, _, rfl, .ty _, dp_ty (Dp.str (K := K) (H := H1) x), k_tuple (.str x), _, rfl, itT rfl ?_⟩
          refine ⟨_, rfl, Or.inl ⟨rfl, _, Evl.sq_of s1⟩, _, rfl, a, _, _, _, rfl, rfl, hS1, at1, .inr ⟨_, rfl, ?_⟩⟩
          refine ⟨p1, _, _, rfl, rfl, s1, szl (by simp), ?_⟩
          generalize e2 : upd _ p1 _ = H2
          obtain ⟨s2, o2⟩ := set_of e2
          clear e2
          exact ⟨rfl, two s2 o2 rfl⟩
        | whl x b1 =>
          cases hA with
          | @cons v1 xr2 _ _ g1 hA =>
          obtain rfl := dp_str g1
          refine ⟨_, rfl, a, _, rfl, .inr hS1, _, _, rfl, rfl, _, rfl, itT (decide_eq_true (by simp; omega)) ?_⟩
          refine ⟨_, rfl, a, _, _, _, rfl, rfl, hS1, at1, .str x, .ty "tuple", _, _, _, rfl, .ty _, dp_ty (Dp.str (K := K) (H := H1) x), k_tuple (.str x), _, rfl, itT rfl ?_⟩
          refine ⟨_, rfl, Or.inl ⟨rfl, _, Evl.sq_of s1⟩, _, rfl, a, _, _, _, rfl, rfl, hS1, at1, .inr ⟨_, rfl, ?_⟩⟩
          refine ⟨p1, _, _, rfl, rfl, s1, szl (by simp), ?_⟩
          generalize e2 : upd _ p1 _ = H2
          obtain ⟨s2, o2⟩ := set_of e2
          clear e2
          exact ⟨rfl, two s2 o2 rfl⟩
        | brk n0 h1 h2 =>
          cases hA with
          | @cons v1 xr2 _ _ g1 hA =>
          obtain rfl := dp_int g1
          refine ⟨_, rfl, a, _, rfl, .inr hS1, _, _, rfl, rfl, _, rfl, itT (decide_eq_true (by simp; omega)) ?_⟩
          refine ⟨_, rfl, a, _, _, _, rfl, rfl, hS1, at1, .int n0, .ty "tuple", _, _, _, rfl, .ty _, dp_ty (Dp.int (K := K) (H := H1) n0), k_tuple (.int n0), _, rfl, itT rfl ?_⟩
          refine ⟨_, rfl, Or.inl ⟨rfl, _, Evl.sq_of s1⟩, _, rfl, a, _, _, _, rfl, rfl, hS1, at1, .inl ⟨_, rfl, log2_le (by omega), ?_⟩⟩
          refine ⟨p1, _, _, rfl, rfl, s1, szl (by simp), ?_⟩
          generalize e2 : upd _ p1 _ = H2
          obtain ⟨s2, o2⟩ := set_of e2
          clear e2
          exact ⟨rfl, two s2 o2 rfl⟩
        | cnt n0 h1 h2 =>
          cases hA with
          | @cons v1 xr2 _ _ g1 hA =>
          obtain rfl := dp_int g1
          refine ⟨_, rfl, a, _, rfl, .inr hS1, _, _, rfl, rfl, _, rfl, itT (decide_eq_true (by simp; omega)) ?_⟩
          refine ⟨_, rfl, a, _, _, _, rfl, rfl, hS1, at1, .int n0, .ty "tuple", _, _, _, rfl, .ty _, dp_ty (Dp.int (K := K) (H := H1) n0), k_tuple (.int n0), _, rfl, itT rfl ?_⟩
          refine ⟨_, rfl, Or.inl ⟨rfl, _, Evl.sq_of s1⟩, _, rfl, a, _, _, _, rfl, rfl, hS1, at1, .inl ⟨_, rfl, log2_le (by omega), ?_⟩⟩
          refine ⟨p1, _, _, rfl, rfl, s1, szl (by simp), ?_⟩
          generalize e2 : upd _ p1 _ = H2
          obtain ⟨s2, o2⟩ := set_of e2
          clear e2
          exact ⟨rfl, two s2 o2 rfl⟩
        | tr b1 b2 =>
          cases hA with
          | @cons v1 xr2 _ _ g1 hA =>
          have ok1 := ps 0 b1 rfl
          obtain ⟨e1, rfl⟩ : ∃ e, b1 = .tuple e := by cases sv_of (okS_st ok1) <;> exact ⟨_, rfl⟩
          refine ⟨_, rfl, a, _, rfl, .inr hS1, _, _, rfl, rfl, _, rfl, itT (decide_eq_true (by simp; omega)) ?_⟩
          refine ⟨_, rfl, a, _, _, _, rfl, rfl, hS1, at1, v1, .ty "tuple", _, _, _, rfl, .ty _, dp_ty (dp_ex (xF.trans x1) g1), k_tuple _, _, rfl, itF rfl ?_⟩
          exact ⟨rfl, lone rfl rfl⟩
        | fin b1 b2 =>
          cases hA with
          | @cons v1 xr2 _ _ g1 hA =>
          have ok1 := ps 0 b1 rfl
          obtain ⟨e1, rfl⟩ : ∃ e, b1 = .tuple e := by cases sv_of (okS_st ok1) <;> exact ⟨_, rfl⟩
          refine ⟨_, rfl, a, _, rfl, .inr hS1, _, _, rfl, rfl, _, rfl, itT (decide_eq_true (by simp; omega)) ?_⟩
          refine ⟨_, rfl, a, _, _, _, rfl, rfl, hS1, at1, v1, .ty "tuple", _, _, _, rfl, .ty _, dp_ty (dp_ex (xF.trans x1) g1), k_tuple _, _, rfl, itF rfl ?_⟩
          exact ⟨rfl, lone rfl rfl⟩
    · rintro σ' H2 ⟨rfl, x2, l2⟩
      have hpn : H p1 = none := n1
      refine ⟨_, rfl, F, .ref a, .tuple (.str k :: r), loops, rfl, xF.trans x2, dv, sv_of st, pl, fun pp ys H3 npp x3 h3 da => ?_⟩
      have ly := dpA_len da
      have pp1 : pp ≠ p1 := fun z => by rw [z, l2] at npp; cases npp
      have Hpp : H pp = none := ex_none x2 npp
      refine ⟨pp, rfl, ⟨_, Evl.sq_of h3⟩, ?_⟩
      refine for_it (walk_list (xs := ys)) (fun i σ' H' => ∃ o2, σ' = [some (.ref a), some (.ref p1), o2] ∧ Ex F H' ∧ Ex H H' ∧ H' pp = some (.lst ys) ∧ H' p1 = some (.lst ((hdW (.tuple (.str k :: r)) ++ ((partsD (.tuple (.str k :: r))).take i).flatMap wordsD).map V.str))) ?_ ?_ ?_ ?_
      · exact ⟨_, rfl, xF.trans (x2.trans x3), x2.trans x3, h3, by rw [x3 _ _ l2]; simp⟩
      · exact fun i σ' H' _ ⟨_, _, _, _, h, _⟩ => Evl.sq_of h
      · rintro i vi σ' Ha H4 hi ⟨o2, rfl, xF4, x4, hp4, l4⟩ ⟨rfl, hv⟩
        have hi : i < (partsD (.tuple (.str k :: r))).length := by rw [← ly]; exact hi
        obtain ⟨q1, hq1⟩ : ∃ q1, (partsD (.tuple (.str k :: r)))[i]? = some q1 := ⟨_, List.getElem?_eq_getElem hi⟩
        obtain ⟨vi', hv', dq⟩ := dpA_get da hq1
        obtain rfl : vi = vi' := Option.some.inj ((show ys[i]? = some vi from hv).symm.trans hv')
        refine ⟨_, rfl, Or.inl ⟨rfl, _, Evl.sq_of l4⟩, _, rfl, n - 1, ?_, F, vi, q1, _, deep + 1, _, _, rfl, xF4, dq, ps i q1 hq1, ?_, ?_, ?_, fun H5 a5 x5 n5 l5 => ?_⟩
        · omega
        · have := sum_le_of wf _ i hi
          omega
        · have : wl (.tuple (.str k :: r)) ≤ 1 := by unfold wl; split <;> omega
          omega
        · omega
        have e5 : ((partsD (.tuple (.str k :: r))).take (i + 1)).flatMap wordsD = ((partsD (.tuple (.str k :: r))).take i).flatMap wordsD ++ wordsD q1 := by
          rw [List.take_add_one, hq1, List.flatMap_append]
          simp
        have bnd : (hdW (.tuple (.str k :: r))).length + (((partsD (.tuple (.str k :: r))).take (i + 1)).flatMap wordsD).length ≤ (wordsD (.tuple (.str k :: r))).length := by
          rw [wordsD_eq, List.length_append]
          have e6 : (partsD (.tuple (.str k :: r))).flatMap wordsD = ((partsD (.tuple (.str k :: r))).take (i + 1)).flatMap wordsD ++ ((partsD (.tuple (.str k :: r))).drop (i + 1)).flatMap wordsD := by rw [← List.flatMap_append, List.take_append_drop]
          rw [e6, List.length_append]
          omega
        rw [e5, List.length_append] at bnd
        refine ⟨p1, a5, _, _, rfl, rfl, x5 _ _ l4, l5, sz (by simp only [List.length_append, List.length_map]; omega), ?_⟩
        generalize e6 : upd _ p1 _ = H6
        obtain ⟨s6, o6⟩ := set_of e6
        clear e6
        have p5 : a5 ≠ p1 := fun z => by rw [z, l4] at n5; cases n5
        refine ⟨_, rfl, ?_, ?_, ?_, ?_⟩
        · exact set_ex (xF4.trans x5) (ex_none xF hpn) o6
        · exact set_ex (x4.trans x5) hpn o6
        · rw [o6 pp pp1]; exact x5 _ _ hp4
        · rw [s6, e5]
          simp
      · rintro σ' H4 ⟨o2, rfl, xF4, x4, hp4, l4⟩
        have l4 : H4 p1 = some (.lst ((hdW (.tuple (.str k :: r)) ++ ((partsD (.tuple (.str k :: r))).take ys.length).flatMap wordsD).map V.str)) := l4
        rw [ly, List.take_length, ← wordsD_eq] at l4
        exact ⟨_, rfl, q H4 p1 x4 hpn l4⟩
theorem ok_lwords (T : Tx w h K mg) (n : Nat) : Ok P w K mg base (n + 2) ("_law_words", none) ["_law_statement_here"] (sp_lwords K n) := by
  induction n using Nat.strongRecOn with
  | ind n ih => exact ok_law_words n ih T
end

end Fc

set_option maxRecDepth 100000
set_option maxHeartbeats 4000000
namespace Fc
open PySem PySem.Spec PyProof.Rows L2 FcR
open Evl (Ex)
/-! ### name_at, number_at, head_at, built -/
open TL (tl)
def Lens (ws : List Str) : Prop := ∀ x ∈ ws, x.length ≤ 100000
def sp_name_at (K : PySem.W.Frag) : Sp := fun vs H Q E => ∃ (a : Addr) (ws : List Str) (i : Nat), vs = [.ref a, .int (i : Int)] ∧ SqL K H a (ws.map V.str) ∧ i ≤ ws.length ∧ Lens ws ∧
  (match ws[i]?.filter nameOk with
    | some x => ∀ H', Ex H H' → Q (.str x) H'
    | none => RaisesA K "InvalidText" "at" H (.int (i : Int)) E)
def sp_number_at (K : PySem.W.Frag) : Sp := fun vs H Q E => ∃ (a : Addr) (ws : List Str) (i : Nat), vs = [.ref a, .int (i : Int)] ∧ SqL K H a (ws.map V.str) ∧ i ≤ ws.length ∧ Lens ws ∧
  (match ws[i]?.filter numOk with
    | some x => ∀ H', Ex H H' → Q (.int (numV x : Int)) H'
    | none => RaisesA K "InvalidText" "at" H (.int (i : Int)) E)
def sp_head_at (K : PySem.W.Frag) : Sp := fun vs H Q E => ∃ (F : Hp) (a : Addr) (ws : List Str) (i : Nat), vs = [.ref a, .int (i : Int)] ∧ Ex F H ∧ SqL K H a (ws.map V.str) ∧ i ≤ ws.length ∧ Lens ws ∧
  (match headAt ws i with
    | .ok hd m i' => ∀ (F' H' : Hp) (t h : Addr), Gr (fun _ => False) F H F' H' → H t = none → F' t = none → H' t = some (.tup [.ref h, .int (m : Int), .int (i' : Int)]) → Dp K F' (.ref h) (.tuple hd) → Q (.ref t) H'
    | .bad j => RaisesA K "InvalidText" "at" H (.int (j : Int)) E)
theorem ws_at {ws : List Str} {i : Nat} {x : Str} (h : ws[i]? = some x) : (ws.map V.str)[i]? = some (.str x) := by
  rw [List.getElem?_map, h] <;> rfl
theorem bf {b : Bool} (h : (!b) = true) : b = false := by cases b <;> first | rfl | cases h
theorem bt {b : Bool} (h : (!b) = false) : b = true := by cases b <;> first | rfl | cases h
theorem filt_f {p : Str → Bool} {x : Str} (h : p x = false) : (some x).filter p = none := by simp [Option.filter, h]
theorem starts0 {x : Str} (h : 1 ≤ x.length) : Txt.startswith x "0" = ((tl x).head? == some 48) := by
  obtain ⟨c, r, e⟩ : ∃ c r, tl x = c :: r := by
    rw [TL.len_tl] at h
    cases z : tl x with
    | nil => rw [z] at h; simp at h
    | cons c r => exact ⟨c, r, rfl⟩
  have ex : x = ⟨(c :: r).toArray⟩ := TL.ext_tl e
  subst ex
  have e0 : ("0" : Str) = ⟨#[48]⟩ := by decide +kernel
  rw [e0]
  unfold Txt.startswith Builtin.Str.subAt
  simp [Str.length, TL.tl]
  try rfl
theorem nameOk_eq (x : Str) : nameOk x = ((decide ((1 : Int) ≤ x.length) && decide ((x.length : Int) ≤ 8)) && x.cps.toList.all fun c => decide (c ∈ letters)) := rfl
theorem numOk_eq (x : Str) : numOk x = ((decide ((1 : Int) ≤ x.length) && decide ((x.length : Int) ≤ 3)) && ((!((tl x).head? == some 48)) && (((tl x).all fun c => decide (c ∈ digs)) && decide (numV x ≤ 400)))) := by
  unfold numOk numOkL numV
  rw [TL.len_tl]
  have e1 : decide (1 ≤ (tl x).length) = decide ((1 : Int) ≤ ((tl x).length : Int)) := by congr 1; simp; omega
  have e2 : decide ((tl x).length ≤ 3) = decide (((tl x).length : Int) ≤ 3) := by congr 1; simp; omega
  rw [e1, e2]
theorem digs_all {x : Str} (h : ((tl x).all fun c => decide (c ∈ digs)) = true) : NumText.AllDigits (tl x) := fun c hc => by
  have z := of_decide_eq_true (List.all_eq_true.mp h c hc)
  have e : digs = [48, 49, 50, 51, 52, 53, 54, 55, 56, 57] := by decide +kernel
  rw [e] at z
  simp at z
  omega
section
variable {P : Program} {w : World} {h : Heap} {K : PySem.W.Frag} {mg : Str → Option Value} {base : Heap}
abbrev N_name_at : List Str := ["words", "at", "sign"]
theorem sc_name_at : FnScope N_name_at ["words", "at"] (defScope sd_name_at) := ⟨rfl, rfl, rfl, by decide +kernel, rfl, by decide +kernel, by decide +kernel⟩
theorem ok_name_at (T : Tx w h K mg) : Ok P w K mg base 3 ("name_at", none) ["words", "at"] (sp_name_at K) := by
  obtain ⟨fd, F⟩ := F_name_at T
  refine ⟨fd, ?_, F.bindsN (fun _ _ _ _ _ _ us hl => match us, hl with | [_, _], _ => rfl), F.kp⟩
  obtain ⟨fd_InvalidText___init__, G_InvalidText___init__, bi_InvalidText___init__, kp_InvalidText___init__, FD_InvalidText___init__⟩ := okF_InvalidText___init__ (P := P) (base := base) T
  obtain ⟨tm_LETTERS_texts, m_LETTERS_texts⟩ := i_LETTERS_texts T
  obtain ⟨tm_MOST_LETTERS_texts, m_MOST_LETTERS_texts⟩ := i_MOST_LETTERS_texts T
  refine F.ok sc_name_at (fun vs H Q E h => ?_) (fun cdv A outer s H vs Q E hr h => ?_)
  · obtain ⟨a, ws, i, rfl, hs, hi, hz, alt⟩ := h
    rfl
  · obtain ⟨a, ws, i, rfl, hs, hi, hz, alt⟩ := h
    refine ⟨_, (pss_cons (ps_if (PW.pt (pw_or (pt_cmpR op_eq (pv 1) (pe_callB call_len_seq rfl (fr_len T) b_len (pa_cons (pv 0) pa_nil)) (nomark _)) (pw_or1 (pt_not (pt_chain op_le op_le pe_int (pe_callB call_len_str rfl (fr_len T) b_len (pa_cons (pe_ix ix_list (pv 0) (pv 1) (fun _ _ => rfl)) pa_nil)) (pe_glob (v := .int 8) rfl m_MOST_LETTERS_texts ⟨_, rfl⟩)))))) (pss_one (ps_raise rfl (takes_of rfl rfl rfl rfl) (FcX.pmk_X (x_InvalidText T) (xi_InvalidText T) G_InvalidText___init__ (hr.mono (by decide)) bi_InvalidText___init__ passF rfl (g_InvalidText T) (pv 1)))) pss_nil) (pss_cons (ps_if (pt_not (pt_val (pe_callB (cr_all rfl) rfl (fr_all T) b_all (pa_cons (pe_lc (own := [("sign", 2)]) rfl sc_name_at.nd (pi_str (pe_ix ix_list (pv 0) (pv 1) (fun _ _ => rfl))) (blkOk_by (N := N_name_at) (sc := defScope sd_name_at) (by decide +kernel)) (fun _ _ _ _ _ => (pg_name (i := 2) sc_name_at.nd rfl (Or.inl rfl))) (fun _ _ _ _ _ => pts_nil) (fun _ _ _ _ _ => (pe_cmpR op_in_sign (pv 2) (pe_glob (v := .str "abcdefghijklmnopqrstuvwxyz") rfl m_LETTERS_texts ⟨_, rfl⟩) (by rfl)))) pa_nil)))) (pss_one (ps_raise rfl (takes_of rfl rfl rfl rfl) (FcX.pmk_X (x_InvalidText T) (xi_InvalidText T) G_InvalidText___init__ (hr.mono (by decide)) bi_InvalidText___init__ passF rfl (g_InvalidText T) (pv 1)))) pss_nil) (pss_one (ps_ret (pe_ix ix_list (pv 0) (pv 1) (fun _ _ => rfl)))))), ?_⟩
    have fin : ws[i]?.filter nameOk = none → ∀ H1, Ex H H1 → ∀ d, H1 d = none → E (.ref (He.ga K "InvalidText")) (some d) (upd H1 d (.xd [("at", .int (i : Int))])) := fun hn H1 e d n => by
      rw [hn] at alt
      exact alt _ d (e.trans (exu (Evl.Ex.refl _) n)) (ex_none e n) upd_same
    rcases Nat.lt_or_ge i ws.length with hlt | hge
    · obtain ⟨x, hx⟩ : ∃ x, ws[i]? = some x := ⟨_, List.getElem?_eq_getElem hlt⟩
      have hxl := hz x (List.mem_of_getElem? hx)
      have ne : ¬ (V.int (i : Int) = V.int ((ws.map V.str).length : Int)) := fun z => by
        have z := V.int.inj z
        rw [List.length_map] at z
        omega
      refine ⟨_, rfl, _, rfl, a, _, rfl, .inl hs, rfl, _, rfl, itF (decide_eq_false ne) ?_⟩
      have bad : nameOk x = false → ws[i]?.filter nameOk = none := fun z => by rw [hx]; exact filt_f z
      have en := nameOk_eq x
      refine ⟨_, rfl, _, rfl, a, _, _, _, rfl, rfl, hs, atI_nat (ws_at hx), x, rfl, sz hxl, _, _, rfl, rfl, _, rfl, ite_of (fun h2 => ?_) (fun h2 => ?_)⟩
      · rw [h2] at en
        refine ⟨_, _, rfl, rfl, _, rfl, ite_of (fun h3 => ?_) (fun h3 => ?_)⟩
        · exact ⟨_, rfl, _, rfl, fun d n => fin (bad (by rw [en, bf h3] <;> rfl)) H (Evl.Ex.refl _) d n⟩
        · rw [bt h3] at en
          refine ⟨_, rfl, _, rfl, a, _, _, _, rfl, rfl, hs, atI_nat (ws_at hx), x, rfl, fun D hD => lc_it walk_str (fun i H' => Ex H H' ∧ H' D = some (.lst ((x.cps.toList.take i).map fun c => V.bl (decide (c ∈ letters))))) ?_ (fun _ _ _ _ => True.intro) ?_ ?_⟩
          · exact ⟨exu (Evl.Ex.refl H) hD, upd_same⟩
          · rintro i y H1 H2 hi ⟨k1, k2⟩ ⟨rfl, c, hc, rfl⟩
            refine ⟨rfl, ?_⟩
            refine ⟨_, rfl, c, _, rfl, rfl, _, k2, szl ?_, exm k1 hD, ?_⟩
            · have e2 : x.cps.size = x.length := rfl
              rw [List.length_map, List.length_take]
              omega
            · have hc' : x.cps.toList[i]? = some c := by simpa using hc
              rw [take_one hc', List.map_append, upd_same] <;> rfl
          rintro H1 ⟨k1, k2⟩
          refine ⟨D, x.cps.toList.map fun c => decide (c ∈ letters), rfl, Evl.sq_of ?_, ?_⟩
          · have e4 : x.cps.size = x.cps.toList.length := by simp
            rw [k2, e4, List.take_length, List.map_map] <;> rfl
          have e3 : ((x.cps.toList.map fun c => decide (c ∈ letters)).all id) = x.cps.toList.all fun c => decide (c ∈ letters) := by simp [List.all_map]
          rw [e3]
          refine ⟨_, rfl, ite_of (fun h4 => ?_) (fun h4 => ?_)⟩
          · exact ⟨_, rfl, _, rfl, fun d n => fin (bad (by rw [en, bf h4] <;> rfl)) H1 k1 d n⟩
          · have good : ws[i]?.filter nameOk = some x := by rw [hx]; exact filt_t (by rw [en, bt h4] <;> rfl)
            rw [good] at alt
            exact ⟨_, rfl, _, rfl, a, _, _, _, rfl, rfl, Evl.ex_l k1 hs, atI_nat (ws_at hx), alt H1 k1⟩
      · refine ⟨_, rfl, itT rfl ?_⟩
        exact ⟨_, rfl, _, rfl, fun d n => fin (bad (by rw [en, h2] <;> rfl)) H (Evl.Ex.refl _) d n⟩
    · have ex : ws[i]? = none := List.getElem?_eq_none hge
      have eq : (V.int (i : Int) = V.int ((ws.map V.str).length : Int)) := by
        rw [List.length_map]
        congr 1
        omega
      refine ⟨_, rfl, _, rfl, a, _, rfl, .inl hs, rfl, _, rfl, itT (decide_eq_true eq) ?_⟩
      exact ⟨_, rfl, _, rfl, fun d n => fin (by rw [ex] <;> rfl) H (Evl.Ex.refl _) d n⟩
abbrev N_number_at : List Str := ["words", "at", "sign"]
theorem sc_number_at : FnScope N_number_at ["words", "at"] (defScope sd_number_at) := ⟨rfl, rfl, rfl, by decide +kernel, rfl, by decide +kernel, by decide +kernel⟩
theorem ok_number_at (T : Tx w h K mg) : Ok P w K mg base 3 ("number_at", none) ["words", "at"] (sp_number_at K) := by
  obtain ⟨fd, F⟩ := F_number_at T
  refine ⟨fd, ?_, F.bindsN (fun _ _ _ _ _ _ us hl => match us, hl with | [_, _], _ => rfl), F.kp⟩
  obtain ⟨fd_InvalidText___init__, G_InvalidText___init__, bi_InvalidText___init__, kp_InvalidText___init__, FD_InvalidText___init__⟩ := okF_InvalidText___init__ (P := P) (base := base) T
  obtain ⟨tm_DIGITS, m_DIGITS⟩ := i_DIGITS T
  obtain ⟨tm_MOST_NUMBER, m_MOST_NUMBER⟩ := i_MOST_NUMBER T
  refine F.ok sc_number_at (fun vs H Q E h => ?_) (fun cdv A outer s H vs Q E hr h => ?_)
  · obtain ⟨a, ws, i, rfl, hs, hi, hz, alt⟩ := h
    rfl
  · obtain ⟨a, ws, i, rfl, hs, hi, hz, alt⟩ := h
    refine ⟨_, (pss_cons (ps_if (PW.pt (pw_or (pt_cmpR op_eq (pv 1) (pe_callB call_len_seq rfl (fr_len T) b_len (pa_cons (pv 0) pa_nil)) (nomark _)) (pw_or (pt_not (pt_chain op_le op_le pe_int (pe_callB call_len_str rfl (fr_len T) b_len (pa_cons (pe_ix ix_list (pv 0) (pv 1) (fun _ _ => rfl)) pa_nil)) (pe_callB call_len_str rfl (fr_len T) b_len (pa_cons (pe_callTy call_str_int rfl (fr_str T) b_str (pa_cons (pe_glob (v := .int 400) rfl m_MOST_NUMBER ⟨_, rfl⟩) pa_nil)) pa_nil)))) (pw_or1 (pt_val (pe_bm PySem.F.plainAttrs_str PySem.F.slot_str_startswith PySem.F.type_str_startswith mt_startswith (pe_ix ix_list (pv 0) (pv 1) (fun _ _ => rfl)) (pa_cons pe_str pa_nil))))))) (pss_one (ps_raise rfl (takes_of rfl rfl rfl rfl) (FcX.pmk_X (x_InvalidText T) (xi_InvalidText T) G_InvalidText___init__ (hr.mono (by decide)) bi_InvalidText___init__ passF rfl (g_InvalidText T) (pv 1)))) pss_nil) (pss_cons (ps_if (PW.pt (pw_or (pt_not (pt_val (pe_callB (cr_all rfl) rfl (fr_all T) b_all (pa_cons (pe_lc (own := [("sign", 2)]) rfl sc_number_at.nd (pi_str (pe_ix ix_list (pv 0) (pv 1) (fun _ _ => rfl))) (blkOk_by (N := N_number_at) (sc := defScope sd_number_at) (by decide +kernel)) (fun _ _ _ _ _ => (pg_name (i := 2) sc_number_at.nd rfl (Or.inl rfl))) (fun _ _ _ _ _ => pts_nil) (fun _ _ _ _ _ => (pe_cmpR op_in_sign (pv 2) (pe_glob (v := .str "0123456789") rfl m_DIGITS ⟨_, rfl⟩) (by rfl)))) pa_nil)))) (pw_or1 (pt_cmpR op_gt (pe_callTy call_int_str rfl (fr_int T) b_int (pa_cons (pe_ix ix_list (pv 0) (pv 1) (fun _ _ => rfl)) pa_nil)) (pe_glob (v := .int 400) rfl m_MOST_NUMBER ⟨_, rfl⟩) (nomark _))))) (pss_one (ps_raise rfl (takes_of rfl rfl rfl rfl) (FcX.pmk_X (x_InvalidText T) (xi_InvalidText T) G_InvalidText___init__ (hr.mono (by decide)) bi_InvalidText___init__ passF rfl (g_InvalidText T) (pv 1)))) pss_nil) (pss_one (ps_ret (pe_callTy call_int_str rfl (fr_int T) b_int (pa_cons (pe_ix ix_list (pv 0) (pv 1) (fun _ _ => rfl)) pa_nil)))))), ?_⟩
    have fin : ws[i]?.filter numOk = none → ∀ H1, Ex H H1 → ∀ d, H1 d = none → E (.ref (He.ga K "InvalidText")) (some d) (upd H1 d (.xd [("at", .int (i : Int))])) := fun hn H1 e d n => by
      rw [hn] at alt
      exact alt _ d (e.trans (exu (Evl.Ex.refl _) n)) (ex_none e n) upd_same
    rcases Nat.lt_or_ge i ws.length with hlt | hge
    · obtain ⟨x, hx⟩ : ∃ x, ws[i]? = some x := ⟨_, List.getElem?_eq_getElem hlt⟩
      have hxl := hz x (List.mem_of_getElem? hx)
      have ne : ¬ (V.int (i : Int) = V.int ((ws.map V.str).length : Int)) := fun z => by
        have z := V.int.inj z
        rw [List.length_map] at z
        omega
      refine ⟨_, rfl, _, rfl, a, _, rfl, .inl hs, rfl, _, rfl, itF (decide_eq_false ne) ?_⟩
      have bad : numOk x = false → ws[i]?.filter numOk = none := fun z => by rw [hx]; exact filt_f z
      have en := numOk_eq x
      refine ⟨_, rfl, _, rfl, a, _, _, _, rfl, rfl, hs, atI_nat (ws_at hx), x, rfl, sz hxl, _, _, rfl, rfl, _, rfl, ite_of (fun h2 => ?_) (fun h2 => ?_)⟩
      · rw [h2] at en
        have h2' : 1 ≤ x.length := by have := of_decide_eq_true h2; omega
        have e4 : (Str.ofString (toString (400 : Int))).length = 3 := by decide +kernel
        refine ⟨_, rfl, (by decide +kernel), _, rfl, sz (by rw [e4]; decide), _, _, rfl, rfl, _, rfl, ?_⟩
        rw [e4]
        refine ite_of (fun h3 => ?_) (fun h3 => ?_)
        · have h3 := bf h3
          have h3 : decide ((x.length : Int) ≤ 3) = false := h3
          exact ⟨_, rfl, _, rfl, fun d n => fin (bad (by rw [en, h3] <;> rfl)) H (Evl.Ex.refl _) d n⟩
        have h3 := bt h3
        have h3 : decide ((x.length : Int) ≤ 3) = true := h3
        rw [h3] at en
        have h3' : x.length ≤ 3 := by have := of_decide_eq_true h3; omega
        refine ⟨_, rfl, _, rfl, a, _, _, _, rfl, rfl, hs, atI_nat (ws_at hx), rfl, x, "0", rfl, rfl, _, rfl, ?_⟩
        rw [starts0 h2']
        refine ite_of (fun h4 => ?_) (fun h4 => ?_)
        · exact ⟨_, rfl, _, rfl, fun d n => fin (bad (by rw [en, h4] <;> rfl)) H (Evl.Ex.refl _) d n⟩
        rw [h4] at en
        refine ⟨_, rfl, _, rfl, a, _, _, _, rfl, rfl, hs, atI_nat (ws_at hx), x, rfl, fun D hD => lc_it walk_str (fun i H' => Ex H H' ∧ H' D = some (.lst ((x.cps.toList.take i).map fun c => V.bl (decide (c ∈ digs))))) ?_ (fun _ _ _ _ => True.intro) ?_ ?_⟩
        · exact ⟨exu (Evl.Ex.refl H) hD, upd_same⟩
        · rintro i y H1 H2 hi ⟨k1, k2⟩ ⟨rfl, c, hc, rfl⟩
          refine ⟨rfl, ?_⟩
          refine ⟨_, rfl, c, _, rfl, rfl, _, k2, szl ?_, exm k1 hD, ?_⟩
          · have e2 : x.cps.size = x.length := rfl
            rw [List.length_map, List.length_take]
            omega
          · have hc' : x.cps.toList[i]? = some c := by simpa using hc
            rw [take_one hc', List.map_append, upd_same] <;> rfl
        rintro H1 ⟨k1, k2⟩
        refine ⟨D, x.cps.toList.map fun c => decide (c ∈ digs), rfl, Evl.sq_of ?_, ?_⟩
        · have e4 : x.cps.size = x.cps.toList.length := by simp
          rw [k2, e4, List.take_length, List.map_map] <;> rfl
        have e3 : ((x.cps.toList.map fun c => decide (c ∈ digs)).all id) = x.cps.toList.all fun c => decide (c ∈ digs) := by simp [List.all_map]
        rw [e3]
        refine ⟨_, rfl, ite_of (fun h5 => ?_) (fun h5 => ?_)⟩
        · exact ⟨_, rfl, _, rfl, fun d n => fin (bad (by rw [en, bf h5] <;> rfl)) H1 k1 d n⟩
        have h5 := bt h5
        rw [h5] at en
        have hs1 := Evl.ex_l k1 hs
        have lx : x.length = (tl x).length := TL.len_tl x
        have iv : PySem.intText? x = some (numV x : Int) := intText_digits (digs_all h5) (fun z => by have z2 : (tl x).length = 0 := congrArg List.length z; omega) (by omega)
        refine ⟨_, rfl, _, rfl, a, _, _, _, rfl, rfl, hs1, atI_nat (ws_at hx), x, _, rfl, iv, (by omega), _, _, rfl, rfl, _, rfl, ite_of (fun h6 => ?_) (fun h6 => ?_)⟩
        · have z : decide (numV x ≤ 400) = false := decide_eq_false (by have := of_decide_eq_true h6; omega)
          exact ⟨_, rfl, _, rfl, fun d n => fin (bad (by rw [en, z] <;> rfl)) H1 k1 d n⟩
        · have z : decide (numV x ≤ 400) = true := decide_eq_true (by have := of_decide_eq_false h6; omega)
          have good : ws[i]?.filter numOk = some x := by rw [hx]; exact filt_t (by rw [en, z] <;> rfl)
          rw [good] at alt
          exact ⟨_, rfl, _, rfl, a, _, _, _, rfl, rfl, hs1, atI_nat (ws_at hx), x, _, rfl, iv, (by omega), alt H1 k1⟩
      · refine ⟨_, rfl, itT rfl ?_⟩
        exact ⟨_, rfl, _, rfl, fun d n => fin (bad (by rw [en, h2] <;> rfl)) H (Evl.Ex.refl _) d n⟩
    · have ex : ws[i]? = none := List.getElem?_eq_none hge
      have eq : (V.int (i : Int) = V.int ((ws.map V.str).length : Int)) := by
        rw [List.length_map]
        congr 1
        omega
      refine ⟨_, rfl, _, rfl, a, _, rfl, .inl hs, rfl, _, rfl, itT (decide_eq_true eq) ?_⟩
      exact ⟨_, rfl, _, rfl, fun d n => fin (by rw [ex] <;> rfl) H (Evl.Ex.refl _) d n⟩
theorem parts_ns (T : Tx w h K mg) (k : Str) : ∃ r, PySem.W.nsIn K (He.ga K "PARTS") k = some r ∧ (match kPrt.lookup k with
    | none => r = none
    | some n => ∃ u, r = some u ∧ RelV (.int n) u) := by
  cases e : kPrt.lookup k with
  | none => exact ⟨none, ns_none (dk_PARTS T) (lookup_none e), rfl⟩
  | some n =>
    have m := lookup_mem e
    have m2 : (k, He.Dv.int n) ∈ ([("do", .int 0), ("call", .int 0), ("if", .int 2), ("while", .int 1)] : List (Str × He.Dv)) :=
      List.mem_map_of_mem (f := fun q : Str × Int => (q.1, He.Dv.int q.2)) m
    obtain ⟨u, e1, e2⟩ := v_PARTS T m2
    exact ⟨some u, e1, u, rfl, e2⟩
abbrev N_head_at : List Str := ["words", "at", "word"]
theorem sc_head_at : FnScope N_head_at ["words", "at"] (defScope sd_head_at) := ⟨rfl, rfl, rfl, by decide +kernel, rfl, by decide +kernel, by decide +kernel⟩
theorem ok_head_at (T : Tx w h K mg) : Ok P w K mg base 4 ("head_at", none) ["words", "at"] (sp_head_at K) := by
  obtain ⟨fd, F⟩ := F_head_at T
  refine ⟨fd, ?_, F.bindsN (fun _ _ _ _ _ _ us hl => match us, hl with | [_, _], _ => rfl), F.kp⟩
  obtain ⟨fd_name_at, G_name_at, bi_name_at, kp_name_at⟩ := ok_name_at (P := P) (base := base) T
  obtain ⟨fd_number_at, G_number_at, bi_number_at, kp_number_at⟩ := ok_number_at (P := P) (base := base) T
  obtain ⟨fd_InvalidText___init__, G_InvalidText___init__, bi_InvalidText___init__, kp_InvalidText___init__, FD_InvalidText___init__⟩ := okF_InvalidText___init__ (P := P) (base := base) T
  obtain ⟨es, nE, D⟩ := d_PARTS T
  refine F.ok sc_head_at (fun vs H Q E h => ?_) (fun cdv A outer s H vs Q E hr h => ?_)
  · obtain ⟨F, a, ws, i, rfl, xF, hs, hi, hz, alt⟩ := h
    rfl
  · obtain ⟨F, a, ws, i, rfl, xF, hs, hi, hz, alt⟩ := h
    refine ⟨_, (pss_cons (ps_if (pt_cmpR op_eq (pv 1) (pe_callB call_len_seq rfl (fr_len T) b_len (pa_cons (pv 0) pa_nil)) (nomark _)) (pss_one (ps_raise rfl (takes_of rfl rfl rfl rfl) (FcX.pmk_X (x_InvalidText T) (xi_InvalidText T) G_InvalidText___init__ (hr.mono (by decide)) bi_InvalidText___init__ passF rfl (g_InvalidText T) (pv 1)))) pss_nil) (pss_cons (ps_set (i := 2) sc_head_at.nd rfl (Or.inl rfl) (pe_ix ix_list (pv 0) (pv 1) (fun _ _ => rfl))) (pss_cons (ps_if (pt_cmpR op_in_seq (pv 2) (pe_tup (pa_cons pe_str (pa_cons pe_str pa_nil))) (by rfl)) (pss_one (ps_ret (pe_tup (pa_cons (pe_tup (pa_cons (pv 2) pa_nil)) (pa_cons pe_int (pa_cons (pe_op op_add (pv 1) pe_int) pa_nil)))))) pss_nil) (pss_cons (ps_if (pt_cmpR op_in_seq (pv 2) (pe_tup (pa_cons pe_str (pa_cons pe_str pa_nil))) (by rfl)) (pss_one (ps_ret (pe_tup (pa_cons (pe_tup (pa_cons (pv 2) pa_nil)) (pa_cons pe_int (pa_cons (pe_op op_add (pv 1) pe_int) pa_nil)))))) pss_nil) (pss_cons (ps_if (pt_cmpR (op_in_kd D) (pv 2) (pe_glob (v := .ref (He.ga K "PARTS")) rfl (g_PARTS T) rfl) (by rfl)) (pss_one (ps_ret (pe_tup (pa_cons (pe_tup (pa_cons (pv 2) (pa_cons (pe_call G_name_at (hr.mono (by decide)) rfl (g_name_at T) kp_name_at bi_name_at .nil (passes_call (takes_of rfl rfl rfl rfl) (fun _ _ _ _ h => h)) (pa_cons (pv 0) (pa_cons (pe_op op_add (pv 1) pe_int) pa_nil))) pa_nil))) (pa_cons (pe_ix ix_kdict (pe_glob (v := .ref (He.ga K "PARTS")) rfl (g_PARTS T) rfl) (pv 2) (fun _ _ => rfl)) (pa_cons (pe_op op_add (pv 1) pe_int) pa_nil)))))) pss_nil) (pss_cons (ps_if (pt_cmpR op_eq (pv 2) pe_str (nomark _)) (pss_one (ps_ret (pe_tup (pa_cons (pe_tup (pa_cons (pv 2) pa_nil)) (pa_cons (pe_call G_number_at (hr.mono (by decide)) rfl (g_number_at T) kp_number_at bi_number_at .nil (passes_call (takes_of rfl rfl rfl rfl) (fun _ _ _ _ h => h)) (pa_cons (pv 0) (pa_cons (pe_op op_add (pv 1) pe_int) pa_nil))) (pa_cons (pe_op op_add (pv 1) pe_int) pa_nil)))))) pss_nil) (pss_cons (ps_if (pt_cmpR op_in_seq (pv 2) (pe_tup (pa_cons pe_str (pa_cons pe_str pa_nil))) (by rfl)) (pss_one (ps_ret (pe_tup (pa_cons (pe_tup (pa_cons (pv 2) (pa_cons (pe_call G_number_at (hr.mono (by decide)) rfl (g_number_at T) kp_number_at bi_number_at .nil (passes_call (takes_of rfl rfl rfl rfl) (fun _ _ _ _ h => h)) (pa_cons (pv 0) (pa_cons (pe_op op_add (pv 1) pe_int) pa_nil))) pa_nil))) (pa_cons pe_int (pa_cons (pe_op op_add (pv 1) pe_int) pa_nil)))))) pss_nil) (pss_one (ps_raise rfl (takes_of rfl rfl rfl rfl) (FcX.pmk_X (x_InvalidText T) (xi_InvalidText T) G_InvalidText___init__ (hr.mono (by decide)) bi_InvalidText___init__ passF rfl (g_InvalidText T) (pv 1))))))))))), ?_⟩
    have fin : ∀ j : Nat, headAt ws i = .bad j → ∀ H1, Ex H H1 → ∀ d, H1 d = none → E (.ref (He.ga K "InvalidText")) (some d) (upd H1 d (.xd [("at", .int (j : Int))])) := fun j hn H1 e d n => by
      rw [hn] at alt
      exact alt _ d (e.trans (exu (Evl.Ex.refl _) n)) (ex_none e n) upd_same
    have finR : ∀ j : Nat, headAt ws i = .bad j → ∀ H1, Ex H H1 → RaisesA K "InvalidText" "at" H1 (.int (j : Int)) E := fun j hn H1 e H2 d e2 n s => by
      rw [hn] at alt
      exact alt H2 d (e.trans e2) (ex_none e n) s
    have fin2 : ∀ {H1 H2 H2' H3 : Hp} {p2 p3 : Addr} {xs : List V} {hd : List PyData} {m i' : Nat} {mi ii : Int}, headAt ws i = .ok hd m i' → mi = (m : Int) → ii = (i' : Int) → Ex H H1 → H1 p2 = none → H2 p2 = some (.tup xs) → (∀ b, b ≠ p2 → H2 b = H1 b) → Ex H2 H2' → H2' p3 = none → H3 p3 = some (.tup [.ref p2, .int mi, .int ii]) → (∀ b, b ≠ p3 → H3 b = H2' b) → DpAll K F xs hd → Q (.ref p3) H3 := fun {H1 H2 H2' H3 p2 p3 xs hd m i' mi ii} eh em ei x1 n2 s2 o2 x2 n3 s3 o3 da => by
      rw [eh] at alt
      rw [em, ei] at s3
      have x12 : Ex H1 H2 := fun b o e => by rw [o2 b (ne_of_none e n2)]; exact e
      have x3 : Ex H2' H3 := fun b o e => by rw [o3 b (ne_of_none e n3)]; exact e
      have g : Gr (fun _ => False) F H (upd F p2 (.tup xs)) H3 := ((Gr.new xF x1).trans (Gr.frz (xF.trans x1) n2 s2 o2)).trans (Gr.new (Gr.frz (M := fun _ => False) (xF.trans x1) n2 s2 o2).fh (x2.trans x3))
      have hF : F p2 = none := ex_none (xF.trans x1) n2
      have p32 : p3 ≠ p2 := fun z => by rw [z, x2 _ _ s2] at n3; cases n3
      have h3 : H p3 = none := ex_none ((x1.trans x12).trans x2) n3
      exact alt _ H3 p3 p2 g h3 (by rw [upd_ne p32]; exact ex_none xF h3) s3 (.tup (Evl.st_of upd_same) (dpA_ex (exu (Evl.Ex.refl _) hF) da))
    rcases Nat.lt_or_ge i ws.length with hlt | hge
    · obtain ⟨x, hx⟩ : ∃ x, ws[i]? = some x := ⟨_, List.getElem?_eq_getElem hlt⟩
      have hxl := hz x (List.mem_of_getElem? hx)
      have ne : ¬ (V.int (i : Int) = V.int ((ws.map V.str).length : Int)) := fun z => by
        have z := V.int.inj z
        rw [List.length_map] at z
        omega
      refine ⟨_, rfl, _, rfl, a, _, rfl, .inl hs, rfl, _, rfl, itF (decide_eq_false ne) ?_⟩
      have eh : headAt ws i = headW x i ws[i + 1]? := by unfold headAt; rw [hx]
      refine ⟨_, rfl, _, rfl, a, _, _, _, rfl, rfl, hs, atI_nat (ws_at hx), ?_⟩
      refine ⟨_, rfl, sz (by simp), ?_⟩
      intro p1 n1
      generalize e1 : upd _ p1 _ = H1
      obtain ⟨x1, s1, o1⟩ := new_of e1 n1
      clear e1
      refine ⟨p1, _, rfl, .inr (Evl.st_of s1), rfl, flat_strs kRR, _, rfl, ?_⟩
      have r1 : inV (.str x) [V.str "return", .str "raise"] = decide (x ∈ kRR) := inV_strs x kRR
      rw [r1]
      refine ite_of (fun h1 => ?_) (fun h1 => ?_)
      · refine ⟨_, rfl, sz (by simp), ?_⟩
        intro p2 n2
        generalize e2 : upd _ p2 _ = H2
        obtain ⟨x2, s2, o2⟩ := new_of e2 n2
        clear e2
        refine ⟨_, rfl, _, _, rfl, rfl, sz (by simp), ?_⟩
        intro p3 n3
        generalize e3 : upd _ p3 _ = H3
        obtain ⟨x3, s3, o3⟩ := new_of e3 n3
        clear e3
        have h1 := of_decide_eq_true h1
        exact fin2 (hd := [.str x]) (m := 0) (i' := i + 1) (by rw [eh]; unfold headW; rw [if_pos h1]) rfl (by omega) x1 n2 s2 o2 (Evl.Ex.refl _) n3 s3 o3 (.cons (.str _) .nil)
      have h1 := of_decide_eq_false h1
      refine ⟨_, rfl, sz (by simp), ?_⟩
      intro p4 n4
      generalize e4 : upd _ p4 _ = H4
      obtain ⟨x4, s4, o4⟩ := new_of e4 n4
      clear e4
      refine ⟨p4, _, rfl, .inr (Evl.st_of s4), rfl, flat_strs kTF, _, rfl, ?_⟩
      have r2 : inV (.str x) [V.str "try", .str "final"] = decide (x ∈ kTF) := inV_strs x kTF
      rw [r2]
      refine ite_of (fun h2 => ?_) (fun h2 => ?_)
      · refine ⟨_, rfl, sz (by simp), ?_⟩
        intro p2 n2
        generalize e2 : upd _ p2 _ = H2
        obtain ⟨x2, s2, o2⟩ := new_of e2 n2
        clear e2
        refine ⟨_, rfl, _, _, rfl, rfl, sz (by simp), ?_⟩
        intro p3 n3
        generalize e3 : upd _ p3 _ = H3
        obtain ⟨x3, s3, o3⟩ := new_of e3 n3
        clear e3
        have h2 := of_decide_eq_true h2
        exact fin2 (hd := [.str x]) (m := 2) (i' := i + 1) (by rw [eh]; unfold headW; rw [if_neg h1, if_pos h2]) rfl (by omega) (x1.trans x4) n2 s2 o2 (Evl.Ex.refl _) n3 s3 o3 (.cons (.str _) .nil)
      have h2 := of_decide_eq_false h2
      obtain ⟨r, n1', n2'⟩ := parts_ns T x
      have x14 := x1.trans x4
      have e1i : ((i : Int) + 1) = ((i + 1 : Nat) : Int) := by omega
      refine ⟨_, rfl, x, r, rfl, rfl, n1', _, rfl, ?_⟩
      cases e1 : kPrt.lookup x with
      | some m =>
        rw [e1] at n2'
        obtain ⟨u, rfl, ru⟩ := n2'
        refine itT rfl ?_
        refine ⟨_, rfl, _, rfl, _, rfl, _, _, rfl, rfl, ?_⟩
        refine ⟨a, ws, i + 1, by rw [← e1i] <;> rfl, Evl.ex_l x14 hs, by omega, hz, ?_⟩
        cases e2 : ws[i + 1]?.filter nameOk with
        | none => exact finR (i + 1) (by rw [eh]; unfold headW; rw [if_neg h1, if_neg h2, e1, e2]) _ x14
        | some y =>
          have mpos : m = (m.toNat : Int) := by
            have := lookup_mem e1
            simp [kPrt] at this
            omega
          intro H5 x5
          refine ⟨sz (by simp), ?_⟩
          intro p6 n6
          generalize e6 : upd _ p6 _ = H6
          obtain ⟨x6, s6, o6⟩ := new_of e6 n6
          clear e6
          refine ⟨_, rfl, _, x, .int m, rfl, rfl, ⟨es, nE, u, D.at_, D.lit, n1', ru⟩, _, rfl, _, _, rfl, rfl, sz (by simp), ?_⟩
          intro p7 n7
          generalize e7 : upd _ p7 _ = H7
          obtain ⟨x7, s7, o7⟩ := new_of e7 n7
          clear e7
          exact fin2 (hd := [.str x, .str y]) (m := m.toNat) (i' := i + 2) (by rw [eh]; unfold headW; rw [if_neg h1, if_neg h2, e1, e2]) mpos (by omega) (x14.trans x5) n6 s6 o6 (Evl.Ex.refl _) n7 s7 o7 (.cons (.str _) (.cons (.str _) .nil))
      | none =>
        rw [e1] at n2'
        subst n2'
        refine itF rfl ?_
        refine ⟨_, rfl, rfl, _, rfl, ite_of (fun h3 => ?_) (fun h3 => ?_)⟩
        · have h3 : x = "seq" := V.str.inj (of_decide_eq_true h3)
          refine ⟨_, rfl, sz (by simp), ?_⟩
          intro p5 n5
          generalize e5 : upd _ p5 _ = H5
          obtain ⟨x5, s5, o5⟩ := new_of e5 n5
          clear e5
          refine ⟨_, rfl, _, rfl, _, _, rfl, rfl, ?_⟩
          refine ⟨a, ws, i + 1, by rw [← e1i] <;> rfl, Evl.ex_l (x14.trans x5) hs, by omega, hz, ?_⟩
          cases e2 : ws[i + 1]?.filter numOk with
          | none => exact finR (i + 1) (by rw [eh]; unfold headW; rw [if_neg h1, if_neg h2, e1, e2]; exact if_pos h3) _ (x14.trans x5)
          | some y =>
            intro H6 x6
            refine ⟨_, rfl, _, _, rfl, rfl, sz (by simp), ?_⟩
            intro p7 n7
            generalize e7 : upd _ p7 _ = H7
            obtain ⟨x7, s7, o7⟩ := new_of e7 n7
            clear e7
            exact fin2 (hd := [.str x]) (m := numV y) (i' := i + 2) (by rw [eh]; unfold headW; rw [if_neg h1, if_neg h2, e1, e2]; exact if_pos h3) rfl (by omega) x14 n5 s5 o5 x6 n7 s7 o7 (.cons (.str _) .nil)
        have h3 : ¬ x = "seq" := fun z => of_decide_eq_false h3 (by rw [z])
        refine ⟨_, rfl, sz (by simp), ?_⟩
        intro p5 n5
        generalize e5 : upd _ p5 _ = H5
        obtain ⟨x5, s5, o5⟩ := new_of e5 n5
        clear e5
        refine ⟨p5, _, rfl, .inr (Evl.st_of s5), rfl, flat_strs kJumps, _, rfl, ?_⟩
        have r3 : inV (.str x) [V.str "break", .str "continue"] = decide (x ∈ kJumps) := inV_strs x kJumps
        rw [r3]
        refine ite_of (fun h4 => ?_) (fun h4 => ?_)
        · have h4 := of_decide_eq_true h4
          refine ⟨_, rfl, _, rfl, _, rfl, _, _, rfl, rfl, ?_⟩
          refine ⟨a, ws, i + 1, by rw [← e1i] <;> rfl, Evl.ex_l (x14.trans x5) hs, by omega, hz, ?_⟩
          cases e2 : ws[i + 1]?.filter numOk with
          | none => exact finR (i + 1) (by rw [eh]; unfold headW; rw [if_neg h1, if_neg h2, e1, e2]; exact (if_neg h3).trans (if_pos h4)) _ (x14.trans x5)
          | some y =>
            intro H6 x6
            refine ⟨sz (by simp), ?_⟩
            intro p7 n7
            generalize e7 : upd _ p7 _ = H7
            obtain ⟨x7, s7, o7⟩ := new_of e7 n7
            clear e7
            refine ⟨_, rfl, _, _, rfl, rfl, sz (by simp), ?_⟩
            intro p8 n8
            generalize e8 : upd _ p8 _ = H8
            obtain ⟨x8, s8, o8⟩ := new_of e8 n8
            clear e8
            exact fin2 (hd := [.str x, .int (numV y : Int)]) (m := 0) (i' := i + 2) (by rw [eh]; unfold headW; rw [if_neg h1, if_neg h2, e1, e2]; exact (if_neg h3).trans (if_pos h4)) rfl (by omega) ((x14.trans x5).trans x6) n7 s7 o7 (Evl.Ex.refl _) n8 s8 o8 (.cons (.str _) (.cons (.int _) .nil))
        have h4 := of_decide_eq_false h4
        exact ⟨_, rfl, _, rfl, fun d n => fin i (by rw [eh]; unfold headW; rw [if_neg h1, if_neg h2, e1]; exact (if_neg h3).trans (if_neg h4)) _ (x14.trans x5) d n⟩
    · have ex : ws[i]? = none := List.getElem?_eq_none hge
      have eq : (V.int (i : Int) = V.int ((ws.map V.str).length : Int)) := by
        rw [List.length_map]
        congr 1
        omega
      refine ⟨_, rfl, _, rfl, a, _, rfl, .inl hs, rfl, _, rfl, itT (decide_eq_true eq) ?_⟩
      exact ⟨_, rfl, _, rfl, fun d n => fin i (by unfold headAt; rw [ex]) H (Evl.Ex.refl _) d n⟩
end

end Fc

set_option maxRecDepth 100000
set_option maxHeartbeats 4000000
namespace Fc
open PySem PySem.Spec PyProof.Rows L2 FcR
open Evl (Ex)
/-! ### texts of statements (plain) -/
open TL (tl numL)
def WOk (x : Str) : Prop := x.length ≤ 20 ∧ 32 ∉ tl x
theorem wok_num {n : Nat} (h : n ≤ 400) : WOk (Str.ofString (toString (n : Int))) := by
  refine ⟨?_, ?_⟩
  · rw [TL.len_tl, TL.tl_num]
    exact Nat.le_trans (TL.numL_len (k := 3) (by decide) (by omega)) (by decide)
  · rw [TL.tl_num]
    exact TL.numL_free (.inl (by decide))
theorem wok_name {x : Str} (h : nameOk x = true) : WOk x := by
  rw [nameOk_eq] at h
  simp only [Bool.and_eq_true, decide_eq_true_eq] at h
  refine ⟨by omega, fun z => ?_⟩
  have h2 := of_decide_eq_true (List.all_eq_true.mp h.2 32 z)
  exact absurd h2 (by decide +kernel)
theorem wok_kind {x : Str} (h : x ∈ (["do", "call", "if", "while", "seq", "break", "continue", "return", "raise", "try", "final"] : List Str)) : WOk x := by
  have key : ∀ x ∈ (["do", "call", "if", "while", "seq", "break", "continue", "return", "raise", "try", "final"] : List Str), x.length ≤ 20 ∧ 32 ∉ tl x := by decide +kernel
  exact key x h
theorem hdW_ok {loops : Nat} {d : PyData} (h : isStm d (loops : Int) = true) (hl : loops ≤ 400) (hp : (partsD d).length ≤ 400) : ∀ x ∈ hdW d, WOk x := by
  have two : ∀ {a b : Str}, WOk a → WOk b → ∀ x ∈ [a, b], WOk x := fun {a b} h1 h2 x hx => by
    simp only [List.mem_cons, List.not_mem_nil, or_false] at hx
    rcases hx with z | z <;> rw [z]
    · exact h1
    · exact h2
  have one : ∀ {a : Str}, WOk a → ∀ x ∈ [a], WOk x := fun {a} h1 x hx => by rw [List.mem_singleton.mp hx]; exact h1
  have jm : ∀ {n : Int}, 1 ≤ n → n ≤ loops → WOk (Str.ofString (toString n)) := fun {n} h1 h2 => by
    obtain ⟨k, rfl⟩ : ∃ k : Nat, n = (k : Int) := ⟨n.toNat, by omega⟩
    exact wok_num (by omega)
  cases sv_of h with
  | do_ x => exact two (a := "do") (wok_kind (by decide +kernel)) (wok_name h)
  | call x => exact two (a := "call") (wok_kind (by decide +kernel)) (wok_name h)
  | iff x a b => exact two (a := "if") (wok_kind (by decide +kernel)) (wok_name h)
  | whl x a => exact two (a := "while") (wok_kind (by decide +kernel)) (wok_name h)
  | seq p ps => exact two (a := "seq") (wok_kind (by decide +kernel)) (wok_num hp)
  | brk n h1 h2 => exact two (a := "break") (wok_kind (by decide +kernel)) (jm h1 h2)
  | cnt n h1 h2 => exact two (a := "continue") (wok_kind (by decide +kernel)) (jm h1 h2)
  | ret => exact one (a := "return") (wok_kind (by decide +kernel))
  | rai => exact one (a := "raise") (wok_kind (by decide +kernel))
  | tr a b => exact one (a := "try") (wok_kind (by decide +kernel))
  | fin a b => exact one (a := "final") (wok_kind (by decide +kernel))
theorem okS_pre {l dp b w : Nat} {d : PyData} (h : OkS l dp b w d) : l + 1 ≤ dp → ∀ e ∈ preD d, ∃ l' dp' b' w', OkS l' dp' b' w' e ∧ w' ≤ w ∧ l' + 1 ≤ dp' := by
  induction h with
  | @mk loops deep blocks d wt st hd hb ps ih =>
    intro hl e he
    rw [preD_eq] at he
    rcases List.mem_cons.mp he with z | z
    · rw [z]
      exact ⟨_, _, _, _, .mk wt st hd hb ps, Nat.le_refl _, hl⟩
    · obtain ⟨q, hq, hqe⟩ := List.mem_flatMap.mp z
      obtain ⟨j, hj⟩ := List.mem_iff_getElem?.mp hq
      have w1 : wl d ≤ 1 := by unfold wl; split <;> omega
      obtain ⟨l', dp', b', w', a1, a2, a3⟩ := ih j q hj (by omega) e hqe
      have := sum_le_of wt _ j (List.getElem?_eq_some_iff.mp hj).1
      exact ⟨l', dp', b', w', a1, by omega, a3⟩
theorem okS_facts {l dp b w : Nat} {d : PyData} (h : OkS l dp b w d) (hw : w ≤ 400) (hl : l + 1 ≤ dp) : isStm d (l : Int) = true ∧ l ≤ 99 ∧ (partsD d).length ≤ 399 := by
  cases h with
  | mk wt st hd hb ps =>
    have := sum_ge_of wt (partsD d).length fun j hj => okS_pos (ps j _ (List.getElem?_eq_getElem hj))
    exact ⟨st, by omega, by omega⟩
theorem words_ok {l dp b w : Nat} {d : PyData} (h : OkS l dp b w d) (hw : w ≤ 400) (hl : l + 1 ≤ dp) : ∀ x ∈ wordsD d, WOk x := fun x hx => by
  obtain ⟨e, he, hxe⟩ := List.mem_flatMap.mp hx
  obtain ⟨l', dp', b', w', a1, a2, a3⟩ := okS_pre h hl e he
  obtain ⟨f1, f2, f3⟩ := okS_facts a1 (by omega) a3
  exact hdW_ok f1 (by omega) (by omega) x hxe
theorem words_ne (d : PyData) : wordsD d ≠ [] := fun z => by
  have := hdW_pos d
  rw [wordsD_eq] at z
  rw [(List.append_eq_nil_iff.mp z).1] at this
  simp at this
theorem split_words {l : List Str} (hne : l ≠ []) (h : ∀ x ∈ l, WOk x) : Txt.split (Txt.join " " l) " " = l :=
  TL.split_join (s := 32) (S := []) (by decide +kernel) (by decide +kernel) hne fun p hp => (h p hp).2
theorem joinL_len (S : List Nat) : ∀ (l : List (List Nat)) (m : Nat), (∀ x ∈ l, x.length ≤ m) → (TL.joinL S l).length ≤ (m + S.length) * l.length
  | [], _, _ => Nat.zero_le _
  | [p], m, h => by
    have := h p List.mem_cons_self
    show p.length ≤ _
    simp
    omega
  | p :: q :: r, m, h => by
    have h1 := h p List.mem_cons_self
    have h2 := joinL_len S (q :: r) m fun x hx => h x (List.mem_cons_of_mem _ hx)
    show (p ++ (S ++ TL.joinL S (q :: r))).length ≤ _
    rw [List.length_append, List.length_append]
    have e : (m + S.length) * (p :: q :: r).length = (m + S.length) * (q :: r).length + (m + S.length) := by
      rw [List.length_cons (a := p), Nat.mul_add, Nat.mul_one]
    omega
theorem text_len {l : List Str} {m n : Nat} (h : ∀ x ∈ l, x.length ≤ m) (hn : l.length ≤ n) : (Txt.join " " l).length ≤ (m + 1) * n := by
  rw [TL.len_tl, TL.join_eq, TL.tl_join]
  have e : (tl (Str.ofString " ")).length = 1 := by decide +kernel
  have := joinL_len (tl (Str.ofString " ")) (l.map tl) m fun x hx => by
    obtain ⟨y, hy, rfl⟩ := List.mem_map.mp hx
    rw [← TL.len_tl]
    exact h y hy
  rw [e, List.length_map] at this
  exact Nat.le_trans this (Nat.mul_le_mul_left _ hn)
/-- all that is known of a text of a drawn statement -/
structure TD (d : PyData) (N : Nat) (fin : List Row) : Prop where
  bd : Builds N [⟨d, none, 1, 0, 0⟩] [] fin
  r0 : ∃ r, fin[0]? = some r ∧ r.d = d
  ln : fin.length ≤ 400
  fw : fin.flatMap wordsR = wordsD d
  sh : ∀ r ∈ fin, r.ch.length ≤ 400 ∧ (∀ k : Int, labD r.d = .int k → k.natAbs ≤ 1000) ∧ ∀ x ∈ wordsR r, x.length ≤ 20
  sp : Txt.split (Txt.join " " (wordsD d)) " " = wordsD d
  wl : (wordsD d).length ≤ 800
  wo : ∀ x ∈ wordsD d, WOk x
  tl_ : (Txt.join " " (wordsD d)).length ≤ 16800
  rd : readAll (wordsD d) = .inr d
theorem td_of {blocks w : Nat} {d : PyData} (h : OkS 0 1 blocks w d) (hb : blocks = 0) (hw : w ≤ 400) : ∃ fin, TD d w fin ∧ fin.length = w := by
  subst hb
  obtain ⟨fin, bd, fl⟩ := builds_of w [⟨d, none, 1, 0, 0⟩] [] (by have := OkL.cons (it := ⟨d, none, 1, 0, 0⟩) h .nil; exact this) (by simp; omega)
  have fl : fin.length = w := by simpa using fl
  have wo := words_ok h hw (by omega)
  have fw := builds_words bd
  have pre := builds_pre bd
  simp only [List.map_nil, List.nil_append, List.flatMap_cons, List.flatMap_nil, List.append_nil] at pre
  have wl2 : (wordsD d).length ≤ 800 := by
    have := words_le_pre d
    rw [pre_len h] at this
    omega
  obtain ⟨ls, bi⟩ := BI.all bd (BI.start d)
  refine ⟨fin, ⟨bd, ?_, by omega, fw, fun r hr => ?_, split_words (words_ne d) wo, wl2, wo, ?_, read_back h hw⟩, fl⟩
  · have wp := okS_pos h
    obtain ⟨r, hr⟩ : ∃ r, fin[0]? = some r := ⟨_, List.getElem?_eq_getElem (by omega)⟩
    refine ⟨r, hr, ?_⟩
    have := congrArg (fun l => l[0]?) pre
    simp only [List.getElem?_map] at this
    rw [hr, preD_eq] at this
    exact Option.some.inj this
  · obtain ⟨n, hn⟩ := List.mem_iff_getElem?.mp hr
    have hm : r.d ∈ preD d := by rw [← pre]; exact List.mem_map_of_mem hr
    obtain ⟨l', dp', b', w', a1, a2, a3⟩ := okS_pre h (by omega) _ hm
    obtain ⟨f1, f2, f3⟩ := okS_facts a1 (by omega) a3
    have cl : r.ch.length = (partsD r.d).length := by
      have z := congrArg List.length (bi.pt n r hn)
      simpa using z
    refine ⟨by omega, fun k hk => ?_, fun x hx => ?_⟩
    · generalize r.d = e at f1 hk
      cases sv_of f1 with
      | brk n h1 h2 => cases hk; omega
      | cnt n h1 h2 => cases hk; omega
      | _ => cases hk
    · refine (wo x ?_).1
      rw [← fw]
      exact List.mem_flatMap.mpr ⟨r, hr, hx⟩
  · have := text_len (l := wordsD d) (m := 20) (fun x hx => (wo x hx).1) wl2
    omega

end Fc

set_option maxRecDepth 100000
set_option maxHeartbeats 4000000
namespace Fc
open PySem PySem.Spec PyProof.Rows L2 FcR
open Evl (Ex)
def fl_Reader (v0 v1 v2 v3 : V) : List (Str × V) := [("words", v0), ("at", v1), ("begun", v2), ("done", v3)]
theorem fl_Reader_words (v0 v1 v2 v3 : V) : (fl_Reader v0 v1 v2 v3).lookup ("words" : Str) = some v0 := by kernel_rfl
theorem fp_Reader_words (v0 v1 v2 v3 y : V) : putF "words" y (fl_Reader v0 v1 v2 v3) = fl_Reader y v1 v2 v3 := by kernel_rfl
theorem fl_Reader_at (v0 v1 v2 v3 : V) : (fl_Reader v0 v1 v2 v3).lookup ("at" : Str) = some v1 := by kernel_rfl
theorem fp_Reader_at (v0 v1 v2 v3 y : V) : putF "at" y (fl_Reader v0 v1 v2 v3) = fl_Reader v0 y v2 v3 := by kernel_rfl
theorem fl_Reader_begun (v0 v1 v2 v3 : V) : (fl_Reader v0 v1 v2 v3).lookup ("begun" : Str) = some v2 := by kernel_rfl
theorem fp_Reader_begun (v0 v1 v2 v3 y : V) : putF "begun" y (fl_Reader v0 v1 v2 v3) = fl_Reader v0 v1 y v3 := by kernel_rfl
theorem fl_Reader_done (v0 v1 v2 v3 : V) : (fl_Reader v0 v1 v2 v3).lookup ("done" : Str) = some v3 := by kernel_rfl
theorem fp_Reader_done (v0 v1 v2 v3 y : V) : putF "done" y (fl_Reader v0 v1 v2 v3) = fl_Reader v0 v1 v2 y := by kernel_rfl
theorem fm_Reader_close (v0 v1 v2 v3 : V) : (fl_Reader v0 v1 v2 v3).lookup ("close" : Str) = none := by kernel_rfl
theorem fm_Reader_statement (v0 v1 v2 v3 : V) : (fl_Reader v0 v1 v2 v3).lookup ("statement" : Str) = none := by kernel_rfl
theorem fi_Reader_0 (v0 : V) : putF "words" v0 ([] : List (Str × V)) = ([(("words" : Str), v0)] : List (Str × V)) := by kernel_rfl
theorem fi_Reader_1 (v0 v1 : V) : putF "at" v1 ([(("words" : Str), v0)] : List (Str × V)) = ([(("words" : Str), v0), (("at" : Str), v1)] : List (Str × V)) := by kernel_rfl
theorem fi_Reader_2 (v0 v1 v2 : V) : putF "begun" v2 ([(("words" : Str), v0), (("at" : Str), v1)] : List (Str × V)) = ([(("words" : Str), v0), (("at" : Str), v1), (("begun" : Str), v2)] : List (Str × V)) := by kernel_rfl
theorem fi_Reader_3 (v0 v1 v2 v3 : V) : putF "done" v3 ([(("words" : Str), v0), (("at" : Str), v1), (("begun" : Str), v2)] : List (Str × V)) = ([(("words" : Str), v0), (("at" : Str), v1), (("begun" : Str), v2), (("done" : Str), v3)] : List (Str × V)) := by kernel_rfl

end Fc

set_option maxRecDepth 100000
set_option maxHeartbeats 4000000
namespace Fc
open PySem PySem.Spec PyProof.Rows L2 FcR
open Evl (Ex)
/-! ### built, the Reader -/
open TL (tl)
theorem eqv_seq (hd : List PyData) : PyData.eqv (.tuple hd) (.tuple [.str "seq"]) = isSeqH hd := by
  cases hd with
  | nil => rfl
  | cons a r =>
    cases r with
    | nil =>
      cases a with
      | str k =>
        show (PyData.eqv (.str k) (.str "seq") && true) = decide (k = "seq")
        simp only [PyData.eqv, Bool.and_true]
        rfl
      | _ => rfl
    | cons b r =>
      have e1 : isSeqH (a :: b :: r) = false := by cases a <;> rfl
      rw [e1]
      simp [PyData.eqv, PyData.eqvAll]
structure HdOk (hd : List PyData) : Prop where
  ne : hd ≠ []
  can : PyData.canLayAll0 hd = true
  ln : hd.length ≤ 2
theorem can_let {x : Str} (h : nameOk x = true) : PyData.canLay0 (.str x) = true := by
  rw [nameOk_eq] at h
  have h1 := (Bool.and_eq_true_iff.mp h).2
  show (x.cps.all fun c => decide (c < 0x110000)) = true
  rw [← Array.all_toList]
  refine List.all_eq_true.mpr fun c hc => decide_eq_true ?_
  have h2 := of_decide_eq_true (List.all_eq_true.mp h1 c hc)
  have h3 : ∀ c ∈ letters, c < 1114112 := by decide +kernel
  exact h3 c h2
theorem headAt_ok {ws : List Str} {i : Nat} {hd : List PyData} {m i' : Nat} (h : headAt ws i = .ok hd m i') : i < i' ∧ i' ≤ ws.length ∧ HdOk hd ∧ m ≤ 400 := by
  unfold headAt at h
  cases hx : ws[i]? with
  | none => rw [hx] at h; cases h
  | some x =>
    rw [hx] at h
    have hi := (List.getElem?_eq_some_iff.mp hx).1
    have h : headW x i ws[i + 1]? = .ok hd m i' := h
    have nx : ∀ {p : Str → Bool} {y : Str}, ws[i + 1]?.filter p = some y → i + 1 < ws.length ∧ p y = true := fun {p y} e => by
      cases hy : ws[i + 1]? with
      | none => rw [hy] at e; cases e
      | some z =>
        rw [hy] at e
        cases hp : p z with
        | true => rw [filt_t hp] at e; cases e; exact ⟨(List.getElem?_eq_some_iff.mp hy).1, hp⟩
        | false => rw [filt_f hp] at e; cases e
    have can1 : ∀ {l : List Str}, (∀ z ∈ l, PyData.canLay0 (.str z) = true) → x ∈ l → PyData.canLay0 (.str x) = true := fun a b => a x b
    unfold headW at h
    split at h
    · rename_i hk
      have c := can1 (l := kRR) (by decide +kernel) hk
      cases h
      exact ⟨by omega, by omega, ⟨by simp, by simp only [PyData.canLayAll0, c] <;> rfl, by simp⟩, by omega⟩
    · split at h
      · rename_i hk
        have c := can1 (l := kTF) (by decide +kernel) hk
        cases h
        exact ⟨by omega, by omega, ⟨by simp, by simp only [PyData.canLayAll0, c] <;> rfl, by simp⟩, by omega⟩
      · cases e1 : kPrt.lookup x with
        | some k =>
          rw [e1] at h
          have mm := lookup_mem e1
          have c := can1 (l := kPrt.map (·.1)) (by decide +kernel) (List.mem_map_of_mem (f := (·.1)) mm)
          have kb : k.toNat ≤ 400 := by
            simp [kPrt] at mm
            omega
          cases e2 : ws[i + 1]?.filter nameOk with
          | none => rw [e2] at h; cases h
          | some y =>
            rw [e2] at h
            cases h
            obtain ⟨g1, g2⟩ := nx e2
            have c2 := can_let g2
            exact ⟨by omega, by omega, ⟨by simp, by simp only [PyData.canLayAll0, c, c2] <;> rfl, by simp⟩, kb⟩
        | none =>
          rw [e1] at h
          have h : (if x = "seq" then (match ws[i + 1]?.filter numOk with
              | some x' => HdR.ok [.str x] (numV x') (i + 2)
              | none => .bad (i + 1))
            else if x ∈ kJumps then (match ws[i + 1]?.filter numOk with
              | some x' => .ok [.str x, .int (numV x')] 0 (i + 2)
              | none => .bad (i + 1))
            else .bad i) = .ok hd m i' := h
          have nb : ∀ y, numOk y = true → numV y ≤ 400 := fun y z => by
            rw [numOk_eq] at z
            simp only [Bool.and_eq_true, decide_eq_true_eq] at z
            exact z.2.2.2
          split at h
          · rename_i hk
            have c := can1 (l := ["seq"]) (by decide +kernel) (by rw [hk]; exact List.mem_cons_self)
            cases e2 : ws[i + 1]?.filter numOk with
            | none => rw [e2] at h; cases h
            | some y =>
              rw [e2] at h
              cases h
              obtain ⟨g1, g2⟩ := nx e2
              exact ⟨by omega, by omega, ⟨by simp, by simp only [PyData.canLayAll0, c] <;> rfl, by simp⟩, nb y g2⟩
          · split at h
            · rename_i hk
              have c := can1 (l := kJumps) (by decide +kernel) hk
              cases e2 : ws[i + 1]?.filter numOk with
              | none => rw [e2] at h; cases h
              | some y =>
                rw [e2] at h
                cases h
                obtain ⟨g1, g2⟩ := nx e2
                exact ⟨by omega, by omega, ⟨by simp, by simp only [PyData.canLayAll0, c] <;> rfl, by simp⟩, by omega⟩
            · cases h
def sp_built (K : PySem.W.Frag) : Sp := fun vs H Q _ => ∃ (F : Hp) (h a : Addr) (hd ps : List PyData) (xs : List V), vs = [.ref h, .ref a] ∧ Ex F H ∧ Dp K F (.ref h) (.tuple hd) ∧ HdOk hd ∧ H a = some (.lst xs) ∧ DpAll K F xs ps ∧ ps ≠ [] ∧ ps.length ≤ 90000 ∧
  ∀ (F' H' : Hp) (b : Addr), Gr (fun _ => False) F H F' H' → Dp K F' (.ref b) (builtD hd ps) → Q (.ref b) H'
/-- what is begun: the tuples ts, the lists as, innermost first -/
inductive Stk (K : PySem.W.Frag) (F H : Hp) : List Addr → List Addr → List Fr → Prop
  | nil : Stk K F H [] [] []
  | cons {t h a : Addr} {ts as : List Addr} {f : Fr} {st : List Fr} {vs : List V} (ht : F t = some (.tup [.ref h, .int (f.m : Int), .ref a])) (hh : Dp K F (.ref h) (.tuple f.hd)) (ok : HdOk f.hd) (ha : H a = some (.lst vs)) (da : DpAll K F vs f.ps) (hm : f.ps.length < f.m) (h4 : f.m ≤ 400) (r : Stk K F H ts as st) : Stk K F H (t :: ts) (a :: as) (f :: st)
theorem Stk.mono {K : PySem.W.Frag} {F H F' H' : Hp} (e : Ex F F') : ∀ {ts as : List Addr} {st : List Fr}, Stk K F H ts as st → (∀ a ∈ as, ∀ o, H a = some o → H' a = some o) → Stk K F' H' ts as st
  | _, _, _, .nil, _ => .nil
  | _, _, _, .cons ht hh ok ha da hm h4 r, k => .cons (e _ _ ht) (dp_ex e hh) ok (k _ List.mem_cons_self _ ha) (dpA_ex e da) hm h4 (r.mono e fun a ha => k a (List.mem_cons_of_mem _ ha))
theorem Stk.there {K : PySem.W.Frag} {F H : Hp} : ∀ {ts as : List Addr} {st : List Fr}, Stk K F H ts as st → ∀ {a : Addr}, a ∈ as → ∃ o, H a = some o
  | _, _, _, .cons _ _ _ ha _ _ _ r, b, hb => by
    rcases List.mem_cons.mp hb with z | z
    · exact ⟨_, by rw [z]; exact ha⟩
    · exact r.there z
theorem Stk.len {K : PySem.W.Frag} {F H : Hp} : ∀ {ts as : List Addr} {st : List Fr}, Stk K F H ts as st → ts.length = st.length
  | _, _, _, .nil => rfl
  | _, _, _, .cons _ _ _ _ _ _ _ r => congrArg Nat.succ r.len
structure RdH (K : PySem.W.Frag) (F H : Hp) (rd dx wa ba : Addr) (i : Nat) (dv : V) (ts as : List Addr) (st : List Fr) : Prop where
  x : Ex F H
  ob : H rd = some (.ins (He.ga K "Reader") dx (fl_Reader (.ref wa) (.int (i : Int)) (.ref ba) dv))
  bl : H ba = some (.lst (ts.map V.ref).reverse)
  fr : F rd = none
  fb : F ba = none
  ne : rd ≠ ba
  sk : Stk K F H ts as st
  fa : ∀ a ∈ as, F a = none ∧ a ≠ rd ∧ a ≠ ba
  nd : as.Nodup
def sp_Rinit (K : PySem.W.Frag) : Sp := fun vs H Q _ => ∃ (p dx wa : Addr), vs = [.ref p, .ref wa] ∧ H p = some (.ins (He.ga K "Reader") dx []) ∧
  ∀ (H' : Hp) (ba : Addr), H ba = none → (∀ b o, H b = some o → b ≠ p → H' b = some o) → (∀ b, b ≠ p → b ≠ ba → H' b = H b) → H' p = some (.ins (He.ga K "Reader") dx (fl_Reader (.ref wa) (.int 0) (.ref ba) .non)) → H' ba = some (.lst []) → Q .non H'
def sp_close (K : PySem.W.Frag) : Sp := fun vs H Q _ => ∃ (F : Hp) (rd dx wa ba v : Addr) (i : Nat) (ts as : List Addr) (st : List Fr) (d : PyData), vs = [.ref rd, .ref v] ∧ RdH K F H rd dx wa ba i .non ts as st ∧ Dp K F (.ref v) d ∧ st.length ≤ 4000 ∧
  ∀ (F' H' : Hp) (dv : V) (ts' as' : List Addr), Gr (fun b => b = rd ∨ b = ba ∨ b ∈ as) F H F' H' → RdH K F' H' rd dx wa ba i dv ts' as' (closeP st d).1 → (∀ a ∈ as', a ∈ as) →
    (match (closeP st d).2 with
      | none => dv = .non
      | some d' => ∃ b, dv = .ref b ∧ Dp K F' (.ref b) d') → Q .non H'
section
variable {P : Program} {w : World} {h : Heap} {K : PySem.W.Frag} {mg : Str → Option Value} {base : Heap}
abbrev N_built : List Str := ["head", "parts"]
theorem sc_built : FnScope N_built ["head", "parts"] (defScope sd_built) := ⟨rfl, rfl, rfl, by decide +kernel, rfl, by decide +kernel, by decide +kernel⟩
theorem ok_built (T : Tx w h K mg) : Ok P w K mg base 1 ("built", none) ["head", "parts"] (sp_built K) := by
  obtain ⟨fd, F⟩ := F_built T
  refine ⟨fd, ?_, F.bindsN (fun _ _ _ _ _ _ us hl => match us, hl with | [_, _], _ => rfl), F.kp⟩
  refine F.ok sc_built (fun vs H Q E h => ?_) (fun cdv A outer s H vs Q E hr h => ?_)
  · obtain ⟨F, h0, a, hd, ps, xs, rfl, xF, dh, ok, ha, da, hne, hl, q⟩ := h
    rfl
  · obtain ⟨F, h0, a, hd, ps, xs, rfl, xF, dh, ok, ha, da, hne, hl, q⟩ := h
    refine ⟨_, PSs.nox (pss_cons (ps_if (pt_cmpR (op_eqM hr) (pv 0) (pe_tup (pa_cons pe_str pa_nil)) (nomark _)) (pss_one (ps_ret (pe_tup (pa_cons pe_str (pa_cons (pe_callTy call_tuple_of rfl (fr_tuple T) b_tuple (pa_cons (pv 1) pa_nil)) pa_nil))))) pss_nil) (pss_one (ps_ret (pe_op op_catT (pv 0) (pe_callTy call_tuple_of rfl (fr_tuple T) b_tuple (pa_cons (pv 1) pa_nil)))))), ?_⟩
    obtain ⟨a0, hx, e0, hS, hA⟩ := dp_tup dh
    cases e0
    have lx := dpA_len da
    refine ⟨_, rfl, sz (by simp), ?_⟩
    intro p1 n1
    generalize e1 : upd _ p1 _ = H1
    obtain ⟨x1, s1, o1⟩ := new_of e1 n1
    clear e1
    refine ⟨.tuple hd, .tuple [.str "seq"], dp_ex (xF.trans x1) dh, Dp.tup (Evl.st_of s1) (.cons (.str _) .nil), ok.can, (by kernel_rfl), Nat.le_trans (Nat.min_le_right _ _) (by decide), _, rfl, ?_⟩
    rw [eqv_seq]
    have ha1 := x1 _ _ ha
    refine ite_of (fun h1 => ?_) (fun h1 => ?_)
    · refine ⟨_, rfl, a, xs, rfl, .inl ⟨Evl.sq_of ha1, ?_⟩⟩
      intro p2 n2
      generalize e2 : upd _ p2 _ = H2
      obtain ⟨x2, s2, o2⟩ := new_of e2 n2
      clear e2
      refine ⟨sz (by simp), ?_⟩
      intro p3 n3
      generalize e3 : upd _ p3 _ = H3
      obtain ⟨x3, s3, o3⟩ := new_of e3 n3
      clear e3
      have g2 := (Gr.new (M := fun _ => False) xF x1).trans (Gr.frz (xF.trans x1) n2 s2 o2)
      have g3 := g2.trans (Gr.frz g2.fh n3 s3 o3)
      refine q _ _ p3 g3 ?_
      unfold builtD
      rw [if_pos h1]
      exact .tup (Evl.st_of upd_same) (.cons (.str _) (.cons (.tup (Evl.st_of (by rw [upd_ne (fun z => by rw [← z, s2] at n3; cases n3), upd_same])) (dpA_ex (exu (exu (Evl.Ex.refl _) (ex_none (xF.trans x1) n2)) (ex_none g2.fh n3)) da)) .nil))
    · refine ⟨_, rfl, _, rfl, a, xs, rfl, .inl ⟨Evl.sq_of ha1, ?_⟩⟩
      intro p2 n2
      generalize e2 : upd _ p2 _ = H2
      obtain ⟨x2, s2, o2⟩ := new_of e2 n2
      clear e2
      have ln := ok.ln
      have lh := dpA_len hA
      refine ⟨h0, p2, _, _, rfl, rfl, Evl.ex_t (xF.trans (x1.trans x2)) hS, Evl.st_of s2, (fun z => ok.ne (by have := congrArg List.length z; rw [lh] at this; exact List.length_eq_zero_iff.mp this)), sz (by omega), (fun z => absurd (by have := congrArg List.length z; rw [lx] at this; exact List.length_eq_zero_iff.mp this) hne), fun _ => ?_⟩
      intro p3 n3
      generalize e3 : upd _ p3 _ = H3
      obtain ⟨x3, s3, o3⟩ := new_of e3 n3
      clear e3
      have g2 := Gr.new (M := fun _ => False) xF (x1.trans x2)
      refine q _ _ p3 (g2.trans (Gr.frz g2.fh n3 s3 o3)) ?_
      unfold builtD
      rw [h1, if_neg (by decide)]
      exact .tup (Evl.st_of upd_same) (dpA_ex (exu (Evl.Ex.refl _) (ex_none g2.fh n3)) (dpA_app hA da))
abbrev N_Reader___init__ : List Str := ["self", "words"]
theorem sc_Reader___init__ : FnScope N_Reader___init__ ["self", "words"] (defScope sd_Reader___init__) := ⟨rfl, rfl, rfl, by decide +kernel, rfl, by decide +kernel, by decide +kernel⟩
theorem ok_Reader___init__ (T : Tx w h K mg) : Ok P w K mg base 1 ("Reader", some "__init__") ["self", "words"] (sp_Rinit K) := by
  obtain ⟨fd, F⟩ := F_Reader___init__ T
  refine ⟨fd, ?_, F.bindsN (fun _ _ _ _ _ _ us hl => match us, hl with | [_, _], _ => rfl), F.kp⟩
  refine F.ok sc_Reader___init__ (fun vs H Q E h => ?_) (fun cdv A outer s H vs Q E hr h => ?_)
  · obtain ⟨p, dx, wa, rfl, hp, q⟩ := h
    rfl
  · obtain ⟨p, dx, wa, rfl, hp, q⟩ := h
    refine ⟨_, PSs.nox (pss_cons (ps_fld (pv 0) (pv 1) rfl) (pss_cons (ps_fld (pv 0) pe_int rfl) (pss_cons (ps_fld (pv 0) (pe_lst pa_nil) rfl) (pss_one (ps_fld (pv 0) pe_non rfl))))), ?_⟩
    refine ⟨_, rfl, _, rfl, p, _, dx, _, rfl, hp, c_Reader T, na_Reader_words T, (by simp), ?_⟩
    rw [fi_Reader_0]
    refine ⟨_, rfl, p, _, dx, _, rfl, upd_same, c_Reader T, na_Reader_at T, (by simp), ?_⟩
    rw [fi_Reader_1, upd_upd]
    generalize e1 : upd _ p _ = H1
    obtain ⟨s1, o1⟩ := set_of e1
    clear e1
    refine ⟨sz (by simp), ?_⟩
    intro p2 n2
    generalize e2 : upd _ p2 _ = H2
    obtain ⟨x2, s2, o2⟩ := new_of e2 n2
    clear e2
    have pn : p ≠ p2 := fun z => by rw [← z, s1] at n2; cases n2
    refine ⟨_, rfl, p, _, dx, _, rfl, x2 _ _ s1, c_Reader T, na_Reader_begun T, (by simp), ?_⟩
    rw [fi_Reader_2]
    refine ⟨_, rfl, p, _, dx, _, rfl, upd_same, c_Reader T, na_Reader_done T, (by simp), ?_⟩
    rw [fi_Reader_3, upd_upd]
    generalize e3 : upd _ p _ = H3
    obtain ⟨s3, o3⟩ := set_of e3
    clear e3
    have h0 : H p2 = none := by rw [← o1 p2 (fun z => pn z.symm)]; exact n2
    have of_ : ∀ b, b ≠ p → b ≠ p2 → H3 b = H b := fun b h1 h2 => by rw [o3 b h1, o2 b h2, o1 b h1]
    exact q H3 p2 h0 (fun b o e hb => by rw [of_ b hb (ne_of_none e h0)]; exact e) of_ s3 (by rw [o3 p2 (fun z => pn z.symm)]; exact s2)
abbrev N_Reader_close : List Str := ["self", "statement", "head", "many", "parts"]
theorem sc_Reader_close : FnScope N_Reader_close ["self", "statement"] (defScope sd_Reader_close) := ⟨rfl, rfl, rfl, by decide +kernel, rfl, by decide +kernel, by decide +kernel⟩
theorem ok_Reader_close (T : Tx w h K mg) : Ok P w K mg base 3 ("Reader", some "close") ["self", "statement"] (sp_close K) := by
  obtain ⟨fd, F⟩ := F_Reader_close T
  refine ⟨fd, ?_, F.bindsN (fun _ _ _ _ _ _ us hl => match us, hl with | [_, _], _ => rfl), F.kp⟩
  obtain ⟨fd_built, G_built, bi_built, kp_built⟩ := ok_built (P := P) (base := base) T
  refine F.ok sc_Reader_close (fun vs H Q E h => ?_) (fun cdv A outer s H vs Q E hr h => ?_)
  · obtain ⟨F, rd, dx, wa, ba, v, i, ts, as, st, d, rfl, R, dv, hl, q⟩ := h
    rfl
  · obtain ⟨F, rd, dx, wa, ba, v, i, ts, as, st, d, rfl, R, dv, hl, q⟩ := h
    refine ⟨_, PSs.nox (pss_cons (ps_while PassesOwn.never (pt_cmpR (op_ne0 hr) (pe_fld (pv 0) rfl) (pe_lst pa_nil) (nomark _)) (pss_cons (ps_asg (pe_ix ix_list (pe_fld (pv 0) rfl) (pe_un un_neg pe_int) (fun _ _ => rfl)) (pg_tup rfl (pgs_cons (pg_name (i := 2) sc_Reader_close.nd rfl (Or.inl rfl)) (pgs_cons (pg_name (i := 3) sc_Reader_close.nd rfl (Or.inl rfl)) (pgs_cons (pg_name (i := 4) sc_Reader_close.nd rfl (Or.inl rfl)) pgs_nil))))) (pss_cons (ps_expr (pe_bm PySem.F.plainAttrs_list PySem.F.slot_list_append PySem.F.type_list_append mt_append (pv 4) (pa_cons (pv 1) pa_nil))) (pss_cons (ps_if (pt_cmpR op_lt (pe_callB call_len_seq rfl (fr_len T) b_len (pa_cons (pv 4) pa_nil)) (pv 3) (nomark _)) (pss_one ps_retN) pss_nil) (pss_cons (ps_expr (pe_bm0 PySem.F.plainAttrs_list PySem.F.slot_list_pop PySem.F.type_list_pop mt_pop (pe_fld (pv 0) rfl))) (pss_one (ps_set (i := 1) sc_Reader_close.nd rfl (Or.inl rfl) (pe_call G_built (hr.mono (by decide)) rfl (g_built T) kp_built bi_built .nil passF (pa_cons (pv 2) (pa_cons (pv 4) pa_nil)))))))))) (pss_one (ps_fld (pv 0) (pv 1) rfl))), ?_⟩
    refine ⟨fun m σ' H' => ∃ (F2 : Hp) (v2 : Addr) (ts2 as2 : List Addr) (st2 : List Fr) (d2 : PyData) (o2 o3 o4 : Option V), σ' = [some (.ref rd), some (.ref v2), o2, o3, o4] ∧ Gr (fun b => b = rd ∨ b = ba ∨ b ∈ as) F H F2 H' ∧ RdH K F2 H' rd dx wa ba i .non ts2 as2 st2 ∧ Dp K F2 (.ref v2) d2 ∧ (∀ a ∈ as2, a ∈ as) ∧ closeP st2 d2 = closeP st d ∧ st2.length = m,
      ⟨st.length, F, v, ts, as, st, d, none, none, none, rfl, Gr.refl R.x, R, dv, fun _ h => h, rfl, rfl⟩, ?_⟩
    rintro m σ' H' ⟨F2, v2, ts2, as2, st2, d2, o2, o3, o4, rfl, gr, R2, dv2, hsub, ec, hm⟩
    refine ⟨_, rfl, rd, _, _, _, _, rfl, R2.ob, c_Reader T, na_Reader_begun T, fl_Reader_begun _ _ _ _, sz (by simp), ?_⟩
    intro p1 n1
    generalize e1 : upd _ p1 _ = H1
    obtain ⟨x1, s1, o1⟩ := new_of e1 n1
    clear e1
    refine ⟨ba, p1, _, rfl, rfl, Evl.sq_of (x1 _ _ R2.bl), Evl.sq_of s1, _, rfl, ?_⟩
    have gr1 := gr.trans (Gr.new gr.fh x1)
    have bl1 := x1 _ _ R2.bl
    have ob1 := x1 _ _ R2.ob
    have sk := R2.sk
    cases st2 with
    | nil =>
      cases sk
      refine itF rfl ?_
      have ec : ([], some d2) = closeP st d := ec
      refine ⟨_, rfl, _, rfl, rd, _, dx, _, rfl, ob1, c_Reader T, na_Reader_done T, (by simp [fl_Reader]), ?_⟩
      rw [fp_Reader_done]
      generalize e3 : upd _ rd _ = H3
      obtain ⟨s3, o3⟩ := set_of e3
      clear e3
      have g3 := gr1.trans (Gr.set gr1.fh (.inl rfl) R2.fr o3)
      refine q F2 H3 (.ref v2) [] [] g3 ?_ (fun a z => by cases z) ?_
      · rw [← ec]
        exact ⟨g3.fh, s3, by rw [o3 ba R2.ne.symm]; exact bl1, R2.fr, R2.fb, R2.ne, .nil, fun a z => (by cases z), List.nodup_nil⟩
      · rw [← ec]
        exact ⟨v2, rfl, dv2⟩
    | cons f st2 =>
    cases sk with
    | @cons t hh a ts2 as2 _ _ vs ht dh ok ha da hm2 h4 r =>
    rw [List.map_cons, List.reverse_cons] at bl1 ⊢
    refine itT (by simp) ?_
    refine ⟨fun σ' H' => _, fun σ' H' h => ⟨st2.length, by rw [← hm]; exact Nat.lt_succ_self _, h⟩, ?_⟩
    have fa := R2.fa
    obtain ⟨Fa, ard, aba⟩ := fa a List.mem_cons_self
    have nd := List.nodup_cons.mp R2.nd
    refine ⟨_, rfl, rd, _, _, _, _, rfl, ob1, c_Reader T, na_Reader_begun T, fl_Reader_begun _ _ _ _, 1, rfl, ba, _, _, .ref t, rfl, rfl, Evl.sq_of bl1, atI_last _ _, ?_⟩
    refine ⟨t, _, rfl, Evl.st_of (x1 _ _ (R2.x _ _ ht)), rfl, _, _, rfl, _, _, rfl, _, _, rfl, rfl, ?_⟩
    have ha1 := x1 _ _ ha
    have lv := dpA_len da
    refine ⟨_, rfl, Or.inl ⟨rfl, _, Evl.sq_of ha1⟩, _, rfl, a, _, _, rfl, rfl, ha1, szl (by omega), ?_⟩
    generalize e4 : upd _ a _ = H4
    obtain ⟨s4, o4⟩ := set_of e4
    clear e4
    have g4 := gr1.trans (Gr.set gr1.fh (.inr (.inr (hsub a List.mem_cons_self))) Fa o4)
    have bl4 : H4 ba = some (.lst ((ts2.map V.ref).reverse ++ [.ref t])) := by rw [o4 ba aba.symm]; exact bl1
    have ob4 := ob1
    rw [← o4 rd ard.symm] at ob4
    have sk4 : Stk K F2 H4 ts2 as2 st2 := r.mono (Evl.Ex.refl _) fun b hb o e => by rw [o4 b (fun z => nd.1 (z ▸ hb))]; exact x1 _ _ e
    have da4 : DpAll K F2 (vs ++ [.ref v2]) (f.ps ++ [d2]) := dpA_app da (.cons dv2 .nil)
    refine ⟨_, rfl, a, _, rfl, .inl (Evl.sq_of s4), _, rfl, _, _, rfl, rfl, _, rfl, ite_of (fun h5 => ?_) (fun h5 => ?_)⟩
    · have h5 : f.ps.length + 1 < f.m := by
        have := of_decide_eq_true h5
        rw [List.length_append, lv] at this
        simp at this
        omega
      have ec : (⟨f.hd, f.m, f.ps ++ [d2]⟩ :: st2, none) = closeP st d := by
        rw [← ec]
        show _ = (if f.ps.length + 1 < f.m then _ else _)
        rw [if_pos h5]
      refine q F2 H4 .non (t :: ts2) (a :: as2) g4 ?_ hsub (by rw [← ec])
      rw [← ec]
      exact ⟨g4.fh, ob4, by rw [List.map_cons, List.reverse_cons]; exact bl4, R2.fr, R2.fb, R2.ne, .cons (f := ⟨f.hd, f.m, f.ps ++ [d2]⟩) ht dh ok s4 da4 (by simp; exact h5) h4 sk4, fa, R2.nd⟩
    · have h5 : ¬ f.ps.length + 1 < f.m := fun z => of_decide_eq_false h5 (by
        rw [List.length_append, lv]
        simp
        omega)
      have ec : closeP st2 (builtD f.hd (f.ps ++ [d2])) = closeP st d := by
        rw [← ec]
        show _ = (if f.ps.length + 1 < f.m then _ else _)
        rw [if_neg h5]
      refine ⟨_, rfl, rd, _, _, _, _, rfl, ob4, c_Reader T, na_Reader_begun T, fl_Reader_begun _ _ _ _, Or.inl ⟨rfl, _, Evl.sq_of bl4⟩, ba, _, .ref t, rfl, rfl, bl4, (by simp), ?_⟩
      rw [List.dropLast_concat]
      generalize e5 : upd _ ba _ = H5
      obtain ⟨s5, o5⟩ := set_of e5
      clear e5
      have g5 := g4.trans (Gr.set g4.fh (.inr (.inl rfl)) R2.fb o5)
      have s5a : H5 a = some (.lst (vs ++ [.ref v2])) := by rw [o5 a aba]; exact s4
      refine ⟨_, rfl, _, rfl, F2, hh, a, f.hd, f.ps ++ [d2], _, rfl, g5.fh, dh, ok, s5a, da4, (by simp), (by simp; omega), fun F6 H6 b g6 db => ?_⟩
      have k6 : ∀ c o, H5 c = some o → H6 c = some o := g6.ex
      refine ⟨F6, b, ts2, as2, st2, _, _, _, _, rfl, g5.trans (g6.mono fun _ z => z.elim), ⟨g6.fh, k6 _ _ (by rw [o5 rd R2.ne]; exact ob4), k6 _ _ s5, ?_, ?_, R2.ne, ?_, ?_, nd.2⟩, db, fun c hc => hsub c (List.mem_cons_of_mem _ hc), ec, rfl⟩
      · exact g6.nw rd (by rw [o5 rd R2.ne, ob4]; exact fun z => nomatch z) R2.fr id
      · exact g6.nw ba (by rw [s5]; exact fun z => nomatch z) R2.fb id
      · exact sk4.mono g6.ff fun c hc o e => k6 c o (by rw [o5 c (fa c (List.mem_cons_of_mem _ hc)).2.2]; exact e)
      · intro c hc
        obtain ⟨c1, c2, c3⟩ := fa c (List.mem_cons_of_mem _ hc)
        refine ⟨g6.nw c ?_ c1 id, c2, c3⟩
        rw [o5 c c3]
        obtain ⟨o, eo⟩ := sk4.there hc
        rw [eo]
        exact fun z => nomatch z
end

end Fc

set_option maxRecDepth 100000
set_option maxHeartbeats 4000000
namespace Fc
open PySem PySem.Spec PyProof.Rows L2 FcR
open Evl (Ex)
/-! ### more of drawn statements (plain) -/
open TL (tl numL)
theorem okS_down {l dp b w : Nat} {d : PyData} (h : OkS l dp b w d) : ∀ {dp'}, dp' ≤ dp → OkS l dp' b w d := by
  induction h with
  | @mk loops deep blocks d wt st hd hb ps ih =>
    intro dp' hdp
    exact .mk wt st (by omega) hb fun i p hp => ih i p hp (by omega)
theorem wl_le (d : PyData) : wl d ≤ 1 := by unfold wl; split <;> omega
/-- a statement's own text, its parts told by G -/
theorem seq_parts {p : PyData} {ps : List PyData} (h : (partsD (.tuple [.str "seq", .tuple (p :: ps)])).length ≤ 400) : partsD (.tuple [.str "seq", .tuple (p :: ps)]) = p :: ps := by
  have e0 : partsD (.tuple [.str "seq", .tuple (p :: ps)]) = (p :: ps).take 401 := rfl
  rw [e0, List.length_take] at h
  rw [e0]
  exact List.take_of_length_le (by omega)
theorem name_len {x : Str} (h : nameOk x = true) : x.length ≤ 8 := by
  rw [nameOk_eq] at h
  simp only [Bool.and_eq_true, decide_eq_true_eq] at h
  omega
theorem okS_gs {l dp b w : Nat} {d : PyData} (h : OkS l dp b w d) : w ≤ 400 → GS d := by
  induction h with
  | @mk loops deep blocks d wt st hd hb ps ih =>
    intro hw
    have pl : (partsD d).length ≤ 400 := by
      have := sum_ge_of wt (partsD d).length fun j hj => okS_pos (ps j _ (List.getElem?_eq_getElem hj))
      omega
    have gp : ∀ x ∈ partsD d, GS x := fun x hx => by
      obtain ⟨i, hi⟩ := List.mem_iff_getElem?.mp hx
      have := sum_le_of wt _ i (List.getElem?_eq_some_iff.mp hi).1
      exact ih i x hi (by omega)
    have cp : ∀ x ∈ partsD d, PyData.canLay0 x = true := fun x hx => (gs_parts (gp x hx)).1
    have key : PyData.canLay0 d = true ∧ szD d ∧ ∀ x, d = .str x → x.length ≤ 100000 := by
      have cc : ∀ a b : PyData, PyData.canLayAll0 [a, b] = (PyData.canLay0 a && PyData.canLay0 b) := fun a b => by simp [PyData.canLayAll0]
      cases sv_of st with
      | do_ x =>
        have c := can_let (x := x) st
        exact ⟨by show (PyData.canLay0 (.str "do") && (PyData.canLay0 (.str x) && true)) = true; rw [c]; kernel_rfl, fun k y r e => (by cases e; have := name_len (x := x) st; omega), fun x e => by cases e⟩
      | call x =>
        have c := can_let (x := x) st
        exact ⟨by show (PyData.canLay0 (.str "call") && (PyData.canLay0 (.str x) && true)) = true; rw [c]; kernel_rfl, fun k y r e => (by cases e; have := name_len (x := x) st; omega), fun x e => by cases e⟩
      | iff x a b =>
        have c := can_let (x := x) st
        have ca := cp a (show a ∈ [a, b] by simp)
        have cb := cp b (show b ∈ [a, b] by simp)
        exact ⟨by show (PyData.canLay0 (.str "if") && (PyData.canLay0 (.str x) && (PyData.canLay0 a && (PyData.canLay0 b && true)))) = true; rw [c, ca, cb]; kernel_rfl, fun k y r e => (by cases e; have := name_len (x := x) st; omega), fun x e => by cases e⟩
      | whl x a =>
        have c := can_let (x := x) st
        have ca := cp a (show a ∈ [a] by simp)
        exact ⟨by show (PyData.canLay0 (.str "while") && (PyData.canLay0 (.str x) && (PyData.canLay0 a && true))) = true; rw [c, ca]; kernel_rfl, fun k y r e => (by cases e; have := name_len (x := x) st; omega), fun x e => by cases e⟩
      | seq p ps' =>
        rw [seq_parts pl] at cp
        refine ⟨?_, fun k y r e => (by cases e), fun x e => by cases e⟩
        show (PyData.canLay0 (.str "seq") && (PyData.canLayAll0 (p :: ps') && true)) = true
        rw [canAll cp]
        kernel_rfl
      | brk n h1 h2 => exact ⟨by kernel_rfl, fun k y r e => (by cases e), fun x e => by cases e⟩
      | cnt n h1 h2 => exact ⟨by kernel_rfl, fun k y r e => (by cases e), fun x e => by cases e⟩
      | ret => exact ⟨by kernel_rfl, fun k y r e => (by cases e), fun x e => by cases e⟩
      | rai => exact ⟨by kernel_rfl, fun k y r e => (by cases e), fun x e => by cases e⟩
      | tr a b =>
        have ca := cp a (show a ∈ [a, b] by simp)
        have cb := cp b (show b ∈ [a, b] by simp)
        refine ⟨?_, fun k y r e => ?_, fun x e => by cases e⟩
        · show (PyData.canLay0 (.str "try") && (PyData.canLay0 a && (PyData.canLay0 b && true))) = true
          rw [ca, cb]
          kernel_rfl
        · cases e
          have := okS_st (ps 0 _ rfl)
          cases sv_of this
      | fin a b =>
        have ca := cp a (show a ∈ [a, b] by simp)
        have cb := cp b (show b ∈ [a, b] by simp)
        refine ⟨?_, fun k y r e => ?_, fun x e => by cases e⟩
        · show (PyData.canLay0 (.str "final") && (PyData.canLay0 a && (PyData.canLay0 b && true))) = true
          rw [ca, cb]
          kernel_rfl
        · cases e
          have := okS_st (ps 0 _ rfl)
          cases sv_of this
    exact .mk key.1 key.2.1 gp key.2.2
theorem depth_all {l : List PyData} {m : Nat} (h : ∀ d ∈ l, d.depth ≤ m) : PyData.depthAll l ≤ m := by
  induction l with
  | nil => exact Nat.zero_le _
  | cons a l ih =>
    have h1 := h a List.mem_cons_self
    have h2 := ih fun d hd => h d (List.mem_cons_of_mem _ hd)
    simp only [PyData.depthAll]
    omega
theorem okS_depth {l dp b w : Nat} {d : PyData} (h : OkS l dp b w d) : w ≤ 400 → d.depth ≤ 2 * (101 - dp) := by
  induction h with
  | @mk loops deep blocks d wt st hd hb ps ih =>
    intro hw
    have pl : (partsD d).length ≤ 400 := by
      have := sum_ge_of wt (partsD d).length fun j hj => okS_pos (ps j _ (List.getElem?_eq_getElem hj))
      omega
    have dp_ : ∀ x ∈ partsD d, x.depth ≤ 2 * (101 - (deep + 1)) := fun x hx => by
      obtain ⟨i, hi⟩ := List.mem_iff_getElem?.mp hx
      have := sum_le_of wt _ i (List.getElem?_eq_some_iff.mp hi).1
      exact ih i x hi (by omega)
    cases sv_of st with
    | seq p ps' =>
      rw [seq_parts pl] at dp_
      have := depth_all dp_
      simp only [PyData.depth]
      rw [show PyData.depthAll [PyData.str (Str.ofString "seq"), .tuple (p :: ps')] = max (PyData.depth (.str "seq")) (max (PyData.depth (.tuple (p :: ps'))) 0) from rfl]
      simp only [PyData.depth]
      omega
    | iff x a b =>
      have ha := dp_ a (show a ∈ [a, b] by simp)
      have hb := dp_ b (show b ∈ [a, b] by simp)
      simp only [PyData.depth, PyData.depthAll]
      omega
    | whl x a =>
      have ha := dp_ a (show a ∈ [a] by simp)
      simp only [PyData.depth, PyData.depthAll]
      omega
    | tr a b =>
      have ha := dp_ a (show a ∈ [a, b] by simp)
      have hb := dp_ b (show b ∈ [a, b] by simp)
      simp only [PyData.depth, PyData.depthAll]
      omega
    | fin a b =>
      have ha := dp_ a (show a ∈ [a, b] by simp)
      have hb := dp_ b (show b ∈ [a, b] by simp)
      simp only [PyData.depth, PyData.depthAll]
      omega
    | _ =>
      simp only [PyData.depth, PyData.depthAll]
      omega
mutual
def clean : PyData → Bool
  | .str _ => true
  | .int _ => true
  | .tuple l => cleanA l
  | _ => false
def cleanA : List PyData → Bool
  | [] => true
  | a :: l => clean a && cleanA l
end
mutual
theorem eqv_eq : ∀ (d e : PyData), clean d = true → clean e = true → PyData.eqv d e = true → d = e
  | .str x, .str y, _, _, h => by
    have : (x == y) = true := h
    rw [eq_of_beq this]
  | .int i, .int j, _, _, h => by
    have : (i == j) = true := h
    rw [eq_of_beq this]
  | .tuple l, .tuple m, h1, h2, h => by
    have := eqvA_eq l m h1 h2 h
    rw [this]
  | .str _, .int _, _, _, h => by cases h
  | .str _, .tuple _, _, _, h => by cases h
  | .int _, .str _, _, _, h => by cases h
  | .int _, .tuple _, _, _, h => by cases h
  | .tuple _, .str _, _, _, h => by cases h
  | .tuple _, .int _, _, _, h => by cases h
  | .none, _, h, _, _ => by cases h
  | .bool _, _, h, _, _ => by cases h
  | .list _, _, h, _, _ => by cases h
  | .dict _, _, h, _, _ => by cases h
  | _, .none, _, h, _ => by cases h
  | _, .bool _, _, h, _ => by cases h
  | _, .list _, _, h, _ => by cases h
  | _, .dict _, _, h, _ => by cases h
theorem eqvA_eq : ∀ (l m : List PyData), cleanA l = true → cleanA m = true → PyData.eqvAll l m = true → l = m
  | [], [], _, _, _ => rfl
  | a :: l, b :: m, h1, h2, h => by
    have h1 := Bool.and_eq_true_iff.mp (show (clean a && cleanA l) = true from h1)
    have h2 := Bool.and_eq_true_iff.mp (show (clean b && cleanA m) = true from h2)
    have h := Bool.and_eq_true_iff.mp (show (PyData.eqv a b && PyData.eqvAll l m) = true from h)
    rw [eqv_eq a b h1.1 h2.1 h.1, eqvA_eq l m h1.2 h2.2 h.2]
  | [], _ :: _, _, _, h => by cases h
  | _ :: _, [], _, _, h => by cases h
end
theorem cleanA_all {l : List PyData} (h : ∀ d ∈ l, clean d = true) : cleanA l = true := by
  induction l with
  | nil => rfl
  | cons a l ih =>
    show (clean a && cleanA l) = true
    rw [h a List.mem_cons_self, ih fun d hd => h d (List.mem_cons_of_mem _ hd)] <;> rfl
theorem okS_clean {l dp b w : Nat} {d : PyData} (h : OkS l dp b w d) : w ≤ 400 → clean d = true := by
  induction h with
  | @mk loops deep blocks d wt st hd hb ps ih =>
    intro hw
    have pl : (partsD d).length ≤ 400 := by
      have := sum_ge_of wt (partsD d).length fun j hj => okS_pos (ps j _ (List.getElem?_eq_getElem hj))
      omega
    have cp : ∀ x ∈ partsD d, clean x = true := fun x hx => by
      obtain ⟨i, hi⟩ := List.mem_iff_getElem?.mp hx
      have := sum_le_of wt _ i (List.getElem?_eq_some_iff.mp hi).1
      exact ih i x hi (by omega)
    cases sv_of st with
    | seq p ps' =>
      rw [seq_parts pl] at cp
      show (true && (cleanA (p :: ps') && true)) = true
      rw [cleanA_all cp] <;> rfl
    | iff x a b =>
      have ha := cp a (show a ∈ [a, b] by simp)
      have hb := cp b (show b ∈ [a, b] by simp)
      show (true && (true && (clean a && (clean b && true)))) = true
      rw [ha, hb] <;> rfl
    | whl x a =>
      have ha := cp a (show a ∈ [a] by simp)
      show (true && (true && (clean a && true))) = true
      rw [ha] <;> rfl
    | tr a b =>
      have ha := cp a (show a ∈ [a, b] by simp)
      have hb := cp b (show b ∈ [a, b] by simp)
      show (true && (clean a && (clean b && true))) = true
      rw [ha, hb] <;> rfl
    | fin a b =>
      have ha := cp a (show a ∈ [a, b] by simp)
      have hb := cp b (show b ∈ [a, b] by simp)
      show (true && (clean a && (clean b && true))) = true
      rw [ha, hb] <;> rfl
    | _ => rfl
theorem okS_eqv {l dp b w l' dp' b' w' : Nat} {d e : PyData} (h : OkS l dp b w d) (hw : w ≤ 400) (h' : OkS l' dp' b' w' e) (hw' : w' ≤ 400) : PyData.eqv d e = true ↔ d = e :=
  ⟨fun z => eqv_eq d e (okS_clean h hw) (okS_clean h' hw') z, fun z => by rw [z]; exact PySem.SeqAt.eqv_refl _ (gs_parts (okS_gs h' hw')).1⟩
/-- a statement with other parts -/
def wrapD (d : PyData) (ps : List PyData) : PyData := match d with
  | .tuple (.str k :: r) => if k = "seq" then .tuple [.str "seq", .tuple ps] else .tuple (.str k :: (r.take (r.length - ps.length) ++ ps))
  | _ => d
theorem wrapD_ok {l : Int} {d : PyData} {ps : List PyData} (st : isStm d l = true) (hne : partsD d ≠ []) (hl : ps.length = (partsD d).length) (h4 : (partsD d).length ≤ 400) : isStm (wrapD d ps) l = true ∧ partsD (wrapD d ps) = ps ∧ kindD (wrapD d ps) = kindD d := by
  cases sv_of st with
  | seq p qs =>
    have e : wrapD (.tuple [.str "seq", .tuple (p :: qs)]) ps = .tuple [.str "seq", .tuple ps] := rfl
    rw [e]
    cases ps with
    | nil => rw [seq_parts h4] at hl; cases hl
    | cons a ps => exact ⟨rfl, seq_parts (show (partsD (.tuple [.str "seq", .tuple (a :: ps)])).length ≤ 400 from by
        rw [← hl] at h4
        have e0 : partsD (.tuple [.str "seq", .tuple (a :: ps)]) = (a :: ps).take 401 := rfl
        rw [e0, List.length_take]
        omega), rfl⟩
  | iff x a b =>
    obtain ⟨a', b', rfl⟩ := len_two (show ps.length = 2 from hl)
    exact ⟨st, rfl, rfl⟩
  | whl x a =>
    obtain ⟨a', rfl⟩ := len_one (show ps.length = 1 from hl)
    exact ⟨st, rfl, rfl⟩
  | tr a b =>
    obtain ⟨a', b', rfl⟩ := len_two (show ps.length = 2 from hl)
    exact ⟨rfl, rfl, rfl⟩
  | fin a b =>
    obtain ⟨a', b', rfl⟩ := len_two (show ps.length = 2 from hl)
    exact ⟨rfl, rfl, rfl⟩
  | do_ x => exact absurd rfl hne
  | call x => exact absurd rfl hne
  | brk n h1 h2 => exact absurd rfl hne
  | cnt n h1 h2 => exact absurd rfl hne
  | ret => exact absurd rfl hne
  | rai => exact absurd rfl hne
theorem wl_kind {d e : PyData} (h : kindD d = kindD e) : wl d = wl e := by unfold wl; rw [h]
/-- texts behind one another -/
theorem joinL_app (S : List Nat) : ∀ (a b : List (List Nat)), a ≠ [] → b ≠ [] → TL.joinL S (a ++ b) = TL.joinL S a ++ (S ++ TL.joinL S b)
  | [], _, h, _ => absurd rfl h
  | [p], b, _, hb => by
    cases b with
    | nil => exact absurd rfl hb
    | cons q r => rfl
  | p :: q :: r, b, _, hb => by
    show p ++ (S ++ TL.joinL S ((q :: r) ++ b)) = (p ++ (S ++ TL.joinL S (q :: r))) ++ (S ++ TL.joinL S b)
    rw [joinL_app S (q :: r) b (by simp) hb]
    simp
theorem join_app (y : Str) {a b : List Str} (ha : a ≠ []) (hb : b ≠ []) : Txt.join y (a ++ b) = Txt.join y a ++ (y ++ Txt.join y b) := by
  refine TL.ext_tl ?_
  rw [TL.tl_append, TL.tl_append]
  rw [TL.join_eq, TL.join_eq, TL.join_eq, TL.tl_join, TL.tl_join, TL.tl_join, List.map_append]
  exact joinL_app _ _ _ (fun z => ha (List.map_eq_nil_iff.mp z)) (fun z => hb (List.map_eq_nil_iff.mp z))
theorem join_two (y a b : Str) : Txt.join y [a, b] = a ++ (y ++ b) := by
  have e := join_app y (a := [a]) (b := [b]) (by simp) (by simp)
  have o : ∀ z : Str, Txt.join y [z] = z := fun z => by rw [TL.join_eq]; rfl
  rw [o, o] at e
  exact e
theorem join_cons (y a : Str) {b : List Str} (hb : b ≠ []) : Txt.join y (a :: b) = a ++ (y ++ Txt.join y b) := by
  have e := join_app y (a := [a]) (b := b) (by simp) hb
  have o : Txt.join y [a] = a := by rw [TL.join_eq]; rfl
  rw [o] at e
  exact e

end Fc

set_option maxRecDepth 100000
set_option maxHeartbeats 4000000
namespace Fc
open PySem PySem.Spec PyProof.Rows L2 FcR
open Evl (Ex)
/-! ### what is read is its own text (plain) -/
open TL (tl numL)
theorem num3 : (∀ a : Fin 10, a.val ≠ 0 → numL a.val = [48 + a.val]) ∧ (∀ a b : Fin 10, a.val ≠ 0 → numL (a.val * 10 + b.val) = [48 + a.val, 48 + b.val]) ∧ (∀ a b c : Fin 10, a.val ≠ 0 → numL ((a.val * 10 + b.val) * 10 + c.val) = [48 + a.val, 48 + b.val, 48 + c.val]) := by decide +kernel
theorem numOk_back {x : Str} (h : numOk x = true) : 1 ≤ numV x ∧ numV x ≤ 400 ∧ x = Str.ofString (toString (numV x : Int)) := by
  have h' := h
  rw [numOk_eq] at h
  simp only [Bool.and_eq_true, decide_eq_true_eq] at h
  obtain ⟨⟨h1, h2⟩, h3, h4, h5⟩ := h
  have dg := digs_all h4
  have lx : x.length = (tl x).length := TL.len_tl x
  have key : numL (numV x) = tl x ∧ 1 ≤ numV x := by
    unfold numV
    have h3 : ((tl x).head? == some 48) = false := by simpa using h3
    generalize tl x = l at h3 dg lx
    have fin : ∀ c, c ∈ l → ∃ f : Fin 10, c = 48 + f.val := fun c hc => by
      have := dg c hc
      exact ⟨⟨c - 48, by omega⟩, by show c = 48 + (c - 48); omega⟩
    match l, h3, lx, fin with
    | [], _, lx, _ => simp at lx; omega
    | [a], h3, _, fin =>
      obtain ⟨fa, rfl⟩ := fin a (by simp)
      have z : fa.val ≠ 0 := fun z => by rw [z] at h3; simp at h3
      have e : NumText.digitsVal [48 + fa.val] = fa.val := by simp [NumText.digitsVal]
      rw [e]
      exact ⟨num3.1 fa z, by omega⟩
    | [a, b], h3, _, fin =>
      obtain ⟨fa, rfl⟩ := fin a (by simp)
      obtain ⟨fb, rfl⟩ := fin b (by simp)
      have z : fa.val ≠ 0 := fun z => by rw [z] at h3; simp at h3
      have e : NumText.digitsVal [48 + fa.val, 48 + fb.val] = fa.val * 10 + fb.val := by simp [NumText.digitsVal]
      rw [e]
      exact ⟨num3.2.1 fa fb z, by omega⟩
    | [a, b, c], h3, _, fin =>
      obtain ⟨fa, rfl⟩ := fin a (by simp)
      obtain ⟨fb, rfl⟩ := fin b (by simp)
      obtain ⟨fc, rfl⟩ := fin c (by simp)
      have z : fa.val ≠ 0 := fun z => by rw [z] at h3; simp at h3
      have e : NumText.digitsVal [48 + fa.val, 48 + fb.val, 48 + fc.val] = (fa.val * 10 + fb.val) * 10 + fc.val := by simp [NumText.digitsVal]
      rw [e]
      exact ⟨num3.2.2 fa fb fc z, by omega⟩
    | _ :: _ :: _ :: _ :: r, _, lx, _ => simp at lx; omega
  refine ⟨key.2, h5, TL.ext_tl ?_⟩
  rw [TL.tl_num, key.1]
theorem words_lf' {d : PyData} (e : partsD d = []) : wordsD d = hdW d := by rw [wordsD_eq, e]; simp
/-- how a statement begins: its head, its number of parts, its words -/
inductive HdG : List PyData → Nat → List Str → Prop
  | rr {k : Str} (h : k ∈ kRR) : HdG [.str k] 0 [k]
  | tf {k : Str} (h : k ∈ kTF) : HdG [.str k] 2 [k]
  | nm {k x : Str} {m : Int} (h : kPrt.lookup k = some m) (hx : nameOk x = true) : HdG [.str k, .str x] m.toNat [k, x]
  | seq {n : Nat} (h1 : 1 ≤ n) (h2 : n ≤ 400) : HdG [.str "seq"] n [("seq" : Str), Str.ofString (toString (n : Int))]
  | jmp {k : Str} {n : Nat} (h : k ∈ kJumps) (h1 : 1 ≤ n) (h2 : n ≤ 400) : HdG [.str k, .int (n : Int)] 0 [k, Str.ofString (toString (n : Int))]
theorem take_two {ws : List Str} {i : Nat} {a b : Str} (h1 : ws[i]? = some a) (h2 : ws[i + 1]? = some b) : ws.take (i + 2) = ws.take i ++ [a, b] := by
  rw [show i + 2 = (i + 1) + 1 from rfl, List.take_add_one, h2, List.take_add_one, h1]
  simp
theorem headAt_g {ws : List Str} {i : Nat} {hd : List PyData} {m i' : Nat} (h : headAt ws i = .ok hd m i') : ∃ l, HdG hd m l ∧ ws.take i' = ws.take i ++ l := by
  unfold headAt at h
  cases hx : ws[i]? with
  | none => rw [hx] at h; cases h
  | some x =>
    rw [hx] at h
    have h : headW x i ws[i + 1]? = .ok hd m i' := h
    have nx : ∀ {p : Str → Bool} {y : Str}, ws[i + 1]?.filter p = some y → ws[i + 1]? = some y ∧ p y = true := fun {p y} e => by
      cases hy : ws[i + 1]? with
      | none => rw [hy] at e; cases e
      | some z =>
        rw [hy] at e
        cases hp : p z with
        | true => rw [filt_t hp] at e; cases e; exact ⟨rfl, hp⟩
        | false => rw [filt_f hp] at e; cases e
    have t1 : ws.take (i + 1) = ws.take i ++ [x] := by rw [List.take_add_one, hx] <;> rfl
    unfold headW at h
    split at h
    · rename_i hk
      cases h
      exact ⟨_, .rr hk, t1⟩
    · split at h
      · rename_i hk
        cases h
        exact ⟨_, .tf hk, t1⟩
      · cases e1 : kPrt.lookup x with
        | some k =>
          rw [e1] at h
          cases e2 : ws[i + 1]?.filter nameOk with
          | none => rw [e2] at h; cases h
          | some y =>
            rw [e2] at h
            cases h
            obtain ⟨g1, g2⟩ := nx e2
            exact ⟨_, .nm e1 g2, take_two hx g1⟩
        | none =>
          rw [e1] at h
          have h : (if x = "seq" then (match ws[i + 1]?.filter numOk with
              | some x' => HdR.ok [.str x] (numV x') (i + 2)
              | none => .bad (i + 1))
            else if x ∈ kJumps then (match ws[i + 1]?.filter numOk with
              | some x' => .ok [.str x, .int (numV x')] 0 (i + 2)
              | none => .bad (i + 1))
            else .bad i) = .ok hd m i' := h
          split at h
          · rename_i hk
            subst hk
            cases e2 : ws[i + 1]?.filter numOk with
            | none => rw [e2] at h; cases h
            | some y =>
              rw [e2] at h
              cases h
              obtain ⟨g1, g2⟩ := nx e2
              obtain ⟨n1, n2, n3⟩ := numOk_back g2
              refine ⟨_, .seq n1 n2, ?_⟩
              rw [← n3]
              exact take_two hx g1
          · split at h
            · rename_i hk
              cases e2 : ws[i + 1]?.filter numOk with
              | none => rw [e2] at h; cases h
              | some y =>
                rw [e2] at h
                cases h
                obtain ⟨g1, g2⟩ := nx e2
                obtain ⟨n1, n2, n3⟩ := numOk_back g2
                refine ⟨_, .jmp hk n1 n2, ?_⟩
                rw [← n3]
                exact take_two hx g1
            · cases h
/-- what is read -/
inductive RdG : PyData → Prop
  | mk {hd ps : List PyData} {m : Nat} {l : List Str} (g : HdG hd m l) (hl : ps.length = m) (h : ∀ p ∈ ps, RdG p) : RdG (builtD hd ps)
def GdR0 (d : PyData) : Prop := GS d ∧ ∃ k r, d = .tuple (.str k :: r)
def GdR (d : PyData) : Prop := GS d ∧ (∃ k r, d = .tuple (.str k :: r)) ∧ RdG d
theorem gdr_can {d : PyData} (h : GdR d) : PyData.canLay0 d = true := (gs_parts h.1).1
theorem gs_mk {k : Str} {r : List PyData} (ck : PyData.canLay0 (.str k) = true) (cr : PyData.canLayAll0 r = true) (sz : szD (.tuple (.str k :: r))) (ps : ∀ x ∈ partsD (.tuple (.str k :: r)), GS x) : GdR0 (.tuple (.str k :: r)) := by
  refine ⟨.mk ?_ sz ps (fun x e => by cases e), k, r, rfl⟩
  show (PyData.canLay0 (.str k) && PyData.canLayAll0 r) = true
  rw [ck, cr] <;> rfl
theorem built_ok {hd : List PyData} {m : Nat} {l : List Str} {ps : List PyData} (g : HdG hd m l) (hl : ps.length = m) (h : ∀ p ∈ ps, GdR p) : GdR (builtD hd ps) ∧ wordsD (builtD hd ps) = l ++ ps.flatMap wordsD := by
  suffices key : GdR0 (builtD hd ps) ∧ wordsD (builtD hd ps) = l ++ ps.flatMap wordsD from ⟨⟨key.1.1, key.1.2, .mk g hl fun p hp => (h p hp).2.2⟩, key.2⟩
  have ca : PyData.canLayAll0 ps = true := canAll fun p hp => gdr_can (h p hp)
  have two : ∀ {a b : PyData}, ps = [a, b] → PyData.canLay0 a = true ∧ PyData.canLay0 b = true := fun {a b} e => ⟨gdr_can (h a (by rw [e]; simp)), gdr_can (h b (by rw [e]; simp))⟩
  have fin : ∀ {d : PyData}, hdW d = l → partsD d = ps → wordsD d = l ++ ps.flatMap wordsD := fun {d} e1 e2 => by rw [wordsD_eq, e1, e2]
  cases g with
  | rr hk =>
    rw [List.length_eq_zero_iff.mp hl]
    simp only [kRR, List.mem_cons, List.not_mem_nil, or_false] at hk
    rcases hk with rfl | rfl <;> exact ⟨gs_mk (by decide +kernel) rfl (fun _ _ _ e => by cases e) (fun x hx => by cases hx), by rw [List.flatMap_nil, List.append_nil]; exact words_lf' rfl⟩
  | tf hk =>
    obtain ⟨a, b, rfl⟩ := len_two hl
    have sz : ∀ k, szD (.tuple (.str k :: [a, b])) := fun k q x r e => by
      obtain ⟨_, ⟨k', r', e'⟩, _⟩ := h a (by simp)
      rw [e'] at e
      cases e
    simp only [kTF, List.mem_cons, List.not_mem_nil, or_false] at hk
    rcases hk with rfl | rfl <;> exact ⟨gs_mk (by decide +kernel) ca (sz _) (fun x hx => (h x hx).1), fin rfl rfl⟩
  | @nm k x mm hk hx =>
    have cx := can_let hx
    have sz : ∀ k r, szD (.tuple (.str k :: .str x :: r)) := fun k r q y r' e => by cases e; have := name_len hx; omega
    have cr : PyData.canLayAll0 (.str x :: ps) = true := by
      show (PyData.canLay0 (.str x) && PyData.canLayAll0 ps) = true
      rw [cx, ca] <;> rfl
    have mm := lookup_mem hk
    simp only [kPrt, List.mem_cons, List.not_mem_nil, or_false, Prod.mk.injEq] at mm
    rcases mm with ⟨rfl, rfl⟩ | ⟨rfl, rfl⟩ | ⟨rfl, rfl⟩ | ⟨rfl, rfl⟩
    · obtain rfl := List.length_eq_zero_iff.mp hl
      exact ⟨gs_mk (by decide +kernel) cr (sz _ _) (fun x hx => by cases hx), fin rfl rfl⟩
    · obtain rfl := List.length_eq_zero_iff.mp hl
      exact ⟨gs_mk (by decide +kernel) cr (sz _ _) (fun x hx => by cases hx), fin rfl rfl⟩
    · obtain ⟨a, b, rfl⟩ := len_two (show ps.length = 2 from hl)
      exact ⟨gs_mk (by decide +kernel) cr (sz _ _) (fun x hx => (h x hx).1), fin rfl rfl⟩
    · obtain ⟨a, rfl⟩ := len_one (show ps.length = 1 from hl)
      exact ⟨gs_mk (by decide +kernel) cr (sz _ _) (fun x hx => (h x hx).1), fin rfl rfl⟩
  | seq h1 h2 =>
    have e : builtD [.str "seq"] ps = .tuple [.str "seq", .tuple ps] := rfl
    have e2 : partsD (.tuple [.str "seq", .tuple ps]) = ps := by
      show ps.take 401 = ps
      exact List.take_of_length_le (by omega)
    rw [e]
    refine ⟨gs_mk (by decide +kernel) ?_ (fun _ _ _ e => by cases e) (fun x hx => ?_), fin ?_ e2⟩
    · show (PyData.canLayAll0 ps && true) = true
      rw [ca] <;> rfl
    · rw [e2] at hx
      exact (h x hx).1
    · show [Str.ofString "seq", Str.ofString (toString ((partsD (.tuple [.str "seq", .tuple ps])).length : Int))] = _
      rw [e2, hl]
  | jmp hk h1 h2 =>
    rw [List.length_eq_zero_iff.mp hl]
    simp only [kJumps, List.mem_cons, List.not_mem_nil, or_false] at hk
    rcases hk with rfl | rfl <;> exact ⟨gs_mk (by decide +kernel) rfl (fun _ _ _ e => by cases e) (fun x hx => by cases hx), by rw [List.flatMap_nil, List.append_nil]; exact words_lf' rfl⟩
theorem tuple_hd {hd : List PyData} {l : List Str} (g : HdG hd 0 l) : PyData.tuple hd = builtD hd [] := by
  generalize e : (0 : Nat) = m at g
  cases g with
  | rr hk =>
    simp only [kRR, List.mem_cons, List.not_mem_nil, or_false] at hk
    rcases hk with rfl | rfl <;> rfl
  | tf hk => cases e
  | nm hk hx => rfl
  | seq h1 h2 => omega
  | jmp hk h1 h2 => rfl
def wSt : List Fr → List (List Str) → List Str
  | f :: st, l :: ls => wSt st ls ++ l ++ f.ps.flatMap wordsD
  | _, _ => []
structure StG (st : List Fr) (ls : List (List Str)) : Prop where
  ln : ls.length = st.length
  ok : ∀ (j : Nat) (f : Fr) (l : List Str), st[j]? = some f → ls[j]? = some l → HdG f.hd f.m l ∧ f.ps.length < f.m ∧ ∀ p ∈ f.ps, GdR p
theorem StG.tail {f : Fr} {st : List Fr} {l : List Str} {ls : List (List Str)} (h : StG (f :: st) (l :: ls)) : StG st ls :=
  ⟨by have := h.ln; simpa using this, fun j f' l' h1 h2 => h.ok (j + 1) f' l' h1 h2⟩
theorem StG.cons {f : Fr} {st : List Fr} {l : List Str} {ls : List (List Str)} (h : StG st ls) (g : HdG f.hd f.m l) (h1 : f.ps.length < f.m) (h2 : ∀ p ∈ f.ps, GdR p) : StG (f :: st) (l :: ls) := by
  refine ⟨by simp [h.ln], fun j f' l' e1 e2 => ?_⟩
  cases j with
  | zero => cases e1; cases e2; exact ⟨g, h1, h2⟩
  | succ j => exact h.ok j f' l' e1 e2
theorem closeP_g : ∀ (st : List Fr) (ls : List (List Str)) (d : PyData), StG st ls → GdR d → (∃ ls', StG (closeP st d).1 ls' ∧ (closeP st d).2 = none ∧ wSt (closeP st d).1 ls' = wSt st ls ++ wordsD d) ∨ ∃ d', (closeP st d).2 = some d' ∧ GdR d' ∧ wordsD d' = wSt st ls ++ wordsD d
  | [], ls, d, _, gd => .inr ⟨d, rfl, gd, by simp [wSt]⟩
  | f :: st, ls, d, h, gd => by
    cases ls with
    | nil => have := h.ln; simp at this
    | cons l ls =>
      obtain ⟨g1, g2, g3⟩ := h.ok 0 f l rfl rfl
      have gp : ∀ p ∈ f.ps ++ [d], GdR p := fun p hp => by
        rcases List.mem_append.mp hp with z | z
        · exact g3 p z
        · rw [List.mem_singleton.mp z]; exact gd
      show (∃ ls', StG (if f.ps.length + 1 < f.m then _ else _ : List Fr × Option PyData).1 ls' ∧ (if f.ps.length + 1 < f.m then _ else _ : List Fr × Option PyData).2 = none ∧ wSt (if f.ps.length + 1 < f.m then _ else _ : List Fr × Option PyData).1 ls' = _) ∨ ∃ d', (if f.ps.length + 1 < f.m then _ else _ : List Fr × Option PyData).2 = some d' ∧ _
      by_cases hm : f.ps.length + 1 < f.m
      · rw [if_pos hm]
        refine .inl ⟨l :: ls, h.tail.cons g1 (by simp; exact hm) gp, rfl, ?_⟩
        simp [wSt]
      · rw [if_neg hm]
        have hm2 : (f.ps ++ [d]).length = f.m := by simp; omega
        obtain ⟨b1, b2⟩ := built_ok g1 hm2 gp
        have e : wSt st ls ++ wordsD (builtD f.hd (f.ps ++ [d])) = wSt (f :: st) (l :: ls) ++ wordsD d := by
          rw [b2]
          simp [wSt]
        have z := closeP_g st ls (builtD f.hd (f.ps ++ [d])) h.tail b1
        rw [e] at z
        exact z
theorem readP_g (ws : List Str) : ∀ (n i : Nat) (st : List Fr) (ls : List (List Str)) (d : PyData) (j : Nat), StG st ls → ws.take i = wSt st ls → readP ws n i st = .inr (d, j) → GdR d ∧ wordsD d = ws.take j
  | 0, _, _, _, _, _, _, _, h => by cases h
  | n + 1, i, st, ls, d, j, g, e, h => by
    rw [readP_succ] at h
    cases hh : headAt ws i with
    | bad k => rw [hh] at h; cases h
    | ok hd m i' =>
      rw [hh] at h
      replace h : (if 0 < m then readP ws n i' (⟨hd, m, []⟩ :: st) else goP ws n i' (closeP st (.tuple hd))) = .inr (d, j) := h
      obtain ⟨l, gl, el⟩ := headAt_g hh
      by_cases hm : 0 < m
      · rw [if_pos hm] at h
        exact readP_g ws n i' _ (l :: ls) d j (g.cons (f := ⟨hd, m, []⟩) gl hm (fun p hp => by cases hp)) (by rw [el, e]; simp [wSt]) h
      · rw [if_neg hm] at h
        obtain rfl : m = 0 := by omega
        obtain ⟨b1, b2⟩ := built_ok (ps := []) gl rfl (fun p hp => by cases hp)
        rw [← tuple_hd gl] at b1 b2
        rw [List.flatMap_nil, List.append_nil] at b2
        unfold goP at h
        rcases closeP_g st ls (.tuple hd) g b1 with ⟨ls', c1, c2, c3⟩ | ⟨d', c1, c2, c3⟩
        · rw [c2] at h
          exact readP_g ws n i' _ ls' d j c1 (by rw [c3, el, e, b2]) h
        · rw [c1] at h
          cases h
          exact ⟨c2, by rw [c3, b2, el, e]⟩
theorem read_text {ws : List Str} {d : PyData} (h : readAll ws = .inr d) : GdR d ∧ wordsD d = ws := by
  unfold readAll at h
  cases e : readP ws (ws.length + 1) 0 [] with
  | inl j => rw [e] at h; cases h
  | inr p =>
    obtain ⟨d', j⟩ := p
    rw [e] at h
    have h : (if j < ws.length then .inl j else .inr d' : Nat ⊕ PyData) = .inr d := h
    by_cases hj : j < ws.length
    · rw [if_pos hj] at h; cases h
    · rw [if_neg hj] at h
      cases h
      obtain ⟨g1, g2⟩ := readP_g ws _ 0 [] [] d j ⟨rfl, fun _ _ _ z => by simp at z⟩ rfl e
      exact ⟨g1, by rw [g2, List.take_of_length_le (by omega)]⟩

end Fc

set_option maxRecDepth 100000
set_option maxHeartbeats 4000000
namespace Fc
open PySem PySem.Spec PyProof.Rows L2 FcR
open Evl (Ex)
/-! ### Code of what is read; splits; how many are needed (plain) -/
open TL (tl)
theorem fault_cls {it : WIt} {n : Nat} {f : Str × Str × Int} (h : fault it n = some f) : (f.1 = "LimitExceeded" ∧ f.2.1 = "limit") ∨ (f.1 = "InvalidCode" ∧ f.2.1 = "number") := by
  unfold fault faultI at h
  split at h
  · cases h; exact .inl ⟨rfl, rfl⟩
  · split at h
    · cases h; exact .inl ⟨rfl, rfl⟩
    · split at h
      · cases h; exact .inl ⟨rfl, rfl⟩
      · split at h
        · cases h
        · cases h; exact .inr ⟨rfl, rfl⟩
theorem fails_cls {N : Nat} {st : List WIt} {rows : List Row} {f : Str × Str × Int} (h : Fails N st rows f) : (f.1 = "LimitExceeded" ∧ f.2.1 = "limit") ∨ (f.1 = "InvalidCode" ∧ f.2.1 = "number") := by
  induction h with
  | now h => exact fault_cls h
  | step _ _ _ ih => exact ih
theorem fault_none {it : WIt} {n : Nat} (h : fault it n = none) : okIt it n := by
  unfold fault faultI at h
  split at h
  · cases h
  · split at h
    · cases h
    · split at h
      · cases h
      · split at h
        · rename_i a b c d
          exact ⟨by omega, by omega, by omega, d⟩
        · cases h
theorem pre_pos (d : PyData) : 1 ≤ (preD d).length := by rw [preD_eq]; simp
def preS (st : List WIt) : Nat := (st.map fun i => (preD i.d).length).sum
theorem preS_len : ∀ st : List WIt, st.length ≤ preS st
  | [] => Nat.le_refl _
  | it :: st => by
    have := preS_len st
    have := pre_pos it.d
    unfold preS at *
    rw [List.map_cons, List.sum_cons, List.length_cons]
    omega
theorem preS_step (it : WIt) (st : List WIt) (n : Nat) : preS (newIts it n ++ st) + 1 = preS (it :: st) := by
  unfold preS
  rw [List.map_append, List.sum_append, List.map_cons, List.sum_cons, preD_eq, List.length_cons, List.length_flatMap]
  have : (newIts it n).map (fun i => (preD i.d).length) = (partsD it.d).map fun a => (preD a).length := by
    have e : (newIts it n).map WIt.d = partsD it.d := by
      apply List.ext_getElem?
      intro i
      unfold newIts
      rw [List.getElem?_map, List.getElem?_mapIdx]
      cases (partsD it.d)[i]? <;> rfl
    rw [← e, List.map_map]
    rfl
  rw [this]
  omega
theorem code_total : ∀ (M : Nat) (st : List WIt) (rows : List Row), preS st ≤ M → M ≤ 40000 → (∃ N fin, Builds N st rows fin) ∨ ∃ N f, Fails N st rows f := by
  intro M
  induction M with
  | zero =>
    intro st rows h _
    cases st with
    | nil => exact .inl ⟨0, rows, .done rows⟩
    | cons it st =>
      have := preS_len (it :: st)
      simp at this
      omega
  | succ M ih =>
    intro st rows h hM
    cases st with
    | nil => exact .inl ⟨0, rows, .done rows⟩
    | cons it st =>
      cases e : fault it rows.length with
      | some f => exact .inr ⟨0, f, .now e⟩
      | none =>
        have ok := fault_none e
        have s1 := preS_step it st rows.length
        have s2 := preS_len (newIts it rows.length ++ st)
        rcases ih (newIts it rows.length ++ st) (addRow rows it.d it.par) (by omega) (by omega) with ⟨N, fin, b⟩ | ⟨N, f, b⟩
        · exact .inl ⟨N + 1, fin, .step ok b⟩
        · exact .inr ⟨N + 1, f, .step ok (by omega) b⟩
theorem code_of {ws : List Str} {d : PyData} (h : readAll ws = .inr d) (hl : ws.length ≤ 2000) : (∃ N fin, Builds N [⟨d, none, 1, 0, 0⟩] [] fin) ∨ ∃ N f, Fails N [⟨d, none, 1, 0, 0⟩] [] f := by
  obtain ⟨g, e⟩ := read_text h
  have h1 := pre_le_words d
  rw [e] at h1
  exact code_total 2000 _ _ (by show ([_].map _).sum ≤ _; simp; omega) (by decide)
/-! splits -/
theorem spl_lens : ∀ (l acc : List Nat) (m : Nat), acc.length + l.length ≤ m → (TL.spl [32] 0 acc l).length ≤ l.length + 1 ∧ ∀ x ∈ TL.spl [32] 0 acc l, x.length ≤ m
  | [], acc, m, h => by
    rw [TL.spl_nil]
    exact ⟨Nat.le_refl _, fun x hx => by rw [List.mem_singleton.mp hx]; simpa using h⟩
  | c :: r, acc, m, h => by
    cases hp : TL.pre [32] (c :: r) with
    | true =>
      rw [TL.spl_hit hp]
      have z := spl_lens r [] m (by simp at h ⊢; omega)
      refine ⟨by rw [List.length_cons, List.length_cons]; exact Nat.succ_le_succ z.1, fun x hx => ?_⟩
      rcases List.mem_cons.mp hx with y | y
      · rw [y]; omega
      · exact z.2 x y
    | false =>
      rw [TL.spl_miss hp]
      have z := spl_lens r (acc ++ [c]) m (by simp at h ⊢; omega)
      exact ⟨by rw [List.length_cons]; omega, z.2⟩
theorem split_lens (x : Str) : (Txt.split x " ").length ≤ x.length + 1 ∧ ∀ w ∈ Txt.split x " ", w.length ≤ x.length := by
  have e := TL.split_spl x " " (by decide +kernel) (TL.kind_ok (by decide +kernel))
  have e0 : tl (Str.ofString " ") = [32] := by decide +kernel
  rw [e0] at e
  have z := spl_lens (tl x) [] (tl x).length (by simp)
  rw [← e] at z
  rw [TL.len_tl]
  refine ⟨by have := z.1; rw [List.length_map] at this; exact this, fun w hw => ?_⟩
  rw [TL.len_tl]
  exact z.2 (tl w) (List.mem_map_of_mem hw)
/-! how many statements are still needed -/
def need : List Fr → Nat
  | [] => 1
  | f :: st => (f.m - f.ps.length - 1) + need st
theorem need_pos : ∀ st, 1 ≤ need st
  | [] => Nat.le_refl _
  | f :: st => by
    have := need_pos st
    show 1 ≤ (f.m - f.ps.length - 1) + need st
    omega
theorem closeP_need : ∀ (st : List Fr) (d : PyData), (∀ f ∈ st, f.ps.length < f.m) → ((closeP st d).2 = none ∧ need (closeP st d).1 + 1 = need st ∧ ∀ f ∈ (closeP st d).1, f.ps.length < f.m) ∨ (∃ d', (closeP st d).2 = some d' ∧ need st = 1)
  | [], d, _ => .inr ⟨d, rfl, rfl⟩
  | f :: st, d, h => by
    have hf := h f List.mem_cons_self
    have hs : ∀ g ∈ st, g.ps.length < g.m := fun g hg => h g (List.mem_cons_of_mem _ hg)
    by_cases hm : f.ps.length + 1 < f.m
    · have e : closeP (f :: st) d = (⟨f.hd, f.m, f.ps ++ [d]⟩ :: st, none) := if_pos hm
      rw [e]
      refine .inl ⟨rfl, ?_, fun g hg => ?_⟩
      · show (f.m - (f.ps ++ [d]).length - 1) + need st + 1 = (f.m - f.ps.length - 1) + need st
        simp
        omega
      · rcases List.mem_cons.mp hg with z | z
        · rw [z]; simp; exact hm
        · exact hs g z
    · have e : closeP (f :: st) d = closeP st (builtD f.hd (f.ps ++ [d])) := if_neg hm
      rw [e]
      have e2 : need (f :: st) = need st := by
        show (f.m - f.ps.length - 1) + need st = need st
        omega
      rw [e2]
      exact closeP_need st _ hs

end Fc

set_option maxRecDepth 100000
set_option maxHeartbeats 4000000
namespace Fc
open PySem PySem.Spec PyProof.Rows L2 FcR
open Evl (Ex)
/-! ### k74, k71: is_name, is_number, wrong -/
open TL (tl)
def sp_lisname (K : PySem.W.Frag) : Sp := fun vs H Q _ => ∃ (a : Addr) (ws : List Str) (i : Nat), vs = [.ref a, .int (i : Int)] ∧ SqL K H a (ws.map V.str) ∧ Lens ws ∧ ∀ H', Ex H H' → Q (.bl (ws[i]?.filter nameOk).isSome) H'
def sp_lisnum (K : PySem.W.Frag) : Sp := fun vs H Q _ => ∃ (a : Addr) (ws : List Str) (i : Nat), vs = [.ref a, .int (i : Int)] ∧ SqL K H a (ws.map V.str) ∧ Lens ws ∧ ∀ H', Ex H H' → Q (.bl (ws[i]?.filter numOk).isSome) H'
theorem filt_all (l L : List Nat) : (l.filter fun c => !decide (c ∈ L)).isEmpty = l.all fun c => decide (c ∈ L) := by
  induction l with
  | nil => rfl
  | cons a l ih =>
    by_cases h : a ∈ L
    · rw [List.filter_cons_of_neg (by simp [h]), ih, List.all_cons]
      simp [h]
    · rw [List.filter_cons_of_pos (by simp [h]), List.all_cons]
      simp [h]
section
variable {P : Program} {w : World} {h : Heap} {K : PySem.W.Frag} {mg : Str → Option Value} {base : Heap}
abbrev N_law_is_name : List Str := ["_law_words_here", "_law_at", "_law_sign"]
theorem sc_law_is_name : FnScope N_law_is_name ["_law_words_here", "_law_at"] (defScope sd_law_is_name) := ⟨rfl, rfl, rfl, by decide +kernel, rfl, by decide +kernel, by decide +kernel⟩
theorem ok_law_is_name (T : Tx w h K mg) : Ok P w K mg base 1 ("_law_is_name", none) ["_law_words_here", "_law_at"] (sp_lisname K) := by
  obtain ⟨fd, F⟩ := F_law_is_name T
  refine ⟨fd, ?_, F.bindsN (fun _ _ _ _ _ _ us hl => match us, hl with | [_, _], _ => rfl), F.kp⟩
  refine F.ok sc_law_is_name (fun vs H Q E h => ?_) (fun cdv A outer s H vs Q E hr h => ?_)
  · obtain ⟨a, ws, i, rfl, hs, hz, q⟩ := h
    rfl
  · obtain ⟨a, ws, i, rfl, hs, hz, q⟩ := h
    refine ⟨_, PSs.nox (pss_cons (ps_if (PW.pt (pw_or (pt_cmpR op_ge (pv 1) (pe_callB call_len_seq rfl (fr_len T) b_len (pa_cons (pv 0) pa_nil)) (nomark _)) (pw_or1 (pt_not (pt_chain op_le op_le pe_int (pe_callB call_len_str rfl (fr_len T) b_len (pa_cons (pe_ix ix_list (pv 0) (pv 1) (fun _ _ => rfl)) pa_nil)) pe_int))))) (pss_one (ps_ret pe_bl)) pss_nil) (pss_one (ps_ret (pe_cmpR (op_eq0 hr) (pe_lc (own := [("_law_sign", 2)]) rfl sc_law_is_name.nd (pi_str (pe_ix ix_list (pv 0) (pv 1) (fun _ _ => rfl))) (blkOk_by (N := N_law_is_name) (sc := defScope sd_law_is_name) (by decide +kernel)) (fun _ _ _ _ _ => (pg_name (i := 2) sc_law_is_name.nd rfl (Or.inl rfl))) (fun _ _ _ _ _ => (pts_one (pt_cmpR op_notIn_sign (pv 2) pe_str (by rfl)))) (fun _ _ _ _ _ => (pv 2))) (pe_lst pa_nil) (nomark _))))), ?_⟩
    rcases Nat.lt_or_ge i ws.length with hlt | hge
    · obtain ⟨x, hx⟩ : ∃ x, ws[i]? = some x := ⟨_, List.getElem?_eq_getElem hlt⟩
      have hxl := hz x (List.mem_of_getElem? hx)
      rw [hx] at q
      have q : ∀ H', Ex H H' → Q (.bl (nameOk x)) H' := by
        cases e : nameOk x with
        | true => rw [filt_t e] at q; exact q
        | false => rw [filt_f e] at q; exact q
      rw [nameOk_eq] at q
      have nge : ¬ ((ws.map V.str).length : Int) ≤ (i : Int) := by rw [List.length_map]; omega
      refine ⟨_, rfl, _, rfl, a, _, rfl, .inl hs, _, _, rfl, rfl, _, rfl, itF (decide_eq_false nge) ?_⟩
      refine ⟨_, rfl, _, rfl, a, _, _, _, rfl, rfl, hs, atI_nat (ws_at hx), x, rfl, sz hxl, _, _, rfl, rfl, _, rfl, ite_of (fun h2 => ?_) (fun h2 => ?_)⟩
      · rw [h2] at q
        refine ⟨_, _, rfl, rfl, _, rfl, ite_of (fun h3 => ?_) (fun h3 => ?_)⟩
        · rw [bf h3] at q
          exact q H (Evl.Ex.refl _)
        · rw [bt h3] at q
          refine ⟨_, rfl, _, rfl, a, _, _, _, rfl, rfl, hs, atI_nat (ws_at hx), x, rfl, fun D hD => lc_it walk_str (fun i H' => Ex H H' ∧ H' D = some (.lst (((x.cps.toList.take i).filter fun c => !decide (c ∈ letters)).map fun c => V.str ⟨#[c]⟩))) ?_ (fun _ _ _ _ => True.intro) ?_ ?_⟩
          · exact ⟨exu (Evl.Ex.refl H) hD, upd_same⟩
          · rintro j y H1 H2 hj ⟨k1, k2⟩ ⟨rfl, c, hc, rfl⟩
            have hc' : x.cps.toList[j]? = some c := by simpa using hc
            refine ⟨rfl, _, rfl, c, _, rfl, rfl, _, rfl, ?_⟩
            rw [take_one hc', List.filter_append]
            by_cases z : c ∈ letters
            · refine itF (show (!decide (c ∈ letters)) = false by rw [decide_eq_true z] <;> rfl) ⟨k1, ?_⟩
              rw [List.filter_cons_of_neg (by simp [z]), List.filter_nil, List.append_nil]
              exact k2
            · refine itT (show (!decide (c ∈ letters)) = true by rw [decide_eq_false z] <;> rfl) ⟨_, rfl, _, k2, szl ?_, exm k1 hD, ?_⟩
              · have := List.length_filter_le (fun c => !decide (c ∈ letters)) (x.cps.toList.take j)
                have e2 : x.cps.size = x.length := rfl
                have e3 : x.cps.toList.length = x.length := by simp [Str.length]
                rw [List.length_take, e3] at this
                rw [List.length_map]
                omega
              · rw [upd_same, List.filter_cons_of_pos (by simp [z]), List.filter_nil, List.map_append] <;> rfl
          rintro H1 ⟨k1, k2⟩
          have k2 : H1 D = some (.lst (((x.cps.toList.take x.cps.size).filter fun c => !decide (c ∈ letters)).map fun c => V.str ⟨#[c]⟩)) := k2
          rw [show x.cps.size = x.cps.toList.length by simp, List.take_length] at k2
          refine ⟨sz (by simp), ?_⟩
          intro p3 n3
          generalize e3 : upd _ p3 _ = H3
          obtain ⟨x3, s3, o3⟩ := new_of e3 n3
          clear e3
          refine ⟨D, p3, _, rfl, rfl, Evl.sq_of (x3 _ _ k2), Evl.sq_of s3, ?_⟩
          rw [List.isEmpty_map, filt_all]
          exact q H3 (k1.trans x3)
      · rw [h2] at q
        exact ⟨_, rfl, itT rfl (q H (Evl.Ex.refl _))⟩
    · rw [List.getElem?_eq_none hge] at q
      refine ⟨_, rfl, _, rfl, a, _, rfl, .inl hs, _, _, rfl, rfl, _, rfl, itT (decide_eq_true (by rw [List.length_map]; omega)) (q H (Evl.Ex.refl _))⟩
abbrev N_law_is_number : List Str := ["_law_words_here", "_law_at", "_law_sign"]
theorem sc_law_is_number : FnScope N_law_is_number ["_law_words_here", "_law_at"] (defScope sd_law_is_number) := ⟨rfl, rfl, rfl, by decide +kernel, rfl, by decide +kernel, by decide +kernel⟩
theorem ok_law_is_number (T : Tx w h K mg) : Ok P w K mg base 1 ("_law_is_number", none) ["_law_words_here", "_law_at"] (sp_lisnum K) := by
  obtain ⟨fd, F⟩ := F_law_is_number T
  refine ⟨fd, ?_, F.bindsN (fun _ _ _ _ _ _ us hl => match us, hl with | [_, _], _ => rfl), F.kp⟩
  refine F.ok sc_law_is_number (fun vs H Q E h => ?_) (fun cdv A outer s H vs Q E hr h => ?_)
  · obtain ⟨a, ws, i, rfl, hs, hz, q⟩ := h
    rfl
  · obtain ⟨a, ws, i, rfl, hs, hz, q⟩ := h
    refine ⟨_, PSs.nox (pss_cons (ps_if (PW.pt (pw_or (pt_cmpR op_ge (pv 1) (pe_callB call_len_seq rfl (fr_len T) b_len (pa_cons (pv 0) pa_nil)) (nomark _)) (pw_or (pt_not (pt_chain op_le op_le pe_int (pe_callB call_len_str rfl (fr_len T) b_len (pa_cons (pe_ix ix_list (pv 0) (pv 1) (fun _ _ => rfl)) pa_nil)) pe_int)) (pw_or1 (pt_cmpR op_eq (pe_ix ix_str (pe_ix ix_list (pv 0) (pv 1) (fun _ _ => rfl)) pe_int (fun _ _ => rfl)) pe_str (nomark _)))))) (pss_one (ps_ret pe_bl)) pss_nil) (pss_one (ps_ret (pe_and (pe_cmpR (op_eq0 hr) (pe_lc (own := [("_law_sign", 2)]) rfl sc_law_is_number.nd (pi_str (pe_ix ix_list (pv 0) (pv 1) (fun _ _ => rfl))) (blkOk_by (N := N_law_is_number) (sc := defScope sd_law_is_number) (by decide +kernel)) (fun _ _ _ _ _ => (pg_name (i := 2) sc_law_is_number.nd rfl (Or.inl rfl))) (fun _ _ _ _ _ => (pts_one (pt_cmpR op_notIn_sign (pv 2) pe_str (by rfl)))) (fun _ _ _ _ _ => (pv 2))) (pe_lst pa_nil) (nomark _)) (pe_one (pe_cmpR op_le (pe_callTy call_int_str rfl (fr_int T) b_int (pa_cons (pe_ix ix_list (pv 0) (pv 1) (fun _ _ => rfl)) pa_nil)) pe_int (nomark _))))))), ?_⟩
    rcases Nat.lt_or_ge i ws.length with hlt | hge
    · obtain ⟨x, hx⟩ : ∃ x, ws[i]? = some x := ⟨_, List.getElem?_eq_getElem hlt⟩
      have hxl := hz x (List.mem_of_getElem? hx)
      rw [hx] at q
      have q : ∀ H', Ex H H' → Q (.bl (numOk x)) H' := by
        cases e : numOk x with
        | true => rw [filt_t e] at q; exact q
        | false => rw [filt_f e] at q; exact q
      rw [numOk_eq] at q
      have nge : ¬ ((ws.map V.str).length : Int) ≤ (i : Int) := by rw [List.length_map]; omega
      refine ⟨_, rfl, _, rfl, a, _, rfl, .inl hs, _, _, rfl, rfl, _, rfl, itF (decide_eq_false nge) ?_⟩
      refine ⟨_, rfl, _, rfl, a, _, _, _, rfl, rfl, hs, atI_nat (ws_at hx), x, rfl, sz hxl, _, _, rfl, rfl, _, rfl, ite_of (fun h2 => ?_) (fun h2 => ?_)⟩
      · rw [h2] at q
        have h2' : 1 ≤ x.length := by have := of_decide_eq_true h2; omega
        refine ⟨_, _, rfl, rfl, _, rfl, ite_of (fun h3 => ?_) (fun h3 => ?_)⟩
        · rw [bf h3] at q
          exact q H (Evl.Ex.refl _)
        · have h3 := bt h3
          have h3' : x.length ≤ 3 := by have := of_decide_eq_true h3; omega
          rw [h3] at q
          obtain ⟨c0, r0, ec⟩ : ∃ c r, tl x = c :: r := by
            rw [TL.len_tl] at h2'
            cases z : tl x with
            | nil => rw [z] at h2'; simp at h2'
            | cons c r => exact ⟨c, r, rfl⟩
          have e0 : ((tl x).head? == some 48) = decide (V.str ⟨#[c0]⟩ = V.str "0") := by
            rw [ec]
            have e1 : ("0" : Str) = ⟨#[48]⟩ := by decide +kernel
            rw [e1]
            by_cases z : c0 = 48
            · subst z; simp
            · have : ¬ (V.str ⟨#[c0]⟩ = V.str ⟨#[48]⟩) := fun y => by
                have y := V.str.inj y
                injection y with y
                have := congrArg Array.toList y
                simp at this
                exact z this
              simp [z, this]
          rw [e0] at q
          refine ⟨_, rfl, _, rfl, a, _, _, _, rfl, rfl, hs, atI_nat (ws_at hx), x, _, c0, rfl, rfl, sz hxl, (by show atI (tl x) 0 = _; rw [ec]; exact at0), rfl, _, rfl, ite_of (fun h4 => ?_) (fun h4 => ?_)⟩
          · rw [h4] at q
            exact q H (Evl.Ex.refl _)
          rw [h4] at q
          refine ⟨_, rfl, _, rfl, a, _, _, _, rfl, rfl, hs, atI_nat (ws_at hx), x, rfl, fun D hD => lc_it walk_str (fun i H' => Ex H H' ∧ H' D = some (.lst (((x.cps.toList.take i).filter fun c => !decide (c ∈ digs)).map fun c => V.str ⟨#[c]⟩))) ?_ (fun _ _ _ _ => True.intro) ?_ ?_⟩
          · exact ⟨exu (Evl.Ex.refl H) hD, upd_same⟩
          · rintro j y H1 H2 hj ⟨k1, k2⟩ ⟨rfl, c, hc, rfl⟩
            have hc' : x.cps.toList[j]? = some c := by simpa using hc
            refine ⟨rfl, _, rfl, c, _, rfl, rfl, _, rfl, ?_⟩
            rw [take_one hc', List.filter_append]
            by_cases z : c ∈ digs
            · refine itF (show (!decide (c ∈ digs)) = false by rw [decide_eq_true z] <;> rfl) ⟨k1, ?_⟩
              rw [List.filter_cons_of_neg (by simp [z]), List.filter_nil, List.append_nil]
              exact k2
            · refine itT (show (!decide (c ∈ digs)) = true by rw [decide_eq_false z] <;> rfl) ⟨_, rfl, _, k2, szl ?_, exm k1 hD, ?_⟩
              · have := List.length_filter_le (fun c => !decide (c ∈ digs)) (x.cps.toList.take j)
                have e2 : x.cps.size = x.length := rfl
                have e3 : x.cps.toList.length = x.length := by simp [Str.length]
                rw [List.length_take, e3] at this
                rw [List.length_map]
                omega
              · rw [upd_same, List.filter_cons_of_pos (by simp [z]), List.filter_nil, List.map_append] <;> rfl
          rintro H1 ⟨k1, k2⟩
          have k2 : H1 D = some (.lst (((x.cps.toList.take x.cps.size).filter fun c => !decide (c ∈ digs)).map fun c => V.str ⟨#[c]⟩)) := k2
          rw [show x.cps.size = x.cps.toList.length by simp, List.take_length] at k2
          refine ⟨sz (by simp), ?_⟩
          intro p3 n3
          generalize e3 : upd _ p3 _ = H3
          obtain ⟨x3, s3, o3⟩ := new_of e3 n3
          clear e3
          refine ⟨D, p3, _, rfl, rfl, Evl.sq_of (x3 _ _ k2), Evl.sq_of s3, ?_⟩
          rw [List.isEmpty_map, filt_all]
          cases h5 : (x.cps.toList.all fun c => decide (c ∈ digs)) with
          | false =>
            rw [h5] at q
            exact ⟨_, rfl, itF rfl (q H3 (k1.trans x3))⟩
          | true =>
            rw [h5] at q
            have lx : x.length = (tl x).length := TL.len_tl x
            have iv : PySem.intText? x = some (numV x : Int) := intText_digits (digs_all h5) (fun z => by have z2 : (tl x).length = 0 := congrArg List.length z; omega) (by omega)
            refine ⟨_, rfl, itT rfl ?_⟩
            refine ⟨_, rfl, _, rfl, a, _, _, _, rfl, rfl, Evl.ex_l (k1.trans x3) hs, atI_nat (ws_at hx), x, _, rfl, iv, (by omega), _, _, rfl, rfl, ?_⟩
            have e5 : decide (numV x ≤ 400) = decide ((numV x : Int) ≤ 400) := by congr 1; simp; omega
            rw [e5] at q
            exact q H3 (k1.trans x3)
      · rw [h2] at q
        exact ⟨_, rfl, itT rfl (q H (Evl.Ex.refl _))⟩
    · rw [List.getElem?_eq_none hge] at q
      refine ⟨_, rfl, _, rfl, a, _, rfl, .inl hs, _, _, rfl, rfl, _, rfl, itT (decide_eq_true (by rw [List.length_map]; omega)) (q H (Evl.Ex.refl _))⟩
end

end Fc

set_option maxRecDepth 100000
set_option maxHeartbeats 4000000
namespace Fc
open PySem PySem.Spec PyProof.Rows L2 FcR
open Evl (Ex)
/-! ### k74, k71: wrong -/
def WrI (ws : List Str) (R : Nat ⊕ (PyData × Nat)) (m i : Nat) (nd : Int) : Prop :=
  (∃ st, nd = (need st : Int) ∧ readP ws m i st = R ∧ ∀ f ∈ st, f.ps.length < f.m) ∨ (nd = 0 ∧ ∃ d, R = .inr (d, i))
theorem wr_step {ws : List Str} {R : Nat ⊕ (PyData × Nat)} {m i i' k : Nat} {st : List Fr} {hd : List PyData} (h : headAt ws i = .ok hd k i') (e : readP ws (m + 1) i st = R) (hf : ∀ f ∈ st, f.ps.length < f.m) {nd : Int} (en : nd = (need st : Int) + (k : Int) - 1) : WrI ws R m i' nd := by
  rw [readP_succ, h] at e
  replace e : (if 0 < k then readP ws m i' (⟨hd, k, []⟩ :: st) else goP ws m i' (closeP st (.tuple hd))) = R := e
  have np := need_pos st
  by_cases hk : 0 < k
  · rw [if_pos hk] at e
    refine .inl ⟨_, ?_, e, fun f hm => ?_⟩
    · show nd = ((k - 0 - 1 + need st : Nat) : Int)
      omega
    · rcases List.mem_cons.mp hm with z | z
      · rw [z]; exact hk
      · exact hf f z
  · rw [if_neg hk] at e
    unfold goP at e
    rcases closeP_need st (.tuple hd) hf with ⟨c1, c2, c3⟩ | ⟨d', c1, c2⟩
    · rw [c1] at e
      exact .inl ⟨_, by omega, e, c3⟩
    · rw [c1] at e
      exact .inr ⟨by omega, d', e.symm⟩
theorem wr_bad {ws : List Str} {m i j : Nat} {st : List Fr} (h : headAt ws i = .bad j) (e : readP ws (m + 1) i st = readP ws (ws.length + 1) 0 []) : readAll ws = .inl j := by
  rw [readP_succ, h] at e
  unfold readAll
  rw [← e]
theorem nm_of {x : Str} (h : x ∈ kNamed) : ∃ m : Int, kPrt.lookup x = some m ∧ 0 ≤ m ∧ m ≤ 2 ∧ ¬ x ∈ kRR ∧ ¬ x ∈ kTF := by
  have key : ∀ x ∈ kNamed, (kPrt.lookup x).isSome = true ∧ 0 ≤ (kPrt.lookup x).getD 0 ∧ (kPrt.lookup x).getD 0 ≤ 2 ∧ ¬ x ∈ kRR ∧ ¬ x ∈ kTF := by decide +kernel
  obtain ⟨a, b, c, d⟩ := key x h
  cases e : kPrt.lookup x with
  | none => rw [e] at a; cases a
  | some m => rw [e] at b c; exact ⟨m, rfl, b, c, d⟩
theorem prt_none {x : Str} (h : ¬ x ∈ kNamed) : kPrt.lookup x = none := by
  cases e : kPrt.lookup x with
  | none => rfl
  | some m =>
    have := List.mem_map_of_mem (f := Prod.fst) (lookup_mem e)
    exact absurd this h
theorem numOk_int {y : Str} (h : numOk y = true) : PySem.intText? y = some (numV y : Int) ∧ y.length ≤ 640 := by
  rw [numOk_eq] at h
  obtain ⟨h1, h2⟩ := Bool.and_eq_true_iff.mp h
  obtain ⟨h3, h4⟩ := Bool.and_eq_true_iff.mp h1
  obtain ⟨_, h5⟩ := Bool.and_eq_true_iff.mp h2
  obtain ⟨h6, _⟩ := Bool.and_eq_true_iff.mp h5
  have h3 := of_decide_eq_true h3
  have h4 := of_decide_eq_true h4
  have lx : y.length = (TL.tl y).length := TL.len_tl y
  exact ⟨intText_digits (digs_all h6) (fun z => by have z2 : (TL.tl y).length = 0 := congrArg List.length z; omega) (by omega), by omega⟩
def kvD : List (L2.Key × V) := [(.inr "do", .int (-1)), (.inr "call", .int (-1)), (.inr "if", .int 1), (.inr "while", .int 0)]
theorem kvD_val {x : Str} (h : x ∈ kNamed) {m : Int} (e : kPrt.lookup x = some m) : valV (mergeK [] kvD) (.inr x) = some (.int (m - 1)) := by
  simp only [kNamed, List.mem_cons, List.not_mem_nil, or_false] at h
  rcases h with rfl | rfl | rfl | rfl
  · rw [show kPrt.lookup (Str.ofString "do") = some 0 by decide +kernel] at e; cases e; kernel_rfl
  · rw [show kPrt.lookup (Str.ofString "call") = some 0 by decide +kernel] at e; cases e; kernel_rfl
  · rw [show kPrt.lookup (Str.ofString "if") = some 2 by decide +kernel] at e; cases e; kernel_rfl
  · rw [show kPrt.lookup (Str.ofString "while") = some 1 by decide +kernel] at e; cases e; kernel_rfl
def kFour : List Str := ["return", "raise", "try", "final"]
def kThree : List Str := ["seq", "break", "continue"]
def sp_wrong (K : PySem.W.Frag) : Sp := fun vs H Q _ => ∃ (a : Addr) (ws : List Str), vs = [.ref a] ∧ SqL K H a (ws.map V.str) ∧ Lens ws ∧ ws.length ≤ 3000 ∧ ∀ H', Ex H H' → Q (match readAll ws with
    | .inl j => .int (j : Int)
    | .inr _ => .non) H'
section
variable {P : Program} {w : World} {h : Heap} {K : PySem.W.Frag} {mg : Str → Option Value} {base : Heap}
abbrev N_law_wrong : List Str := ["_law_words_here", "_law_need", "_law_at", "_law_word_here"]
theorem sc_law_wrong : FnScope N_law_wrong ["_law_words_here"] (defScope sd_law_wrong) := ⟨rfl, rfl, rfl, by decide +kernel, rfl, by decide +kernel, by decide +kernel⟩
theorem ok_law_wrong (T : Tx w h K mg) : Ok P w K mg base 2 ("_law_wrong", none) ["_law_words_here"] (sp_wrong K) := by
  obtain ⟨fd, F⟩ := F_law_wrong T
  refine ⟨fd, ?_, F.bindsN (fun _ _ _ _ _ _ us hl => match us, hl with | [_], _ => rfl), F.kp⟩
  obtain ⟨fd_law_is_name, G_law_is_name, bi_law_is_name, kp_law_is_name⟩ := ok_law_is_name (P := P) (base := base) T
  obtain ⟨fd_law_is_number, G_law_is_number, bi_law_is_number, kp_law_is_number⟩ := ok_law_is_number (P := P) (base := base) T
  refine F.ok sc_law_wrong (fun vs H Q E h => ?_) (fun cdv A outer s H vs Q E hr h => ?_)
  · obtain ⟨a, ws, rfl, hs, hz, hl, q⟩ := h
    rfl
  · obtain ⟨a, ws, rfl, hs, hz, hl, q⟩ := h
    refine ⟨_, PSs.nox (pss_cons (ps_asg (pe_tup (pa_cons pe_int (pa_cons pe_int pa_nil))) (pg_tup rfl (pgs_cons (pg_name (i := 1) sc_law_wrong.nd rfl (Or.inl rfl)) (pgs_cons (pg_name (i := 2) sc_law_wrong.nd rfl (Or.inl rfl)) pgs_nil)))) (pss_cons (ps_while PassesOwn.never (pt_cmpR op_gt (pv 1) pe_int (nomark _)) (Evl.pss_cut (ps_set (i := 3) sc_law_wrong.nd rfl (Or.inl rfl) (pe_ifExp (pt_cmpR op_lt (pv 2) (pe_callB call_len_seq rfl (fr_len T) b_len (pa_cons (pv 0) pa_nil)) (nomark _)) (pe_ix ix_list (pv 0) (pv 2) (fun _ _ => rfl)) pe_str)) (pss_one (ps_if (pt_cmpR op_in_seq (pv 3) (pe_tup (pa_cons pe_str (pa_cons pe_str (pa_cons pe_str (pa_cons pe_str pa_nil))))) (by rfl)) (pss_one (ps_par rfl sc_law_wrong.nd (i := 1) (j := 2) rfl rfl (by decide) rfl rfl (pa_cons (pe_op op_add (pv 1) (pe_ix ix_list (pe_lst (pa_cons (pe_un un_neg pe_int) (pa_cons pe_int pa_nil))) (pe_callTy call_int1 rfl (fr_int T) b_int (pa_cons (pe_cmpR op_in_seq (pv 3) (pe_tup (pa_cons pe_str (pa_cons pe_str pa_nil))) (by rfl)) pa_nil)) (fun _ _ => rfl))) (pa_cons (pe_op op_add (pv 2) pe_int) pa_nil)) (by rfl))) (pss_one (ps_if (pt_cmpR op_in_seq (pv 3) (pe_tup (pa_cons pe_str (pa_cons pe_str (pa_cons pe_str (pa_cons pe_str pa_nil))))) (by rfl)) (pss_cons (ps_if (pt_not (pt_val (pe_call G_law_is_name (hr.mono (by decide)) rfl (g_law_is_name T) kp_law_is_name bi_law_is_name .nil passF (pa_cons (pv 0) (pa_cons (pe_op op_add (pv 2) pe_int) pa_nil))))) (pss_one (ps_ret (pe_op op_add (pv 2) pe_int))) pss_nil) (pss_one (ps_par rfl sc_law_wrong.nd (i := 1) (j := 2) rfl rfl (by decide) rfl rfl (pa_cons (pe_op op_add (pv 1) (pe_dget (hu_of hr) (pe_disp (pps_cons pe_str (pe_un un_neg pe_int) (pps_cons pe_str (pe_un un_neg pe_int) (pps_cons pe_str pe_int (pps_cons pe_str pe_int pps_nil)))) (by rfl) (by rfl) (fun z => by cases z) (by decide)) (pv 3) (fun _ _ => rfl))) (pa_cons (pe_op op_add (pv 2) pe_int) pa_nil)) (by rfl)))) (pss_one (ps_if (pt_cmpR op_in_seq (pv 3) (pe_tup (pa_cons pe_str (pa_cons pe_str (pa_cons pe_str pa_nil)))) (by rfl)) (pss_cons (ps_if (pt_not (pt_val (pe_call G_law_is_number (hr.mono (by decide)) rfl (g_law_is_number T) kp_law_is_number bi_law_is_number .nil passF (pa_cons (pv 0) (pa_cons (pe_op op_add (pv 2) pe_int) pa_nil))))) (pss_one (ps_ret (pe_op op_add (pv 2) pe_int))) pss_nil) (pss_cons (ps_set (i := 1) sc_law_wrong.nd rfl (Or.inl rfl) (pe_op op_add (pe_op op_sub (pv 1) pe_int) (pe_op op_mul (pe_callTy call_int_str rfl (fr_int T) b_int (pa_cons (pe_ix ix_list (pv 0) (pe_op op_add (pv 2) pe_int) (fun _ _ => rfl)) pa_nil)) (pe_callTy call_int1 rfl (fr_int T) b_int (pa_cons (pe_cmpR op_eq (pv 3) pe_str (nomark _)) pa_nil))))) (pss_one (ps_set (i := 2) sc_law_wrong.nd rfl (Or.inl rfl) (pe_op op_add (pv 2) pe_int))))) (pss_one (ps_ret (pv 2))))))))))) (pss_one (ps_ret (pe_ifExp (pt_cmpR op_lt (pv 2) (pe_callB call_len_seq rfl (fr_len T) b_len (pa_cons (pv 0) pa_nil)) (nomark _)) (pv 2) pe_non))))), ?_⟩
    refine ⟨sz (by simp), ?_⟩
    intro p1 n1
    generalize e1 : upd _ p1 _ = H1
    obtain ⟨x1, s1, o1⟩ := new_of e1 n1
    clear e1
    refine ⟨p1, _, rfl, Evl.st_of s1, rfl, _, _, rfl, _, _, rfl, rfl, ?_⟩
    refine ⟨fun m σ' H' => ∃ (i : Nat) (nd : Int) (o3 : Option V), σ' = [some (.ref a), some (.int nd), some (.int (i : Int)), o3] ∧ Ex H H' ∧ i ≤ ws.length ∧ ws.length + 1 ≤ m + i ∧ WrI ws (readP ws (ws.length + 1) 0 []) m i nd,
      ⟨ws.length + 1, 0, 1, none, rfl, x1, Nat.zero_le _, Nat.le_refl _, .inl ⟨[], rfl, rfl, fun f z => by cases z⟩⟩, ?_⟩
    rintro m σ' H1 ⟨i, nd, o3, rfl, x1, hi, hm, wr⟩
    have hs1 := Evl.ex_l x1 hs
    rcases wr with ⟨st, rfl, er, hf⟩ | ⟨rfl, d, er⟩
    · have np := need_pos st
      refine ⟨_, rfl, _, _, rfl, rfl, _, rfl, itT (decide_eq_true (by omega)) ?_⟩
      obtain ⟨m, rfl⟩ : ∃ m', m = m' + 1 := ⟨m - 1, by omega⟩
      refine ⟨fun σ' H' => _, fun σ' H' h => ⟨m, Nat.lt_succ_self _, h⟩, ?_⟩
      have bad : ∀ {j : Nat} {H2 : Hp}, headAt ws i = .bad j → Ex H1 H2 → Q (.int (j : Int)) H2 := fun {j H2} hb x2 => by
        have := q H2 (x1.trans x2)
        rw [wr_bad hb er] at this
        exact this
      refine ⟨fun σ' H' => H' = H1 ∧ ∃ x : Str, σ' = [some (.ref a), some (.int (need st : Int)), some (.int (i : Int)), some (.str x)] ∧ headAt ws i = headW x i ws[i + 1]? ∧ (x ∈ kFour ∨ x ∈ kNamed ∨ x ∈ kThree → i < ws.length), ?_, ?_⟩
      · refine ⟨_, rfl, _, rfl, a, _, rfl, .inl hs1, _, _, rfl, rfl, _, rfl, ite_of (fun h1 => ?_) (fun h1 => ?_)⟩
        · have h1 : i < ws.length := by have := of_decide_eq_true h1; rw [List.length_map] at this; omega
          obtain ⟨x, hx⟩ : ∃ x, ws[i]? = some x := ⟨_, List.getElem?_eq_getElem h1⟩
          exact ⟨_, rfl, _, rfl, a, _, _, _, rfl, rfl, hs1, atI_nat (ws_at hx), rfl, x, rfl, by unfold headAt; rw [hx], fun _ => h1⟩
        · have h1 : ¬ i < ws.length := by have := of_decide_eq_false h1; rw [List.length_map] at this; omega
          refine ⟨rfl, "", rfl, ?_, fun z => ?_⟩
          · unfold headAt headW
            rw [List.getElem?_eq_none (by omega), if_neg (by decide +kernel), if_neg (by decide +kernel), show kPrt.lookup (Str.ofString "") = none by decide +kernel, if_neg (by decide +kernel), if_neg (by decide +kernel)]
          · exfalso
            have : ¬ ((Str.ofString "") ∈ kFour ∨ (Str.ofString "") ∈ kNamed ∨ (Str.ofString "") ∈ kThree) := by decide +kernel
            exact this z
      rintro σ' H' ⟨rfl, x, rfl, eh, hlt⟩
      refine ⟨_, rfl, sz (by simp), ?_⟩
      intro p2 n2
      generalize e2 : upd _ p2 _ = H2
      obtain ⟨x2, s2, o2⟩ := new_of e2 n2
      clear e2
      refine ⟨p2, _, rfl, .inr (Evl.st_of s2), rfl, flat_strs kFour, _, rfl, ?_⟩
      rw [show inV (.str x) [V.str "return", .str "raise", .str "try", .str "final"] = decide (x ∈ kFour) from inV_strs x kFour]
      refine ite_of (fun h4 => ?_) (fun h4 => ?_)
      · have h4 := of_decide_eq_true h4
        have hil := hlt (.inl h4)
        have eTF : ∃ hd, headAt ws i = .ok hd (if decide (x ∈ kTF) = true then 2 else 0) (i + 1) := by
          rw [eh]
          unfold headW
          by_cases hr : x ∈ kRR
          · have ht : ¬ x ∈ kTF := fun ht => by
              have : ∀ x ∈ kRR, ¬ x ∈ kTF := by decide +kernel
              exact this x hr ht
            rw [if_pos hr, decide_eq_false ht]
            exact ⟨_, rfl⟩
          · have ht : x ∈ kTF := by
              simp only [kFour, kRR, kTF, List.mem_cons, List.not_mem_nil, or_false] at h4 hr ⊢
              rcases h4 with z | z | z | z
              · exact absurd (.inl z) hr
              · exact absurd (.inr z) hr
              · exact .inl z
              · exact .inr z
            rw [if_neg hr, if_pos ht, decide_eq_true ht]
            exact ⟨_, rfl⟩
        obtain ⟨hd, eh2⟩ := eTF
        refine ⟨_, rfl, _, rfl, sz (by simp), ?_⟩
        intro p3 n3
        generalize e3 : upd _ p3 _ = H3
        obtain ⟨x3, s3, o3⟩ := new_of e3 n3
        clear e3
        refine ⟨_, rfl, sz (by simp), ?_⟩
        intro p4 n4
        generalize e4 : upd _ p4 _ = H4
        obtain ⟨x4, s4, o4⟩ := new_of e4 n4
        clear e4
        refine ⟨p4, _, rfl, .inr (Evl.st_of s4), rfl, flat_strs kTF, .inr ⟨_, rfl, ?_⟩⟩
        rw [show inV (.str x) [V.str "try", .str "final"] = decide (x ∈ kTF) from inV_strs x kTF]
        generalize decide (x ∈ kTF) = b at eh2
        have x4' := x4
        have x4 := x2.trans (x3.trans x4)
        cases b with
        | true =>
          refine ⟨p3, _, _, .int 1, rfl, rfl, Evl.sq_of (x4' _ _ s3), rfl, _, _, rfl, rfl, _, rfl, _, _, rfl, rfl, _, _, rfl, ?_⟩
          exact ⟨i + 1, _, _, rfl, x1.trans x4, by omega, by omega, wr_step eh2 er hf (by rw [if_pos rfl]; omega)⟩
        | false =>
          refine ⟨p3, _, _, .int (-1), rfl, rfl, Evl.sq_of (x4' _ _ s3), rfl, _, _, rfl, rfl, _, rfl, _, _, rfl, rfl, _, _, rfl, ?_⟩
          exact ⟨i + 1, _, _, rfl, x1.trans x4, by omega, by omega, wr_step eh2 er hf (by rw [if_neg (by decide)]; omega)⟩
      · have h4 := of_decide_eq_false h4
        have hRR : ¬ x ∈ kRR := fun z => h4 (by
          have : ∀ x ∈ kRR, x ∈ kFour := by decide +kernel
          exact this x z)
        have hTF : ¬ x ∈ kTF := fun z => h4 (by
          have : ∀ x ∈ kTF, x ∈ kFour := by decide +kernel
          exact this x z)
        refine ⟨_, rfl, sz (by simp), ?_⟩
        intro p3 n3
        generalize e3 : upd _ p3 _ = H3
        obtain ⟨x3, s3, o3⟩ := new_of e3 n3
        clear e3
        refine ⟨p3, _, rfl, .inr (Evl.st_of s3), rfl, flat_strs kNamed, _, rfl, ?_⟩
        rw [show inV (.str x) [V.str "do", .str "call", .str "if", .str "while"] = decide (x ∈ kNamed) from inV_strs x kNamed]
        have x13 := x2.trans x3
        refine ite_of (fun h5 => ?_) (fun h5 => ?_)
        · have h5 := of_decide_eq_true h5
          have hil := hlt (.inr (.inl h5))
          obtain ⟨mm, e1, m0, m2, _, _⟩ := nm_of h5
          refine ⟨_, rfl, _, rfl, _, _, rfl, rfl, a, ws, i + 1, by rw [Int.natCast_add] <;> rfl, Evl.ex_l x13 hs1, hz, fun H4 x4 => ⟨_, rfl, ?_⟩⟩
          cases e2 : ws[i + 1]?.filter nameOk with
          | none =>
            refine itT rfl ⟨_, rfl, _, _, rfl, rfl, ?_⟩
            have := bad (j := i + 1) (by rw [eh]; unfold headW; rw [if_neg hRR, if_neg hTF, e1, e2]) (x13.trans x4)
            rw [Int.natCast_add] at this
            exact this
          | some y =>
            refine itF rfl ?_
            have eh2 : headAt ws i = .ok [.str x, .str y] mm.toNat (i + 2) := by rw [eh]; unfold headW; rw [if_neg hRR, if_neg hTF, e1, e2]
            refine ⟨_, rfl, fun p5 n5 => ⟨_, rfl, _, rfl, upd_same, kvD, rfl, by decide, ?_⟩⟩
            have n5' : H4 p5 = none := n5
            generalize e5 : upd _ p5 (.dK (mergeK [] kvD)) = H5
            have s5 : H5 p5 = some (.dK (mergeK [] kvD)) := by rw [← e5, upd_same]
            have x5 : Ex H4 H5 := fun b o e => by rw [← e5, upd_ne (ne_of_none e n5'), upd_ne (ne_of_none e n5')]; exact e
            have dg := DGet.k (k := .inr x) s5
            rw [kvD_val h5 e1] at dg
            refine ⟨_, rfl, p5, _, rfl, dg, _, _, rfl, rfl, _, rfl, _, _, rfl, rfl, _, _, rfl, ?_⟩
            obtain ⟨g1, g2, _⟩ := headAt_ok eh2
            exact ⟨i + 2, _, _, rfl, x1.trans ((x13.trans x4).trans x5), by omega, by omega, wr_step eh2 er hf (by omega)⟩
        · have h5 := of_decide_eq_false h5
          have e1 := prt_none h5
          refine ⟨_, rfl, sz (by simp), ?_⟩
          intro p4 n4
          generalize e4 : upd _ p4 _ = H4
          obtain ⟨x4, s4, o4⟩ := new_of e4 n4
          clear e4
          refine ⟨p4, _, rfl, .inr (Evl.st_of s4), rfl, flat_strs kThree, _, rfl, ?_⟩
          rw [show inV (.str x) [V.str "seq", .str "break", .str "continue"] = decide (x ∈ kThree) from inV_strs x kThree]
          have x14 := x13.trans x4
          refine ite_of (fun h6 => ?_) (fun h6 => ?_)
          · have h6 := of_decide_eq_true h6
            have hil := hlt (.inr (.inr h6))
            refine ⟨_, rfl, _, rfl, _, _, rfl, rfl, a, ws, i + 1, by rw [Int.natCast_add] <;> rfl, Evl.ex_l x14 hs1, hz, fun H5 x5 => ⟨_, rfl, ?_⟩⟩
            have hj : ¬ x = "seq" → x ∈ kJumps := fun z => by
              simp only [kThree, kJumps, List.mem_cons, List.not_mem_nil, or_false] at h6 ⊢
              rcases h6 with y | y | y
              · exact absurd y z
              · exact .inl y
              · exact .inr y
            cases e2 : ws[i + 1]?.filter numOk with
            | none =>
              refine itT rfl ⟨_, rfl, _, _, rfl, rfl, ?_⟩
              have := bad (j := i + 1) (by
                rw [eh]
                unfold headW
                rw [if_neg hRR, if_neg hTF, e1, e2]
                by_cases z : x = "seq"
                · exact if_pos z
                · exact (if_neg z).trans (if_pos (hj z))) (x14.trans x5)
              rw [Int.natCast_add] at this
              exact this
            | some y =>
              refine itF rfl ?_
              obtain ⟨hy, hn⟩ : ws[i + 1]? = some y ∧ numOk y = true := by
                cases hy : ws[i + 1]? with
                | none => rw [hy] at e2; cases e2
                | some z =>
                  rw [hy] at e2
                  cases hp : numOk z with
                  | true => rw [filt_t hp] at e2; cases e2; exact ⟨rfl, hp⟩
                  | false => rw [filt_f hp] at e2; cases e2
              obtain ⟨n1, n2, _⟩ := numOk_back hn
              have iv := numOk_int hn
              have eh2 : ∃ hd, headAt ws i = .ok hd (if decide (V.str x = V.str "seq") = true then numV y else 0) (i + 2) := by
                rw [eh]
                unfold headW
                rw [if_neg hRR, if_neg hTF, e1, e2]
                by_cases z : x = "seq"
                · rw [decide_eq_true (by rw [z])]
                  exact ⟨_, if_pos z⟩
                · rw [decide_eq_false (fun u => z (V.str.inj u))]
                  exact ⟨_, (if_neg z).trans (if_pos (hj z))⟩
              obtain ⟨hd, eh2⟩ := eh2
              obtain ⟨g1, g2, _⟩ := headAt_ok eh2
              have e1i : ((i : Int) + 1) = ((i + 1 : Nat) : Int) := by omega
              refine ⟨_, rfl, _, _, rfl, rfl, _, rfl, _, rfl, _, _, rfl, rfl, a, _, _, _, rfl, congrArg V.int e1i, Evl.ex_l (x14.trans x5) hs1, atI_nat (ws_at hy), y, _, rfl, iv.1, iv.2, _, rfl, rfl, .inr ⟨_, rfl, _, _, rfl, rfl, .inl ⟨by omega, by omega⟩, _, _, rfl, rfl, ?_⟩⟩
              refine ⟨_, rfl, _, _, rfl, rfl, i + 2, _, _, rfl, x1.trans (x14.trans x5), by omega, by omega, wr_step eh2 er hf ?_⟩
              by_cases z : decide (V.str x = V.str "seq") = true
              · rw [if_pos z, if_pos z]; omega
              · rw [if_neg z, if_neg z]; omega
          · have h6 := of_decide_eq_false h6
            refine ⟨_, rfl, bad (j := i) ?_ x14⟩
            rw [eh]
            unfold headW
            rw [if_neg hRR, if_neg hTF, e1]
            have s1 : ¬ x = "seq" := fun z => h6 (by rw [z]; decide +kernel)
            have s2 : ¬ x ∈ kJumps := fun z => h6 (by
              have : ∀ x ∈ kJumps, x ∈ kThree := by decide +kernel
              exact this x z)
            exact (if_neg s1).trans (if_neg s2)
    · refine ⟨_, rfl, _, _, rfl, rfl, _, rfl, itF rfl ?_⟩
      refine ⟨_, rfl, _, rfl, a, _, rfl, .inl hs1, _, _, rfl, rfl, _, rfl, ite_of (fun h1 => ?_) (fun h1 => ?_)⟩
      · have h1 : i < ws.length := by have := of_decide_eq_true h1; rw [List.length_map] at this; omega
        have := q H1 x1
        rw [show readAll ws = .inl i by unfold readAll; rw [er]; exact if_pos h1] at this
        exact ⟨_, rfl, this⟩
      · have h1 : ¬ i < ws.length := by have := of_decide_eq_false h1; rw [List.length_map] at this; omega
        have := q H1 x1
        rw [show readAll ws = .inr d by unfold readAll; rw [er]; exact if_neg h1] at this
        exact this
end

end Fc

set_option maxRecDepth 100000
set_option maxHeartbeats 4000000
namespace Fc
open PySem PySem.Spec PyProof.Rows L2 FcR
open Evl (Ex)
/-! ### k71: built -/
open TL (tl)
def sp_lbuilt (K : PySem.W.Frag) (n : Nat) : Sp := fun vs H Q _ => ∃ (F : Hp) (a : Addr) (ws : List Str) (i : Nat) (d : PyData) (rest : List Str), vs = [.ref a, .int (i : Int)] ∧ Ex F H ∧ SqL K F a (ws.map V.str) ∧ ws.drop i = wordsD d ++ rest ∧ RdG d ∧ (preD d).length ≤ n ∧
  ∀ (F' H' : Hp) (t b : Addr), Gr (fun _ => False) F H F' H' → H' t = some (.tup [.ref b, .int ((i + (wordsD d).length : Nat) : Int)]) → Dp K F' (.ref b) d → Q (.ref t) H'
def kvB : List (L2.Key × V) := [(.inr "if", .int 2), (.inr "while", .int 1), (.inr "try", .int 2), (.inr "final", .int 2)]
theorem rdg_gdr {d : PyData} (h : RdG d) : GdR d := by
  induction h with
  | mk g hl h ih => exact (built_ok g hl ih).1
theorem hdg_one {k : Str} {l : List Str} {m : Nat} {hd : List PyData} (g : HdG hd m l) : ∃ k r, l = k :: r := by cases g <;> exact ⟨_, _, rfl⟩
theorem rdg_parts {hd ps : List PyData} {m : Nat} {l : List Str} (g : HdG hd m l) (hl : ps.length = m) : partsD (builtD hd ps) = ps := by
  cases g with
  | rr hk =>
    rw [List.length_eq_zero_iff.mp hl]
    simp only [kRR, List.mem_cons, List.not_mem_nil, or_false] at hk
    rcases hk with rfl | rfl <;> rfl
  | tf hk =>
    obtain ⟨a, b, rfl⟩ := len_two hl
    simp only [kTF, List.mem_cons, List.not_mem_nil, or_false] at hk
    rcases hk with rfl | rfl <;> rfl
  | @nm k x mm hk hx =>
    have mm := lookup_mem hk
    simp only [kPrt, List.mem_cons, List.not_mem_nil, or_false, Prod.mk.injEq] at mm
    rcases mm with ⟨rfl, rfl⟩ | ⟨rfl, rfl⟩ | ⟨rfl, rfl⟩ | ⟨rfl, rfl⟩
    · obtain rfl := List.length_eq_zero_iff.mp hl; rfl
    · obtain rfl := List.length_eq_zero_iff.mp hl; rfl
    · obtain ⟨a, b, rfl⟩ := len_two (show ps.length = 2 from hl); rfl
    · obtain ⟨a, rfl⟩ := len_one (show ps.length = 1 from hl); rfl
  | seq h1 h2 =>
    show ps.take 401 = ps
    exact List.take_of_length_le (by omega)
  | jmp hk h1 h2 =>
    rw [List.length_eq_zero_iff.mp hl]
    simp only [kJumps, List.mem_cons, List.not_mem_nil, or_false] at hk
    rcases hk with rfl | rfl <;> rfl
theorem rdg_pre {hd ps : List PyData} {m : Nat} {l : List Str} (g : HdG hd m l) (hl : ps.length = m) (h : ∀ p ∈ ps, RdG p) : (preD (builtD hd ps)).length = 1 + (ps.map fun p => (preD p).length).sum ∧ wordsD (builtD hd ps) = l ++ ps.flatMap wordsD := by
  have gp : ∀ p ∈ ps, GdR p := fun p hp => rdg_gdr (h p hp)
  refine ⟨?_, (built_ok g hl gp).2⟩
  rw [preD_eq, rdg_parts g hl, List.length_cons, List.length_flatMap]
  omega
theorem sum_mem {l : List Nat} {x : Nat} (h : x ∈ l) : x ≤ l.sum := by
  induction l with
  | nil => cases h
  | cons a l ih =>
    rw [List.sum_cons]
    rcases List.mem_cons.mp h with z | z
    · omega
    · have := ih z; omega
inductive HdN : Str → List PyData → Nat → List Str → Prop
  | tf {k : Str} (h : k ∈ kTF) : HdN k [.str k] 2 [k]
  | nm {k x : Str} {m : Nat} (h : (k = "if" ∧ m = 2) ∨ (k = "while" ∧ m = 1)) (hx : nameOk x = true) : HdN k [.str k, .str x] m [k, x]
  | seq {n : Nat} (h1 : 1 ≤ n) (h2 : n ≤ 400) : HdN "seq" [.str "seq"] n [("seq" : Str), Str.ofString (toString (n : Int))]
def kDC : List Str := ["do", "call"]
def kIW : List Str := ["if", "while"]
def kIWS : List Str := ["if", "while", "seq"]
theorem no_both {a b : List Str} {k : Str} (h : ∀ x ∈ a, ¬ x ∈ b) (h1 : k ∈ a) (h2 : k ∈ b) : False := h k h1 h2
theorem hdg_rr {hd : List PyData} {m : Nat} {k : Str} {r : List Str} (g : HdG hd m (k :: r)) (h : k ∈ kRR) : hd = [.str k] ∧ m = 0 ∧ r = [] := by
  cases g with
  | rr _ => exact ⟨rfl, rfl, rfl⟩
  | tf h' => exact (no_both (a := kRR) (b := kTF) (by decide +kernel) h h').elim
  | nm h' hx => exact (no_both (a := kRR) (b := kPrt.map (·.1)) (by decide +kernel) h (List.mem_map_of_mem (f := Prod.fst) (lookup_mem h'))).elim
  | seq _ _ => exact absurd h (by decide +kernel)
  | jmp h' _ _ => exact (no_both (a := kRR) (b := kJumps) (by decide +kernel) h h').elim
theorem hdg_jmp {hd : List PyData} {m : Nat} {k : Str} {r : List Str} (g : HdG hd m (k :: r)) (h : k ∈ kJumps) : ∃ n : Nat, hd = [.str k, .int (n : Int)] ∧ m = 0 ∧ r = [Str.ofString (toString (n : Int))] ∧ 1 ≤ n ∧ n ≤ 400 := by
  cases g with
  | rr h' => exact (no_both (a := kRR) (b := kJumps) (by decide +kernel) h' h).elim
  | tf h' => exact (no_both (a := kTF) (b := kJumps) (by decide +kernel) h' h).elim
  | nm h' hx => exact (no_both (a := kJumps) (b := kPrt.map (·.1)) (by decide +kernel) h (List.mem_map_of_mem (f := Prod.fst) (lookup_mem h'))).elim
  | seq _ _ => exact absurd h (by decide +kernel)
  | @jmp _ n h' h1 h2 => exact ⟨n, rfl, rfl, rfl, h1, h2⟩
theorem hdg_dc {hd : List PyData} {m : Nat} {k : Str} {r : List Str} (g : HdG hd m (k :: r)) (h : k ∈ kDC) : ∃ x : Str, hd = [.str k, .str x] ∧ m = 0 ∧ r = [x] := by
  cases g with
  | rr h' => exact (no_both (a := kRR) (b := kDC) (by decide +kernel) h' h).elim
  | tf h' => exact (no_both (a := kTF) (b := kDC) (by decide +kernel) h' h).elim
  | @nm _ x mm h' hx =>
    refine ⟨x, rfl, ?_, rfl⟩
    simp only [kDC, List.mem_cons, List.not_mem_nil, or_false] at h
    rcases h with rfl | rfl
    · rw [show kPrt.lookup (Str.ofString "do") = some 0 by decide +kernel] at h'; cases h'; rfl
    · rw [show kPrt.lookup (Str.ofString "call") = some 0 by decide +kernel] at h'; cases h'; rfl
  | seq _ _ => exact absurd h (by decide +kernel)
  | jmp h' _ _ => exact (no_both (a := kJumps) (b := kDC) (by decide +kernel) h' h).elim
theorem hdg_n {hd : List PyData} {m : Nat} {k : Str} {r : List Str} (g : HdG hd m (k :: r)) (h1 : ¬ k ∈ kRR) (h2 : ¬ k ∈ kJumps) (h3 : ¬ k ∈ kDC) : HdN k hd m (k :: r) := by
  cases g with
  | rr h' => exact absurd h' h1
  | tf h' => exact .tf h'
  | @nm _ x mm h' hx =>
    refine .nm ?_ hx
    have mm := lookup_mem h'
    simp only [kPrt, List.mem_cons, List.not_mem_nil, or_false, Prod.mk.injEq] at mm
    rcases mm with ⟨rfl, rfl⟩ | ⟨rfl, rfl⟩ | ⟨rfl, rfl⟩ | ⟨rfl, rfl⟩
    · exact absurd (show (Str.ofString "do") ∈ kDC by decide +kernel) h3
    · exact absurd (show (Str.ofString "call") ∈ kDC by decide +kernel) h3
    · exact .inl ⟨rfl, rfl⟩
    · exact .inr ⟨rfl, rfl⟩
  | seq a b => exact .seq a b
  | jmp h' _ _ => exact absurd h' h2
def m0N (k : Str) : Int := if k = "while" then 1 else if k = "seq" then 0 else 2
theorem kvB_val {k : Str} {hd : List PyData} {m : Nat} {l : List Str} (g : HdN k hd m l) : (valV (mergeK [] kvB) (.inr k)).getD (.int 0) = .int (m0N k) := by
  cases g with
  | tf h =>
    simp only [kTF, List.mem_cons, List.not_mem_nil, or_false] at h
    rcases h with rfl | rfl <;> kernel_rfl
  | nm h hx =>
    rcases h with ⟨rfl, _⟩ | ⟨rfl, _⟩ <;> kernel_rfl
  | seq _ _ => kernel_rfl
section
variable {P : Program} {w : World} {h : Heap} {K : PySem.W.Frag} {mg : Str → Option Value} {base : Heap}
theorem lb_pre (n : Nat) (IH : ∀ m, m < n → Ok P w K mg base (m + 2) ("_law_built", none) ["_law_words_here", "_law_at"] (sp_lbuilt K m)) (T : Tx w h K mg) :
    Ok P w K mg base (n + 1) ("_law_built", none) ["_law_words_here", "_law_at"] (fun vs H Q E => ∃ m, m < n ∧ sp_lbuilt K m vs H Q E) := by
  cases n with
  | zero =>
    obtain ⟨fd, F⟩ := F_law_built T
    refine ⟨fd, ⟨fun vs H Q E h => ?_, fun A outer s H args us vs Q E _ _ _ _ h => ?_⟩, F.bindsN (fun _ _ _ _ _ _ us hl => match us, hl with | [_, _], _ => rfl), F.kp⟩
    · obtain ⟨m, h, _⟩ := h
      exact absurd h (Nat.not_lt_zero _)
    · obtain ⟨m, h, _⟩ := h
      exact absurd h (Nat.not_lt_zero _)
  | succ n =>
    obtain ⟨fd, G, b, kp⟩ := IH n (Nat.lt_succ_self _)
    refine ⟨fd, G.imp fun vs H Q E h => ?_, b, kp⟩
    obtain ⟨m, hm, F, a, ws, i, d, rest, e, x, sq, dr, rg, hn, q⟩ := h
    exact ⟨F, a, ws, i, d, rest, e, x, sq, dr, rg, by omega, q⟩
abbrev N_law_built : List Str := ["_law_words_here", "_law_at", "_law_word_here", "_law_many", "_law_head", "_law_begin", "_law_parts_here", "_law_turn", "_law_part"]
theorem sc_law_built : FnScope N_law_built ["_law_words_here", "_law_at"] (defScope sd_law_built) := ⟨rfl, rfl, rfl, by decide +kernel, rfl, by decide +kernel, by decide +kernel⟩
theorem ok_law_built (n : Nat) (IH : ∀ m, m < n → Ok P w K mg base (m + 2) ("_law_built", none) ["_law_words_here", "_law_at"] (sp_lbuilt K m)) (T : Tx w h K mg) : Ok P w K mg base (n+2) ("_law_built", none) ["_law_words_here", "_law_at"] (sp_lbuilt K n) := by
  obtain ⟨fd, F⟩ := F_law_built T
  refine ⟨fd, ?_, F.bindsN (fun _ _ _ _ _ _ us hl => match us, hl with | [_, _], _ => rfl), F.kp⟩
  obtain ⟨fd_law_built, G_law_built, bi_law_built, kp_law_built⟩ : Ok P w K mg base (n + 1) ("_law_built", none) ["_law_words_here", "_law_at"] (fun vs H Q E => ∃ m, m < n ∧ sp_lbuilt K m vs H Q E) := lb_pre n IH T
  refine F.ok sc_law_built (fun vs H Q E h => ?_) (fun cdv A outer s H vs Q E hr h => ?_)
  · obtain ⟨F, a, ws, i, d, rest, rfl, xF, sq, dr, rg, hn, q⟩ := h
    rfl
  · obtain ⟨F, a, ws, i, d, rest, rfl, xF, sq, dr, rg, hn, q⟩ := h
    refine ⟨_, PSs.nox (pss_cons (ps_par rfl sc_law_built.nd (i := 2) (j := 3) rfl rfl (by decide) rfl rfl (pa_cons (pe_ix ix_list (pv 0) (pv 1) (fun _ _ => rfl)) (pa_cons pe_int pa_nil)) (by rfl)) (pss_cons (ps_if (pt_cmpR op_in_seq (pv 2) (pe_tup (pa_cons pe_str (pa_cons pe_str pa_nil))) (by rfl)) (pss_one (ps_ret (pe_tup (pa_cons (pe_tup (pa_cons (pv 2) pa_nil)) (pa_cons (pe_op op_add (pv 1) pe_int) pa_nil))))) pss_nil) (pss_cons (ps_if (pt_cmpR op_in_seq (pv 2) (pe_tup (pa_cons pe_str (pa_cons pe_str pa_nil))) (by rfl)) (pss_one (ps_ret (pe_tup (pa_cons (pe_tup (pa_cons (pv 2) (pa_cons (pe_callTy call_int_str rfl (fr_int T) b_int (pa_cons (pe_ix ix_list (pv 0) (pe_op op_add (pv 1) pe_int) (fun _ _ => rfl)) pa_nil)) pa_nil))) (pa_cons (pe_op op_add (pv 1) pe_int) pa_nil))))) pss_nil) (Evl.pss_cut (ps_if (pt_cmpR op_in_seq (pv 2) (pe_tup (pa_cons pe_str (pa_cons pe_str pa_nil))) (by rfl)) (pss_one (ps_ret (pe_tup (pa_cons (pe_tup (pa_cons (pv 2) (pa_cons (pe_ix ix_list (pv 0) (pe_op op_add (pv 1) pe_int) (fun _ _ => rfl)) pa_nil))) (pa_cons (pe_op op_add (pv 1) pe_int) pa_nil))))) pss_nil) (Evl.pss_cut (ps_set (i := 3) sc_law_built.nd rfl (Or.inl rfl) (pe_dget2 (hu_of hr) (pe_disp (pps_cons pe_str pe_int (pps_cons pe_str pe_int (pps_cons pe_str pe_int (pps_cons pe_str pe_int pps_nil)))) (by rfl) (by rfl) (fun z => by cases z) (by decide)) (pv 2) pe_int ⟨rfl, rfl, rfl, rfl⟩)) (Evl.pss_cut (ps_par rfl sc_law_built.nd (i := 4) (j := 5) rfl rfl (by decide) rfl rfl (pa_cons (pe_tup (pa_cons (pv 2) pa_nil)) (pa_cons (pe_op op_add (pe_op op_add (pv 1) pe_int) (pe_callTy call_int1 rfl (fr_int T) b_int (pa_cons (pe_cmpR op_in_seq (pv 2) (pe_tup (pa_cons pe_str (pa_cons pe_str (pa_cons pe_str pa_nil)))) (by rfl)) pa_nil))) pa_nil)) (by rfl)) (Evl.pss_cut (ps_if (pt_cmpR op_in_seq (pv 2) (pe_tup (pa_cons pe_str (pa_cons pe_str pa_nil))) (by rfl)) (pss_one (ps_set (i := 4) sc_law_built.nd rfl (Or.inl rfl) (pe_tup (pa_cons (pv 2) (pa_cons (pe_ix ix_list (pv 0) (pe_op op_add (pv 1) pe_int) (fun _ _ => rfl)) pa_nil))))) pss_nil) (Evl.pss_cut (ps_if (pt_cmpR op_eq (pv 2) pe_str (nomark _)) (pss_one (ps_set (i := 3) sc_law_built.nd rfl (Or.inl rfl) (pe_callTy call_int_str rfl (fr_int T) b_int (pa_cons (pe_ix ix_list (pv 0) (pe_op op_add (pv 1) pe_int) (fun _ _ => rfl)) pa_nil)))) pss_nil) (pss_cons (ps_set (i := 6) sc_law_built.nd rfl (Or.inl rfl) (pe_lst pa_nil)) (pss_cons (ps_for PassesOwn.never rfl (pi_range1 rfl (fr_range T) (pa_cons (pv 3) pa_nil)) (pg_name (i := 7) sc_law_built.nd rfl (Or.inl rfl)) (pss_cons (ps_asg (pe_call G_law_built (hr.mono (by omega)) rfl (g_law_built T) kp_law_built bi_law_built .nil passF (pa_cons (pv 0) (pa_cons (pv 5) pa_nil))) (pg_tup rfl (pgs_cons (pg_name (i := 8) sc_law_built.nd rfl (Or.inl rfl)) (pgs_cons (pg_name (i := 5) sc_law_built.nd rfl (Or.inl rfl)) pgs_nil)))) (pss_one (ps_expr (pe_bm PySem.F.plainAttrs_list PySem.F.slot_list_append PySem.F.type_list_append mt_append (pv 6) (pa_cons (pv 8) pa_nil)))))) (Evl.pss_cut (ps_if (pt_cmpR op_eq (pv 2) pe_str (nomark _)) (pss_one (ps_ret (pe_tup (pa_cons (pe_tup (pa_cons pe_str (pa_cons (pe_callTy call_tuple_of rfl (fr_tuple T) b_tuple (pa_cons (pv 6) pa_nil)) pa_nil))) (pa_cons (pv 5) pa_nil))))) pss_nil) (pss_one (ps_ret (pe_tup (pa_cons (pe_op op_catT (pv 4) (pe_callTy call_tuple_of rfl (fr_tuple T) b_tuple (pa_cons (pv 6) pa_nil))) (pa_cons (pv 5) pa_nil)))))))))))))))), ?_⟩
    have sqH := Evl.ex_l xF sq
    cases rg with
    | @mk hd ps m l g hl h =>
    obtain ⟨pl, wd⟩ := rdg_pre g hl h
    rw [wd] at dr q
    rw [pl] at hn
    obtain ⟨k, r, rfl⟩ := hdg_one (k := "") g
    obtain ⟨hw0, dr1⟩ := drop_at (show ws.drop i = k :: (r ++ ps.flatMap wordsD ++ rest) by rw [dr]; simp)
    refine ⟨_, rfl, _, rfl, a, _, _, _, rfl, rfl, sqH, atI_nat (ws_at hw0), _, _, rfl, ?_⟩
    have fin2 : ∀ {H1 H2 H2' H3 : Hp} {p2 p3 : Addr} {xs : List V} {ii : Int}, ps = [] → ii = ((i + (k :: r).length : Nat) : Int) → PyData.tuple hd = builtD hd [] → Ex H H1 → H1 p2 = none → H2 p2 = some (.tup xs) → (∀ b, b ≠ p2 → H2 b = H1 b) → Ex H2 H2' → H2' p3 = none → H3 p3 = some (.tup [.ref p2, .int ii]) → (∀ b, b ≠ p3 → H3 b = H2' b) → DpAll K F xs hd → Q (.ref p3) H3 := fun {H1 H2 H2' H3 p2 p3 xs ii} e0 ei et x1 n2 s2 o2 x2 n3 s3 o3 da => by
      subst e0
      rw [ei] at s3
      have x12 : Ex H1 H2 := fun b o e => by rw [o2 b (ne_of_none e n2)]; exact e
      have x3 : Ex H2' H3 := fun b o e => by rw [o3 b (ne_of_none e n3)]; exact e
      have g : Gr (fun _ => False) F H (upd F p2 (.tup xs)) H3 := ((Gr.new xF x1).trans (Gr.frz (xF.trans x1) n2 s2 o2)).trans (Gr.new (Gr.frz (M := fun _ => False) (xF.trans x1) n2 s2 o2).fh (x2.trans x3))
      have hF : F p2 = none := ex_none (xF.trans x1) n2
      refine q _ H3 p3 p2 g (by rw [s3]; simp) ?_
      rw [← et]
      exact .tup (Evl.st_of upd_same) (dpA_ex (exu (Evl.Ex.refl _) hF) da)
    refine ⟨_, rfl, sz (by simp), ?_⟩
    intro p1 n1
    generalize e1 : upd _ p1 _ = H1
    obtain ⟨x1, s1, o1⟩ := new_of e1 n1
    clear e1
    refine ⟨p1, _, rfl, .inr (Evl.st_of s1), rfl, flat_strs kRR, _, rfl, ?_⟩
    rw [show inV (.str k) [V.str "return", .str "raise"] = decide (k ∈ kRR) from inV_strs k kRR]
    refine ite_of (fun h1 => ?_) (fun h1 => ?_)
    · obtain ⟨rfl, rfl, rfl⟩ := hdg_rr g (of_decide_eq_true h1)
      refine ⟨_, rfl, sz (by simp), ?_⟩
      intro p2 n2
      generalize e2 : upd _ p2 _ = H2
      obtain ⟨x2, s2, o2⟩ := new_of e2 n2
      clear e2
      refine ⟨_, rfl, _, _, rfl, rfl, sz (by simp), ?_⟩
      intro p3 n3
      generalize e3 : upd _ p3 _ = H3
      obtain ⟨x3, s3, o3⟩ := new_of e3 n3
      clear e3
      exact fin2 (List.length_eq_zero_iff.mp hl) (by simp) (tuple_hd g) x1 n2 s2 o2 (Evl.Ex.refl _) n3 s3 o3 (.cons (.str _) .nil)
    have h1 := of_decide_eq_false h1
    refine ⟨_, rfl, sz (by simp), ?_⟩
    intro p4 n4
    generalize e4 : upd _ p4 _ = H4
    obtain ⟨x4, s4, o4⟩ := new_of e4 n4
    clear e4
    refine ⟨p4, _, rfl, .inr (Evl.st_of s4), rfl, flat_strs kJumps, _, rfl, ?_⟩
    rw [show inV (.str k) [V.str "break", .str "continue"] = decide (k ∈ kJumps) from inV_strs k kJumps]
    have x14 := x1.trans x4
    have e1i : ((i : Int) + 1) = ((i + 1 : Nat) : Int) := by omega
    refine ite_of (fun h2 => ?_) (fun h2 => ?_)
    · obtain ⟨nn, rfl, rfl, rfl, n1', n2'⟩ := hdg_jmp g (of_decide_eq_true h2)
      obtain ⟨hw1, _⟩ := drop_at (show ws.drop (i + 1) = Str.ofString (toString (nn : Int)) :: (ps.flatMap wordsD ++ rest) by rw [dr1]; simp)
      obtain ⟨k1, k2⟩ := num_ok n1' n2'
      obtain ⟨iv, il⟩ := numOk_int k1
      rw [k2] at iv
      refine ⟨_, rfl, _, rfl, _, rfl, _, _, rfl, rfl, a, _, _, _, rfl, congrArg V.int e1i, Evl.ex_l x14 sqH, atI_nat (ws_at hw1), _, _, rfl, iv, il, sz (by simp), ?_⟩
      intro p2 n2
      generalize e2 : upd _ p2 _ = H2
      obtain ⟨x2, s2, o2⟩ := new_of e2 n2
      clear e2
      refine ⟨_, rfl, _, _, rfl, rfl, sz (by simp), ?_⟩
      intro p3 n3
      generalize e3 : upd _ p3 _ = H3
      obtain ⟨x3, s3, o3⟩ := new_of e3 n3
      clear e3
      exact fin2 (List.length_eq_zero_iff.mp hl) (by simp) (tuple_hd g) x14 n2 s2 o2 (Evl.Ex.refl _) n3 s3 o3 (.cons (.str _) (.cons (.int _) .nil))
    have h2 := of_decide_eq_false h2
    -- do, call
    refine ⟨fun σ' H' => Ex H H' ∧ σ' = [some (.ref a), some (.int (i : Int)), some (.str k), some (.int 0), none, none, none, none, none] ∧ ¬ k ∈ kDC, ?_, ?_⟩
    · refine ⟨_, rfl, sz (by simp), ?_⟩
      intro p5 n5
      generalize e5 : upd _ p5 _ = H5
      obtain ⟨x5, s5, o5⟩ := new_of e5 n5
      clear e5
      refine ⟨p5, _, rfl, .inr (Evl.st_of s5), rfl, flat_strs kDC, _, rfl, ?_⟩
      rw [show inV (.str k) [V.str "do", .str "call"] = decide (k ∈ kDC) from inV_strs k kDC]
      have x15 := x14.trans x5
      refine ite_of (fun h3 => ?_) (fun h3 => ⟨x15, rfl, of_decide_eq_false h3⟩)
      obtain ⟨x, rfl, rfl, rfl⟩ := hdg_dc g (of_decide_eq_true h3)
      obtain ⟨hw1, _⟩ := drop_at (show ws.drop (i + 1) = x :: (ps.flatMap wordsD ++ rest) by rw [dr1]; simp)
      refine ⟨_, rfl, _, rfl, _, rfl, _, _, rfl, rfl, a, _, _, _, rfl, congrArg V.int e1i, Evl.ex_l x15 sqH, atI_nat (ws_at hw1), sz (by simp), ?_⟩
      intro p2 n2
      generalize e2 : upd _ p2 _ = H2
      obtain ⟨x2, s2, o2⟩ := new_of e2 n2
      clear e2
      refine ⟨_, rfl, _, _, rfl, rfl, sz (by simp), ?_⟩
      intro p3 n3
      generalize e3 : upd _ p3 _ = H3
      obtain ⟨x3, s3, o3⟩ := new_of e3 n3
      clear e3
      exact fin2 (List.length_eq_zero_iff.mp hl) (by simp) (tuple_hd g) x15 n2 s2 o2 (Evl.Ex.refl _) n3 s3 o3 (.cons (.str _) (.cons (.str _) .nil))
    rintro σ' H5 ⟨x5, rfl, h3⟩
    have gn := hdg_n g h1 h2 h3
    -- many
    refine ⟨fun σ' H' => Ex H H' ∧ σ' = [some (.ref a), some (.int (i : Int)), some (.str k), some (.int (m0N k)), none, none, none, none, none], ?_, ?_⟩
    · refine fun p6 n6 => ⟨upd_same, kvB, rfl, by decide, ?_⟩
      generalize e6 : upd _ p6 (.dK (mergeK [] kvB)) = H6
      have s6 : H6 p6 = some (.dK (mergeK [] kvB)) := by rw [← e6, upd_same]
      have x6 : Ex H5 H6 := fun b o e => by rw [← e6, upd_ne (ne_of_none e n6), upd_ne (ne_of_none e n6)]; exact e
      refine ⟨p6, rfl, .inl ⟨_, .inl s6⟩, _, rfl, _, DGet.k (k := .inr k) s6, ?_⟩
      rw [kvB_val gn]
      exact ⟨x5.trans x6, rfl⟩
    rintro σ' H6 ⟨x6, rfl⟩
    -- head, begin
    refine ⟨fun σ' H' => ∃ (F7 : Hp) (hA : Addr), Gr (fun _ => False) F H F7 H' ∧ F7 hA = some (.tup [.str k]) ∧ σ' = [some (.ref a), some (.int (i : Int)), some (.str k), some (.int (m0N k)), some (.ref hA), some (.int ((i + (k :: r).length : Nat) : Int)), none, none, none], ?_, ?_⟩
    · refine ⟨_, rfl, sz (by simp), ?_⟩
      intro p7 n7
      generalize e7 : upd _ p7 _ = H7
      obtain ⟨x7, s7, o7⟩ := new_of e7 n7
      clear e7
      refine ⟨_, rfl, _, _, rfl, rfl, _, rfl, sz (by simp), ?_⟩
      intro p8 n8
      generalize e8 : upd _ p8 _ = H8
      obtain ⟨x8, s8, o8⟩ := new_of e8 n8
      clear e8
      refine ⟨p8, _, rfl, .inr (Evl.st_of s8), rfl, flat_strs kIWS, .inr ⟨_, rfl, _, _, rfl, rfl, _, _, rfl, ?_⟩⟩
      rw [show inV (.str k) [V.str "if", .str "while", .str "seq"] = decide (k ∈ kIWS) from inV_strs k kIWS]
      have g7 := Gr.frz (M := fun _ => False) (xF.trans x6) n7 s7 o7
      refine ⟨_, p7, ((Gr.new (M := fun _ => False) xF x6).trans g7).trans (Gr.new g7.fh x8), upd_same, ?_⟩
      have eb : ((i : Int) + 1 + (if (if false = true then !decide (k ∈ kIWS) else decide (k ∈ kIWS)) = true then 1 else 0)) = ((i + (k :: r).length : Nat) : Int) := by
        cases gn with
        | tf h' =>
          have : ¬ k ∈ kIWS := fun z => no_both (a := kTF) (b := kIWS) (by decide +kernel) h' z
          rw [decide_eq_false this]
          simp
        | nm h' hx =>
          have : k ∈ kIWS := by rcases h' with ⟨rfl, _⟩ | ⟨rfl, _⟩ <;> decide +kernel
          rw [decide_eq_true this]
          simp
          omega
        | seq _ _ =>
          rw [show decide ((Str.ofString "seq") ∈ kIWS) = true by decide +kernel]
          simp
          omega
      rw [← eb]
      rfl
    rintro σ' H7 ⟨F7, hA, g7, ha7, rfl⟩
    -- if word in ('if', 'while')
    refine ⟨fun σ' H' => ∃ (F8 : Hp) (hA : Addr), Gr (fun _ => False) F H F8 H' ∧ Dp K F8 (.ref hA) (.tuple hd) ∧ σ' = [some (.ref a), some (.int (i : Int)), some (.str k), some (.int (m0N k)), some (.ref hA), some (.int ((i + (k :: r).length : Nat) : Int)), none, none, none], ?_, ?_⟩
    · refine ⟨_, rfl, sz (by simp), ?_⟩
      intro p8 n8
      generalize e8 : upd _ p8 _ = H8
      obtain ⟨x8, s8, o8⟩ := new_of e8 n8
      clear e8
      refine ⟨p8, _, rfl, .inr (Evl.st_of s8), rfl, flat_strs kIW, _, rfl, ?_⟩
      rw [show inV (.str k) [V.str "if", .str "while"] = decide (k ∈ kIW) from inV_strs k kIW]
      have g8 := g7.trans (Gr.new g7.fh x8)
      cases gn with
      | tf h' =>
        have : ¬ k ∈ kIW := fun z => no_both (a := kTF) (b := kIW) (by decide +kernel) h' z
        exact itF (decide_eq_false this) ⟨F7, hA, g8, .tup (Evl.st_of ha7) (.cons (.str _) .nil), rfl⟩
      | seq _ _ => exact itF (by decide +kernel) ⟨F7, hA, g8, .tup (Evl.st_of ha7) (.cons (.str _) .nil), rfl⟩
      | @nm _ x _ h' hx =>
        have : k ∈ kIW := by rcases h' with ⟨rfl, _⟩ | ⟨rfl, _⟩ <;> decide +kernel
        refine itT (decide_eq_true this) ?_
        obtain ⟨hw1, _⟩ := drop_at (show ws.drop (i + 1) = x :: (ps.flatMap wordsD ++ rest) by rw [dr1]; simp)
        refine ⟨_, rfl, _, rfl, _, rfl, _, _, rfl, rfl, a, _, _, _, rfl, congrArg V.int e1i, Evl.ex_l (g8.ff.trans g8.fh) sq, atI_nat (ws_at hw1), sz (by simp), ?_⟩
        intro p9 n9
        generalize e9 : upd _ p9 _ = H9
        obtain ⟨x9, s9, o9⟩ := new_of e9 n9
        clear e9
        exact ⟨_, p9, g8.trans (Gr.frz g8.fh n9 s9 o9), .tup (Evl.st_of upd_same) (.cons (.str _) (.cons (.str _) .nil)), rfl⟩
    rintro σ' H8 ⟨F8, hA, g8, dh8, rfl⟩
    -- if word == 'seq'
    refine ⟨fun σ' H' => H' = H8 ∧ σ' = [some (.ref a), some (.int (i : Int)), some (.str k), some (.int (m : Int)), some (.ref hA), some (.int ((i + (k :: r).length : Nat) : Int)), none, none, none], ?_, ?_⟩
    · refine ⟨_, rfl, rfl, _, rfl, ?_⟩
      cases gn with
      | tf h' =>
        have h5 : ¬ k = "seq" := fun z => no_both (a := kTF) (b := ["seq"]) (by decide +kernel) h' (by rw [z]; exact List.mem_cons_self)
        have h6 : ¬ k = "while" := fun z => no_both (a := kTF) (b := ["while"]) (by decide +kernel) h' (by rw [z]; exact List.mem_cons_self)
        refine itF (decide_eq_false fun z => h5 (V.str.inj z)) ⟨rfl, ?_⟩
        unfold m0N
        rw [if_neg h6, if_neg h5] <;> rfl
      | nm h' hx =>
        rcases h' with ⟨rfl, rfl⟩ | ⟨rfl, rfl⟩
        · exact itF (by decide +kernel) ⟨rfl, rfl⟩
        · exact itF (by decide +kernel) ⟨rfl, rfl⟩
      | seq n1' n2' =>
        refine itT (by decide +kernel) ?_
        obtain ⟨hw1, _⟩ := drop_at (show ws.drop (i + 1) = Str.ofString (toString (m : Int)) :: (ps.flatMap wordsD ++ rest) by rw [dr1]; simp)
        obtain ⟨k1, k2⟩ := num_ok n1' n2'
        obtain ⟨iv, il⟩ := numOk_int k1
        rw [k2] at iv
        exact ⟨_, rfl, _, rfl, _, _, rfl, rfl, a, _, _, _, rfl, congrArg V.int e1i, Evl.ex_l (g8.ff.trans g8.fh) sq, atI_nat (ws_at hw1), _, _, rfl, iv, il, rfl, rfl⟩
    rintro σ' H8' ⟨rfl, rfl⟩
    have m4 : m ≤ 400 := by
      cases gn with
      | tf h' => omega
      | nm h' hx => omega
      | seq n1' n2' => exact n2'
    -- the parts
    refine ⟨sz (by simp), ?_⟩
    intro p9 n9
    generalize e9 : upd _ p9 _ = H9
    obtain ⟨x9, s9, o9⟩ := new_of e9 n9
    clear e9
    have n9H : H p9 = none := by
      cases e : H p9 with
      | none => rfl
      | some o => rw [g8.kp p9 o e id] at n9; cases n9
    refine ⟨_, rfl, _, rfl, by omega, by omega, ?_⟩
    rw [show ((m : Nat) : Int).toNat = m by omega]
    refine for_it (walk_range (lo := 0) (n := m)) (fun j σ' H' => ∃ (F' : Hp) (vs : List V) (o7 o8 : Option V), Gr (fun _ => False) F H F' H' ∧ F' p9 = none ∧ Ex F8 F' ∧ H' p9 = some (.lst vs) ∧ DpAll K F' vs (ps.take j) ∧ σ' = [some (.ref a), some (.int (i : Int)), some (.str k), some (.int (m : Int)), some (.ref hA), some (.int ((i + (k :: r).length + ((ps.take j).flatMap wordsD).length : Nat) : Int)), some (.ref p9), o7, o8]) ?_ ?_ ?_ ?_
    · exact ⟨F8, [], none, none, g8.trans (Gr.new g8.fh x9), ex_none g8.fh n9, Evl.Ex.refl _, s9, .nil, by simp; try rfl⟩
    · exact fun _ _ _ _ _ => True.intro
    · rintro j vj σ' Hx H10 hj ⟨F10, vs, o7, o8, g10, f10, e10, l10, d10, rfl⟩ ⟨rfl, hvj⟩
      have hj : j < ps.length := by rw [hl]; exact hj
      obtain ⟨q1, hq1⟩ : ∃ q1, ps[j]? = some q1 := ⟨_, List.getElem?_eq_getElem hj⟩
      have q1m := List.mem_of_getElem? hq1
      have lv := dpA_len d10
      rw [List.length_take] at lv
      have e5 : (ps.take (j + 1)).flatMap wordsD = (ps.take j).flatMap wordsD ++ wordsD q1 := by
        rw [List.take_add_one, hq1, List.flatMap_append]
        simp
      have drj : ws.drop (i + (k :: r).length + ((ps.take j).flatMap wordsD).length) = wordsD q1 ++ ((ps.drop (j + 1)).flatMap wordsD ++ rest) := by
        rw [← List.drop_drop, ← List.drop_drop, dr]
        have e6 : ps.flatMap wordsD = (ps.take j).flatMap wordsD ++ (wordsD q1 ++ (ps.drop (j + 1)).flatMap wordsD) := by
          rw [← List.append_assoc, ← e5, ← List.flatMap_append, List.take_append_drop]
        rw [e6, List.append_assoc, List.drop_left, List.append_assoc, List.drop_left, List.append_assoc]
      have hpre : (preD q1).length ≤ n - 1 := by
        have := sum_mem (List.mem_map_of_mem (f := fun p => (preD p).length) q1m)
        omega
      have hn1 : 1 ≤ n := by omega
      refine ⟨_, rfl, _, rfl, n - 1, by omega, F10, a, ws, _, q1, _, rfl, g10.fh, Evl.ex_l g10.ff sq, drj, h q1 q1m, hpre, fun F11 H11 t b g11 ht db => ?_⟩
      refine ⟨t, _, rfl, Evl.st_of ht, rfl, _, _, rfl, _, _, rfl, rfl, ?_⟩
      have l11 := g11.ex _ _ l10
      have f11 : F11 p9 = none := g11.nw p9 (by rw [l10]; exact fun z => nomatch z) f10 id
      refine ⟨_, rfl, Or.inl ⟨rfl, _, Evl.sq_of l11⟩, _, rfl, p9, _, _, rfl, rfl, l11, szl (by omega), ?_⟩
      generalize e12 : upd _ p9 _ = H12
      obtain ⟨s12, o12⟩ := set_of e12
      clear e12
      have gg := g10.trans g11
      refine ⟨F11, _, some vj, some (.ref b), ⟨gg.ff, set_ex gg.fh f11 o12, gg.nw, fun b o e z => by rw [o12 b (ne_of_none e n9H)]; exact gg.kp b o e z⟩, f11, e10.trans g11.ff, s12, ?_, ?_⟩
      · rw [List.take_add_one, hq1]
        exact dpA_app (dpA_ex g11.ff d10) (.cons db .nil)
      · rw [e5, List.length_append, ← Nat.add_assoc]
        rfl
    rintro σ' H10 ⟨F10, vs, o7, o8, g10, f10, e10, l10, d10, rfl⟩
    have l10 : H10 p9 = some (.lst vs) := l10
    have d10 : DpAll K F10 vs (ps.take m) := d10
    rw [show m = ps.length from hl.symm, List.take_length] at d10 ⊢
    have eW : i + (k :: r).length + (ps.flatMap wordsD).length = i + (k :: r ++ ps.flatMap wordsD).length := by rw [List.length_append]; omega
    have lv := dpA_len d10
    have pne : ps ≠ [] := fun z => by
      rw [z] at hl
      cases gn with
      | tf h' => simp at hl
      | nm h' hx => simp at hl; omega
      | seq n1' n2' => simp at hl; omega
    -- the answer
    refine ⟨fun σ' H' => ¬ k = "seq" ∧ H' = H10 ∧ σ' = [some (.ref a), some (.int (i : Int)), some (.str k), some (.int ((ps.length : Nat) : Int)), some (.ref hA), some (.int ((i + (k :: r).length + (ps.flatMap wordsD).length : Nat) : Int)), some (.ref p9), o7, o8], ?_, ?_⟩
    · refine ⟨_, rfl, rfl, _, rfl, ite_of (fun h5 => ?_) (fun h5 => ⟨fun z => of_decide_eq_false h5 (by rw [z]), rfl, rfl⟩)⟩
      have h5 : k = "seq" := V.str.inj (of_decide_eq_true h5)
      refine ⟨_, rfl, p9, _, rfl, .inl ⟨Evl.sq_of l10, ?_⟩⟩
      intro p11 n11
      generalize e11 : upd _ p11 _ = H11
      obtain ⟨x11, s11, o11⟩ := new_of e11 n11
      clear e11
      refine ⟨sz (by simp), ?_⟩
      intro p12 n12
      generalize e12 : upd _ p12 _ = H12
      obtain ⟨x12, s12, o12⟩ := new_of e12 n12
      clear e12
      refine ⟨_, rfl, sz (by simp), ?_⟩
      intro p13 n13
      generalize e13 : upd _ p13 _ = H13
      obtain ⟨x13, s13, o13⟩ := new_of e13 n13
      clear e13
      have g11 := g10.trans (Gr.frz g10.fh n11 s11 o11)
      have g12 := g11.trans (Gr.frz g11.fh n12 s12 o12)
      refine q _ H13 p13 p12 (g12.trans (Gr.new g12.fh x13)) (by rw [s13, eW]) ?_
      have eB : builtD hd ps = .tuple [.str "seq", .tuple ps] := by
        subst h5
        cases gn with
        | tf h' => exact absurd h' (by decide +kernel)
        | nm h' hx =>
          rcases h' with ⟨z, _⟩ | ⟨z, _⟩
          · exact absurd z (by decide +kernel)
          · exact absurd z (by decide +kernel)
        | seq _ _ => rfl
      rw [eB]
      exact .tup (Evl.st_of upd_same) (.cons (.str _) (.cons (.tup (Evl.st_of (by rw [upd_ne (fun z => by rw [← z, s11] at n12; cases n12), upd_same])) (dpA_ex (exu (exu (Evl.Ex.refl _) (ex_none g10.fh n11)) (ex_none g11.fh n12)) d10)) .nil))
    rintro σ' H11 ⟨h5, rfl, rfl⟩
    obtain ⟨ha0, hx0, e0, hS, hAA⟩ := dp_tup dh8
    cases e0
    have lh := dpA_len hAA
    have hdl : hd ≠ [] ∧ hd.length ≤ 2 := by cases gn <;> simp
    refine ⟨_, rfl, _, rfl, p9, _, rfl, .inl ⟨Evl.sq_of l10, ?_⟩⟩
    intro p12 n12
    generalize e12 : upd _ p12 _ = H12
    obtain ⟨x12, s12, o12⟩ := new_of e12 n12
    clear e12
    have hS12 : SqT K H12 hA hx0 := Evl.ex_t (e10.trans (g10.fh.trans x12)) hS
    refine ⟨hA, p12, _, _, rfl, rfl, hS12, Evl.st_of s12, (fun z => hdl.1 (by have := congrArg List.length z; rw [lh] at this; exact List.length_eq_zero_iff.mp this)), sz (by omega), (fun z => absurd (congrArg List.length z) (by rw [lv, List.length_nil]; exact fun y => pne (List.length_eq_zero_iff.mp y))), fun _ => ?_⟩
    intro p13 n13
    generalize e13 : upd _ p13 _ = H13
    obtain ⟨x13, s13, o13⟩ := new_of e13 n13
    clear e13
    refine ⟨_, rfl, sz (by simp), ?_⟩
    intro p14 n14
    generalize e14 : upd _ p14 _ = H14
    obtain ⟨x14, s14, o14⟩ := new_of e14 n14
    clear e14
    have g12 := g10.trans (Gr.new g10.fh x12)
    have g13 := g12.trans (Gr.frz g12.fh n13 s13 o13)
    refine q _ H14 p14 p13 (g13.trans (Gr.new g13.fh x14)) (by rw [s14, eW]) ?_
    have eB : builtD hd ps = .tuple (hd ++ ps) := by
      have : isSeqH hd = false := by
        cases gn with
        | tf h' => exact decide_eq_false h5
        | nm h' hx => rfl
        | seq _ _ => exact absurd rfl h5
      unfold builtD
      rw [this, if_neg (by decide)]
    rw [eB]
    exact .tup (Evl.st_of upd_same) (dpA_ex (exu (Evl.Ex.refl _) (ex_none g12.fh n13)) (dpA_app (dpA_ex e10 hAA) d10))
theorem ok_lbuilt (T : Tx w h K mg) (n : Nat) : Ok P w K mg base (n + 2) ("_law_built", none) ["_law_words_here", "_law_at"] (sp_lbuilt K n) := by
  induction n using Nat.strongRecOn with
  | ind n ih => exact ok_law_built n ih T
end

end Fc

set_option maxRecDepth 100000
set_option maxHeartbeats 4000000
namespace Fc
open PySem PySem.Spec PyProof.Rows L2 FcR
open Evl (Ex)
/-! ### Reader.statement, read -/
open TL (tl)
def RaisesM (K : PySem.W.Frag) (M : Addr → Prop) (C f : Str) (H : Hp) (y : V) (E : XK) : Prop := ∀ H' d, (∀ b o, H b = some o → ¬ M b → H' b = some o) → H d = none → H' d = some (.xd [(f, y)]) → E (.ref (He.ga K C)) (some d) H'
def sp_Rstm (K : PySem.W.Frag) : Sp := fun vs H Q E => ∃ (F : Hp) (rd dx wa ba : Addr) (ws : List Str), vs = [.ref rd] ∧ RdH K F H rd dx wa ba 0 .non [] [] [] ∧ SqL K F wa (ws.map V.str) ∧ ws.length ≤ 3000 ∧ Lens ws ∧
  (match readAll ws with
    | .inl j => RaisesM K (fun b => b = rd ∨ b = ba) "InvalidText" "at" H (.int (j : Int)) E
    | .inr d => ∀ (F' H' : Hp) (b : Addr), Gr (fun b => b = rd ∨ b = ba) F H F' H' → Dp K F' (.ref b) d → Q (.ref b) H')
theorem closeP_len : ∀ (st : List Fr) (d : PyData), (closeP st d).1.length ≤ st.length
  | [], _ => Nat.le_refl _
  | f :: st, d => by
    show (if f.ps.length + 1 < f.m then _ else closeP st _).1.length ≤ _
    split
    · exact Nat.le_refl _
    · have := closeP_len st (builtD f.hd (f.ps ++ [d]))
      rw [List.length_cons]
      omega
section
variable {P : Program} {w : World} {h : Heap} {K : PySem.W.Frag} {mg : Str → Option Value} {base : Heap}
abbrev N_Reader_statement : List Str := ["self", "head", "many"]
theorem sc_Reader_statement : FnScope N_Reader_statement ["self"] (defScope sd_Reader_statement) := ⟨rfl, rfl, rfl, by decide +kernel, rfl, by decide +kernel, by decide +kernel⟩
theorem ok_Reader_statement (T : Tx w h K mg) : Ok P w K mg base 5 ("Reader", some "statement") ["self"] (sp_Rstm K) := by
  obtain ⟨fd, F⟩ := F_Reader_statement T
  refine ⟨fd, ?_, F.bindsN (fun _ _ _ _ _ _ us hl => match us, hl with | [_], _ => rfl), F.kp⟩
  obtain ⟨fd_head_at, G_head_at, bi_head_at, kp_head_at⟩ := ok_head_at (P := P) (base := base) T
  obtain ⟨fd_InvalidText___init__, G_InvalidText___init__, bi_InvalidText___init__, kp_InvalidText___init__, FD_InvalidText___init__⟩ := okF_InvalidText___init__ (P := P) (base := base) T
  obtain ⟨fd_Reader_close, G_Reader_close, bi_Reader_close, kp_Reader_close⟩ := ok_Reader_close (P := P) (base := base) T
  refine F.ok sc_Reader_statement (fun vs H Q E h => ?_) (fun cdv A outer s H vs Q E hr h => ?_)
  · obtain ⟨F, rd, dx, wa, ba, ws, rfl, R0, hws, hl, hz, alt⟩ := h
    rfl
  · obtain ⟨F, rd, dx, wa, ba, ws, rfl, R0, hws, hl, hz, alt⟩ := h
    refine ⟨_, (pss_cons (ps_while (passes_of rfl) (pt_cmpR op_isN (pe_fld (pv 0) rfl) pe_non (nomark _)) (pss_cons (ps_asg (pe_call G_head_at (hr.mono (by decide)) rfl (g_head_at T) kp_head_at bi_head_at .nil (passes_call (takes_of rfl rfl rfl rfl) (fun _ _ _ _ h => h)) (pa_cons (pe_fld (pv 0) rfl) (pa_cons (pe_fld (pv 0) rfl) pa_nil))) (pg_tup rfl (pgs_cons (pg_name (i := 1) sc_Reader_statement.nd rfl (Or.inl rfl)) (pgs_cons (pg_name (i := 2) sc_Reader_statement.nd rfl (Or.inl rfl)) (pgs_cons (FcR.pg_fld (pv 0)) pgs_nil))))) (pss_one (ps_if (pt_cmpR op_gt (pv 2) pe_int (nomark _)) (pss_one (ps_expr (pe_bm PySem.F.plainAttrs_list PySem.F.slot_list_append PySem.F.type_list_append mt_append (pe_fld (pv 0) rfl) (pa_cons (pe_tup (pa_cons (pv 1) (pa_cons (pv 2) (pa_cons (pe_lst pa_nil) pa_nil)))) pa_nil)))) (pss_one (ps_expr (pe_meth (pv 0) (c_Reader T) (me_Reader_close T) G_Reader_close (hr.mono (by decide)) bi_Reader_close .nil (passes_call (takes_of rfl rfl rfl rfl) (fun _ _ _ _ h => h)) (pa_cons (pv 1) pa_nil)))))))) (pss_cons (ps_if (pt_cmpR op_lt (pe_fld (pv 0) rfl) (pe_callB call_len_seq rfl (fr_len T) b_len (pa_cons (pe_fld (pv 0) rfl) pa_nil)) (nomark _)) (pss_one (ps_raise rfl (takes_of rfl rfl rfl rfl) (FcX.pmk_X (x_InvalidText T) (xi_InvalidText T) G_InvalidText___init__ (hr.mono (by decide)) bi_InvalidText___init__ passF rfl (g_InvalidText T) (pe_fld (pv 0) rfl)))) pss_nil) (pss_one (ps_ret (pe_fld (pv 0) rfl))))), ?_⟩
    have bad : ∀ {F2 H2 : Hp} {i : Nat} {dv : V} {ts as : List Addr} {st : List Fr}, Gr (fun b => b = rd ∨ b = ba) F H F2 H2 → RdH K F2 H2 rd dx wa ba i dv ts as st → ∀ j : Nat, readAll ws = .inl j → RaisesA K "InvalidText" "at" H2 (.int (j : Int)) E := fun {F2 H2 i dv ts as st} g R2 j ej H3 d x3 nd s3 => by
      rw [ej] at alt
      refine alt H3 d (fun b o e hb => x3 _ _ (g.kp b o e hb)) ?_ s3
      cases e : H d with
      | none => rfl
      | some o =>
        by_cases hM : d = rd ∨ d = ba
        · rcases hM with z | z
          · rw [z, R2.ob] at nd; cases nd
          · rw [z, R2.bl] at nd; cases nd
        · rw [g.kp d o e hM] at nd; cases nd
    refine ⟨fun m σ' H' => ∃ (F2 : Hp) (i : Nat) (dv : V) (ts as : List Addr) (st : List Fr) (o1 o2 : Option V), σ' = [some (.ref rd), o1, o2] ∧ Gr (fun b => b = rd ∨ b = ba) F H F2 H' ∧ RdH K F2 H' rd dx wa ba i dv ts as st ∧ (∀ a ∈ as, H a = none) ∧ i ≤ ws.length ∧
        ((dv = .non ∧ readP ws m i st = readP ws (ws.length + 1) 0 [] ∧ ws.length + 1 ≤ m + i ∧ st.length ≤ i) ∨ ∃ b d, dv = .ref b ∧ Dp K F2 (.ref b) d ∧ readP ws (ws.length + 1) 0 [] = .inr (d, i)),
      ⟨ws.length + 1, F, 0, .non, [], [], [], none, none, rfl, Gr.refl R0.x, R0, fun a z => (by cases z), Nat.zero_le _, .inl ⟨rfl, rfl, Nat.le_refl _, Nat.le_refl _⟩⟩, ?_⟩
    rintro m σ' H' ⟨F2, i, dv, ts, as, st, o1, o2, rfl, gr, R2, has, hi, alt2⟩
    have hwF : SqL K F2 wa (ws.map V.str) := Evl.ex_l gr.ff hws
    have hwH : SqL K H' wa (ws.map V.str) := Evl.ex_l R2.x hwF
    refine ⟨_, rfl, rd, _, _, _, _, rfl, R2.ob, c_Reader T, na_Reader_done T, fl_Reader_done _ _ _ _, ?_⟩
    rcases alt2 with ⟨rfl, er, hm, hst⟩ | ⟨b, d, rfl, db, er⟩
    · refine ⟨rfl, _, rfl, itT rfl ?_⟩
      obtain ⟨m, rfl⟩ : ∃ m', m = m' + 1 := ⟨m - 1, by omega⟩
      refine ⟨fun σ' H' => _, fun σ' H' h => ⟨m, Nat.lt_succ_self _, h⟩, ?_⟩
      rw [readP_succ] at er
      refine ⟨_, rfl, rd, _, _, _, _, rfl, R2.ob, c_Reader T, na_Reader_words T, fl_Reader_words _ _ _ _, _, rfl, rd, _, _, _, _, rfl, R2.ob, c_Reader T, na_Reader_at T, fl_Reader_at _ _ _ _, F2, wa, ws, i, rfl, R2.x, hwH, hi, hz, ?_⟩
      cases eh : headAt ws i with
      | bad j =>
        rw [eh] at er
        exact bad gr R2 j (by unfold readAll; rw [← er])
      | ok hd k i' =>
        rw [eh] at er
        replace er : (if 0 < k then readP ws m i' (⟨hd, k, []⟩ :: st) else goP ws m i' (closeP st (.tuple hd))) = readP ws (ws.length + 1) 0 [] := er
        obtain ⟨i1, i2, hok, k4⟩ := headAt_ok eh
        intro F3 H3 t hh g3 nt Ft ht dh
        have k3 := g3.ex
        have ob3 := k3 _ _ R2.ob
        have rdn : H' rd ≠ none := by rw [R2.ob]; exact fun z => nomatch z
        have ban : H' ba ≠ none := by rw [R2.bl]; exact fun z => nomatch z
        have fr3 := g3.nw rd rdn R2.fr id
        have fb3 := g3.nw ba ban R2.fb id
        refine ⟨t, _, rfl, Evl.st_of ht, rfl, _, _, rfl, _, _, rfl, _, _, rfl, _, rfl, rd, _, dx, _, rfl, ob3, c_Reader T, na_Reader_at T, (by simp [fl_Reader]), rfl, ?_⟩
        rw [fp_Reader_at]
        generalize e4 : upd _ rd _ = H4
        obtain ⟨s4, o4⟩ := set_of e4
        clear e4
        have g4 := (gr.trans (g3.mono fun _ z => z.elim)).trans (Gr.set g3.fh (.inl rfl) fr3 o4)
        have sk4 : Stk K F3 H4 ts as st := R2.sk.mono g3.ff fun a ha o e => by rw [o4 a (R2.fa a ha).2.1]; exact k3 _ _ e
        have fa4 : ∀ a ∈ as, F3 a = none ∧ a ≠ rd ∧ a ≠ ba := fun a ha => by
          obtain ⟨c1, c2, c3⟩ := R2.fa a ha
          obtain ⟨o, eo⟩ := R2.sk.there ha
          exact ⟨g3.nw a (by rw [eo]; exact fun z => nomatch z) c1 id, c2, c3⟩
        have R4 : RdH K F3 H4 rd dx wa ba i' .non ts as st := ⟨g4.fh, s4, by rw [o4 ba R2.ne.symm]; exact k3 _ _ R2.bl, fr3, fb3, R2.ne, sk4, fa4, R2.nd⟩
        refine ⟨_, rfl, _, _, rfl, rfl, _, rfl, ite_of (fun h5 => ?_) (fun h5 => ?_)⟩
        · have h5 : 0 < k := by have := of_decide_eq_true h5; omega
          rw [if_pos h5] at er
          refine ⟨_, rfl, rd, _, _, _, _, rfl, R4.ob, c_Reader T, na_Reader_begun T, fl_Reader_begun _ _ _ _, Or.inl ⟨rfl, _, Evl.sq_of R4.bl⟩, _, rfl, _, rfl, sz (by simp), ?_⟩
          intro p5 n5
          generalize e5 : upd _ p5 _ = H5
          obtain ⟨x5, s5, o5⟩ := new_of e5 n5
          clear e5
          refine ⟨sz (by simp), ?_⟩
          intro p6 n6
          generalize e6 : upd _ p6 _ = H6
          obtain ⟨x6, s6, o6⟩ := new_of e6 n6
          clear e6
          have bl6 := x6 _ _ (x5 _ _ R4.bl)
          have ls : ts.length = st.length := R4.sk.len
          refine ⟨ba, _, _, rfl, rfl, bl6, szl (by simp; omega), ?_⟩
          generalize e7 : upd _ ba _ = H7
          obtain ⟨s7, o7⟩ := set_of e7
          clear e7
          have F5 : F3 p5 = none := ex_none R4.x n5
          have F6 : F3 p6 = none := ex_none (R4.x.trans x5) n6
          have p56 : p5 ≠ p6 := fun z => by rw [← z, s5] at n6; cases n6
          have p5b : p5 ≠ ba := fun z => by rw [z, R4.bl] at n5; cases n5
          have p5r : p5 ≠ rd := fun z => by rw [z, R4.ob] at n5; cases n5
          have p6b : p6 ≠ ba := fun z => by rw [z, x5 _ _ R4.bl] at n6; cases n6
          have p6r : p6 ≠ rd := fun z => by rw [z, x5 _ _ R4.ob] at n6; cases n6
          have g6 := (g4.trans (Gr.new g4.fh x5)).trans (Gr.frz (R4.x.trans x5) n6 s6 o6)
          have fb6 : upd F3 p6 (.tup [.ref hh, .int (k : Int), .ref p5]) ba = none := by rw [upd_ne p6b.symm]; exact fb3
          have g7 := g6.trans (Gr.set g6.fh (.inr rfl) fb6 o7)
          have xFF : Ex F3 (upd F3 p6 (.tup [.ref hh, .int (k : Int), .ref p5])) := exu (Evl.Ex.refl _) F6
          have H5n : H p5 = none := by
            cases e : H p5 with
            | none => rfl
            | some o => rw [g4.kp p5 o e (fun z => z.elim p5r p5b)] at n5; cases n5
          have p5as : p5 ∉ as := fun z => by obtain ⟨o, eo⟩ := R4.sk.there z; rw [eo] at n5; cases n5
          refine ⟨_, i', .non, p6 :: ts, p5 :: as, ⟨hd, k, []⟩ :: st, _, _, rfl, g7, ⟨g7.fh, by rw [o7 rd R2.ne]; exact x6 _ _ (x5 _ _ R4.ob), by rw [s7, List.map_cons, List.reverse_cons], by rw [upd_ne p6r.symm]; exact fr3, fb6, R2.ne, ?_, ?_, List.nodup_cons.mpr ⟨p5as, R2.nd⟩⟩, ?_, i2, .inl ⟨rfl, er, by omega, by simp; omega⟩⟩
          · refine .cons (f := ⟨hd, k, []⟩) upd_same (dp_ex xFF dh) hok (by rw [o7 p5 p5b]; exact x6 _ _ s5) .nil h5 k4 (sk4.mono xFF fun a ha o e => ?_)
            rw [o7 a (fa4 a ha).2.2]
            exact x6 _ _ (x5 _ _ e)
          · intro a ha
            rcases List.mem_cons.mp ha with z | z
            · rw [z]
              exact ⟨by rw [upd_ne p56]; exact F5, p5r, p5b⟩
            · obtain ⟨c1, c2, c3⟩ := fa4 a z
              refine ⟨?_, c2, c3⟩
              rw [upd_ne (fun y => ?_)]
              · exact c1
              · obtain ⟨o, eo⟩ := R4.sk.there z
                rw [← y, x5 _ _ eo] at n6
                cases n6
          · intro a ha
            rcases List.mem_cons.mp ha with z | z
            · rw [z]; exact H5n
            · exact has a z
        · have h5 : ¬ 0 < k := by have := of_decide_eq_false h5; omega
          rw [if_neg h5] at er
          refine ⟨_, rfl, rd, _, _, rfl, R4.ob, fm_Reader_close _ _ _ _, ?_⟩
          refine ⟨_, rfl, F3, rd, dx, wa, ba, hh, i', ts, as, st, .tuple hd, rfl, R4, dh, by omega, fun F5 H5 dv5 ts5 as5 g5 R5 hsub hd5 => ?_⟩
          have g5' := g4.hide (M' := fun b => b = rd ∨ b = ba ∨ b ∈ as) g5 fun x hx => by
            rcases hx with z | z | z
            · exact .inr (.inl z)
            · exact .inr (.inr z)
            · exact .inl (has x z)
          refine ⟨F5, i', dv5, ts5, as5, _, _, _, rfl, g5', R5, fun a ha => has a (hsub a ha), i2, ?_⟩
          cases ec : (closeP st (.tuple hd)).2 with
          | none =>
            rw [ec] at hd5
            have er : readP ws m i' (closeP st (.tuple hd)).1 = readP ws (ws.length + 1) 0 [] := by
              rw [← er]
              unfold goP
              rw [ec]
            refine .inl ⟨hd5, er, by omega, ?_⟩
            have := closeP_len st (.tuple hd)
            omega
          | some d' =>
            rw [ec] at hd5
            obtain ⟨b, e1, e2⟩ := hd5
            refine .inr ⟨b, d', e1, e2, ?_⟩
            rw [← er]
            unfold goP
            rw [ec]
    · refine ⟨rfl, _, rfl, itF rfl ?_⟩
      refine ⟨_, rfl, rd, _, _, _, _, rfl, R2.ob, c_Reader T, na_Reader_at T, fl_Reader_at _ _ _ _, _, rfl, rd, _, _, _, _, rfl, R2.ob, c_Reader T, na_Reader_words T, fl_Reader_words _ _ _ _, wa, _, rfl, .inl hwH, _, _, rfl, rfl, _, rfl, ite_of (fun h5 => ?_) (fun h5 => ?_)⟩
      · have h5 : i < ws.length := by have := of_decide_eq_true h5; rw [List.length_map] at this; omega
        have ra := bad gr R2 i (by unfold readAll; rw [er]; exact if_pos h5)
        exact ⟨_, rfl, rd, _, _, _, _, rfl, R2.ob, c_Reader T, na_Reader_at T, fl_Reader_at _ _ _ _, _, rfl, fun d n => ra _ d (exu (Evl.Ex.refl _) n) n upd_same⟩
      · have h5 : ¬ i < ws.length := by have := of_decide_eq_false h5; rw [List.length_map] at this; omega
        rw [show readAll ws = .inr d by unfold readAll; rw [er]; exact if_neg h5] at alt
        exact ⟨_, rfl, rd, _, _, _, _, rfl, R2.ob, c_Reader T, na_Reader_done T, fl_Reader_done _ _ _ _, alt F2 H' b gr db⟩
end

end Fc

set_option maxRecDepth 100000
set_option maxHeartbeats 4000000
namespace Fc
open PySem PySem.Spec PyProof.Rows L2 FcR
open Evl (Ex)
/-! ### read -/
def sp_read (K : PySem.W.Frag) : Sp := fun vs H Q _ => ∃ (F : Hp) (x : Str) (d : PyData) (N : Nat) (fin : List Row), vs = [.str x] ∧ Ex F H ∧ x.length ≤ 900000 ∧ (Txt.split x " ").length ≤ 2000 ∧ Lens (Txt.split x " ") ∧ readAll (Txt.split x " ") = .inr d ∧ GS d ∧ Builds N [⟨d, none, 1, 0, 0⟩] [] fin ∧
  ∀ (A : CAd) (F' H' : Hp), Gr (fun _ => False) F H F' H' → H A.p = none → CodeH K F' F' A fin → Q (.ref A.p) H'
/-- a text, or what is none, that is refused -/
inductive RdBad (K : PySem.W.Frag) (H : Hp) : V → Str × Str × Int → Prop
  | no {v : V} {t : Value} (ty : ∀ H', Ex H H' → TyX K H' v t) (k : PySem.W.kitOne K t (.type "str") = some false) : RdBad K H v ("InvalidText", "at", -1)
  | long {x : Str} (h : x.length ≤ 900000) (l : 2000 < (Txt.split x " ").length) : RdBad K H (.str x) ("LimitExceeded", "limit", 2000)
  | bad {x : Str} {j : Nat} (h : x.length ≤ 900000) (l : (Txt.split x " ").length ≤ 2000) (z : Lens (Txt.split x " ")) (e : readAll (Txt.split x " ") = .inl j) : RdBad K H (.str x) ("InvalidText", "at", (j : Int))
  | code {x : Str} {d : PyData} {N : Nat} {f : Str × Str × Int} (h : x.length ≤ 900000) (l : (Txt.split x " ").length ≤ 2000) (z : Lens (Txt.split x " ")) (e : readAll (Txt.split x " ") = .inr d) (g : GS d) (b : Fails N [⟨d, none, 1, 0, 0⟩] [] f) : RdBad K H (.str x) f
def sp_readX (K : PySem.W.Frag) : Sp := fun vs H Q E => ∃ (v : V) (f : Str × Str × Int), vs = [v] ∧ RdBad K H v f ∧ RaisesA K f.1 f.2.1 H (.int f.2.2) E
theorem szB {n : Nat} (h : n ≤ 1000000) : n ≤ sizeLine := Nat.le_trans h (by decide)
theorem one_len : ((Str.ofString " ").length == 0) = false := by decide +kernel
section
variable {P : Program} {w : World} {h : Heap} {K : PySem.W.Frag} {mg : Str → Option Value} {base : Heap}
abbrev N_read : List Str := ["text", "words"]
theorem sc_read : FnScope N_read ["text"] (defScope sd_read) := ⟨rfl, rfl, rfl, by decide +kernel, rfl, by decide +kernel, by decide +kernel⟩
theorem okF_read (T : Tx w h K mg) : ∃ fd, FnOk P w K mg base (CX P w) 8 (He.fAd K ("read", none)) fd ["text"] (sp_read K) ∧ Binds K fd ["text"] [] ∧ PySem.W.keepIn K (.ref (He.fAd K ("read", none))) = true ∧ FunD K "read" "read" (defArgs sd_read) (defBody sd_read) (defScope sd_read) [] [] (He.fAd K ("read", none)) fd := by
  obtain ⟨fd, F⟩ := F_read T
  refine ⟨fd, ?_, F.bindsN (fun _ _ _ _ _ _ us hl => match us, hl with | [_], _ => rfl), F.kp, F⟩
  obtain ⟨fd_Code___init__, G_Code___init__, bi_Code___init__, kp_Code___init__⟩ := ok_Code___init__ (P := P) (base := base) T
  obtain ⟨fd_Reader___init__, G_Reader___init__, bi_Reader___init__, kp_Reader___init__⟩ := ok_Reader___init__ (P := P) (base := base) T
  obtain ⟨fd_Reader_statement, G_Reader_statement, bi_Reader_statement, kp_Reader_statement⟩ := ok_Reader_statement (P := P) (base := base) T
  obtain ⟨tm_MOST_WORDS, m_MOST_WORDS⟩ := i_MOST_WORDS T
  refine F.ok sc_read (fun vs H Q E h => ?_) (fun cdv A outer s H vs Q E hr h => ?_)
  · obtain ⟨F, x, d, N, fin, rfl, xF, hx, hl, hz, er, gs, bd, q⟩ := h
    rfl
  · obtain ⟨F, x, d, N, fin, rfl, xF, hx, hl, hz, er, gs, bd, q⟩ := h
    refine ⟨_, PSs.nox (pss_cons (ps_if (pt_not (pt_val (pe_callB call_isi rfl (fr_isinstance T) b_isinstance (pa_cons (pv 0) (pa_cons (pe_bltn (v := .ty "str") rfl (fr_str T) b_str rfl) pa_nil))))) (pss_one ps_never) pss_nil) (pss_cons (ps_set (i := 1) sc_read.nd rfl (Or.inl rfl) (pe_bm PySem.F.plainAttrs_str PySem.F.slot_str_split PySem.F.type_str_split mt_split (pv 0) (pa_cons pe_str pa_nil))) (pss_cons (ps_if (pt_cmpR op_gt (pe_callB call_len_seq rfl (fr_len T) b_len (pa_cons (pv 1) pa_nil)) (pe_glob (v := .int 2000) rfl m_MOST_WORDS ⟨_, rfl⟩) (nomark _)) (pss_one ps_never) pss_nil) (pss_one (ps_ret (pe_make (mk_Code T) G_Code___init__ (hr.mono (by decide)) rfl (g_Code T) bi_Code___init__ .nil passF (pa_cons (pe_meth0 (pe_make (mk_Reader T) G_Reader___init__ (hr.mono (by decide)) rfl (g_Reader T) bi_Reader___init__ .nil passF (pa_cons (pv 1) pa_nil)) (c_Reader T) (me_Reader_statement T) G_Reader_statement (hr.mono (by decide)) bi_Reader_statement .nil passF) pa_nil))))))), ?_⟩
    refine ⟨_, rfl, .str x, .ty "str", _, _, _, rfl, .ty _, dp_ty (Dp.str (K := K) (H := H) x), k_str (.str x), _, rfl, itF rfl ?_⟩
    refine ⟨_, rfl, rfl, x, " ", rfl, rfl, one_len, szB (by omega), ?_⟩
    intro p1 n1
    generalize e1 : upd _ p1 _ = H1
    obtain ⟨x1, s1, o1⟩ := new_of e1 n1
    clear e1
    refine ⟨_, rfl, p1, _, rfl, .inl (Evl.sq_of s1), _, _, rfl, rfl, _, rfl, itF (decide_eq_false (by rw [List.length_map]; omega)) ?_⟩
    refine ⟨_, rfl, fun rd dx nrd ndx nerd => ?_⟩
    generalize e2 : upd (upd _ dx _) rd _ = H2
    obtain ⟨x2, hr2⟩ := make_of e2 nrd ndx
    clear e2
    refine ⟨rd, dx, p1, rfl, hr2, fun H3 ba nba k3 o3 r3 b3 => ⟨rfl, ?_⟩⟩
    have rb : rd ≠ ba := fun z => by rw [← z, hr2] at nba; cases nba
    have p1r : p1 ≠ rd := fun z => by rw [← z, s1] at nrd; cases nrd
    have p1H : H1 p1 = some (.lst ((Txt.split x " ").map V.str)) := s1
    have kk : ∀ b o, H1 b = some o → H3 b = some o := fun b o e => k3 b o (x2 _ _ e) (fun z => by rw [z, nrd] at e; cases e)
    refine ⟨rd, _, _, rfl, r3, fm_Reader_statement _ _ _ _, ?_⟩
    have fp1 : F p1 = none := ex_none xF n1
    have xF1 : Ex (upd F p1 (.lst ((Txt.split x " ").map V.str))) H1 := fun b o e => by
      by_cases z : b = p1
      · rw [z, upd_same] at e; cases e; rw [z]; exact s1
      · rw [upd_ne z] at e; exact x1 _ _ (xF _ _ e)
    have xF3 : Ex (upd F p1 (.lst ((Txt.split x " ").map V.str))) H3 := fun b o e => kk _ _ (xF1 b o e)
    have frd : upd F p1 (.lst ((Txt.split x " ").map V.str)) rd = none := ex_none xF1 nrd
    have fba : upd F p1 (.lst ((Txt.split x " ").map V.str)) ba = none := by
      cases e : upd F p1 (.lst ((Txt.split x " ").map V.str)) ba with
      | none => rfl
      | some o => rw [x2 _ _ (xF1 _ _ e)] at nba; cases nba
    have Hrd : H rd = none := ex_none x1 nrd
    have Hba : H ba = none := ex_none (x1.trans x2) nba
    have g3 : Gr (fun _ => False) F H (upd F p1 (.lst ((Txt.split x " ").map V.str))) H3 := ⟨exu (Evl.Ex.refl _) fp1, xF3, fun b h1 h2 _ => by rw [upd_ne (fun z => h1 (by rw [z]; exact n1))]; exact h2, fun b o e _ => kk b o (x1 _ _ e)⟩
    refine ⟨upd F p1 (.lst ((Txt.split x " ").map V.str)), rd, dx, p1, ba, Txt.split x " ", rfl, ⟨xF3, r3, b3, frd, fba, rb, .nil, fun a z => (by cases z), List.nodup_nil⟩, Evl.sq_of upd_same, by omega, hz, ?_⟩
    rw [er]
    intro F4 H4 b g4 db
    have g4' := g3.hide g4 fun z hz => .inl (hz.elim (fun e => by rw [e]; exact Hrd) (fun e => by rw [e]; exact Hba))
    refine fun p5 dx5 np5 nd5 ne5 => ?_
    generalize e5 : upd (upd _ dx5 _) p5 _ = H5
    obtain ⟨x5, hq5⟩ := make_of e5 np5 nd5
    clear e5
    have Hp5 : H p5 = none := by
      cases e : H p5 with
      | none => rfl
      | some o => rw [g4'.kp p5 o e id] at np5; cases np5
    refine ⟨F4, p5, dx5, .ref b, d, GS, N, fin, rfl, hq5, g4.fh.trans x5, ex_none g4.fh np5, db, fun e he => gs_parts he, gs, bd, fun A F6 H6 eA g6 C6 => ⟨rfl, ?_⟩⟩
    subst eA
    exact q A F6 H6 ((g4'.trans (Gr.new g4'.fh x5)).hide g6 fun z hz => .inl (by rw [hz]; exact Hp5)) Hp5 C6
theorem ok_read (T : Tx w h K mg) : Ok P w K mg base 8 ("read", none) ["text"] (sp_read K) := by
  obtain ⟨fd, a, b, c, _⟩ := okF_read (P := P) (base := base) T
  exact ⟨fd, a, b, c⟩
theorem okF_readX (T : Tx w h K mg) : ∃ fd, FnOk P w K mg base (CX P w) 8 (He.fAd K ("read", none)) fd ["text"] (sp_readX K) ∧ Binds K fd ["text"] [] ∧ PySem.W.keepIn K (.ref (He.fAd K ("read", none))) = true ∧ FunD K "read" "read" (defArgs sd_read) (defBody sd_read) (defScope sd_read) [] [] (He.fAd K ("read", none)) fd := by
  obtain ⟨fd, F⟩ := F_read T
  refine ⟨fd, ?_, F.bindsN (fun _ _ _ _ _ _ us hl => match us, hl with | [_], _ => rfl), F.kp, F⟩
  obtain ⟨fd_Code___init__, G_Code___init__, bi_Code___init__, kp_Code___init__⟩ := ok_Code___init__X (P := P) (base := base) T
  obtain ⟨fd_InvalidText___init__, G_InvalidText___init__, bi_InvalidText___init__, kp_InvalidText___init__, FD_InvalidText___init__⟩ := okF_InvalidText___init__ (P := P) (base := base) T
  obtain ⟨fd_LimitExceeded___init__, G_LimitExceeded___init__, bi_LimitExceeded___init__, kp_LimitExceeded___init__, FD_LimitExceeded___init__⟩ := okF_LimitExceeded___init__ (P := P) (base := base) T
  obtain ⟨fd_Reader___init__, G_Reader___init__, bi_Reader___init__, kp_Reader___init__⟩ := ok_Reader___init__ (P := P) (base := base) T
  obtain ⟨fd_Reader_statement, G_Reader_statement, bi_Reader_statement, kp_Reader_statement⟩ := ok_Reader_statement (P := P) (base := base) T
  obtain ⟨tm_MOST_WORDS, m_MOST_WORDS⟩ := i_MOST_WORDS T
  refine F.ok sc_read (fun vs H Q E h => ?_) (fun cdv A outer s H vs Q E hr h => ?_)
  · obtain ⟨v, f, rfl, b, ra⟩ := h
    rfl
  · obtain ⟨v, f, rfl, b, ra⟩ := h
    refine ⟨_, (pss_cons (ps_if (pt_not (pt_val (pe_callB call_isi rfl (fr_isinstance T) b_isinstance (pa_cons (pv 0) (pa_cons (pe_bltn (v := .ty "str") rfl (fr_str T) b_str rfl) pa_nil))))) (pss_one (ps_raise rfl (takes_of rfl rfl rfl rfl) (FcX.pmk_X (x_InvalidText T) (xi_InvalidText T) G_InvalidText___init__ (hr.mono (by decide)) bi_InvalidText___init__ passF rfl (g_InvalidText T) (pe_un un_neg pe_int)))) pss_nil) (pss_cons (ps_set (i := 1) sc_read.nd rfl (Or.inl rfl) (pe_bm PySem.F.plainAttrs_str PySem.F.slot_str_split PySem.F.type_str_split mt_split (pv 0) (pa_cons pe_str pa_nil))) (pss_cons (ps_if (pt_cmpR op_gt (pe_callB call_len_seq rfl (fr_len T) b_len (pa_cons (pv 1) pa_nil)) (pe_glob (v := .int 2000) rfl m_MOST_WORDS ⟨_, rfl⟩) (nomark _)) (pss_one (ps_raise rfl (takes_of rfl rfl rfl rfl) (FcX.pmk_X (x_LimitExceeded T) (xi_LimitExceeded T) G_LimitExceeded___init__ (hr.mono (by decide)) bi_LimitExceeded___init__ passF rfl (g_LimitExceeded T) (pe_glob (v := .int 2000) rfl m_MOST_WORDS ⟨_, rfl⟩)))) pss_nil) (pss_one (ps_ret (pe_make (mk_Code T) G_Code___init__ (hr.mono (by decide)) rfl (g_Code T) bi_Code___init__ .nil (passes_call (takes_of rfl rfl rfl rfl) (fun _ _ _ _ h => h)) (pa_cons (pe_meth0 (pe_make (mk_Reader T) G_Reader___init__ (hr.mono (by decide)) rfl (g_Reader T) bi_Reader___init__ .nil (passes_call (takes_of rfl rfl rfl rfl) (fun _ _ _ _ h => h)) (pa_cons (pv 1) pa_nil)) (c_Reader T) (me_Reader_statement T) G_Reader_statement (hr.mono (by decide)) bi_Reader_statement .nil (passes_call (takes_of rfl rfl rfl rfl) (fun _ _ _ _ h => h))) pa_nil))))))), ?_⟩
    have fin : ∀ {C g : Str} {i : Int}, f = (C, g, i) → ∀ H1, Ex H H1 → ∀ d, H1 d = none → E (.ref (He.ga K C)) (some d) (upd H1 d (.xd [(g, .int i)])) := fun {C g i} e H1 x d n => by
      subst e
      exact ra _ d (x.trans (exu (Evl.Ex.refl _) n)) (ex_none x n) upd_same
    have xF : Ex H H := Evl.Ex.refl _
    cases b with
    | no ty k =>
      refine ⟨_, rfl, v, .ty "str", _, _, _, rfl, .ty _, ty _ (Evl.Ex.refl _), k, _, rfl, itT rfl ?_⟩
      exact ⟨_, rfl, _, rfl, fun d n => fin rfl H (Evl.Ex.refl _) d n⟩
    | @long x hx hl =>
      refine ⟨_, rfl, .str x, .ty "str", _, _, _, rfl, .ty _, dp_ty (Dp.str (K := K) (H := H) x), k_str (.str x), _, rfl, itF rfl ?_⟩
      refine ⟨_, rfl, rfl, x, " ", rfl, rfl, one_len, szB (by omega), ?_⟩
      intro p1 n1
      generalize e1 : upd _ p1 _ = H1
      obtain ⟨x1, s1, o1⟩ := new_of e1 n1
      clear e1
      refine ⟨_, rfl, p1, _, rfl, .inl (Evl.sq_of s1), _, _, rfl, rfl, _, rfl, itT (decide_eq_true (by rw [List.length_map]; omega)) ?_⟩
      exact ⟨_, rfl, fun d n => fin rfl H1 x1 d n⟩
    | @bad x j hx hl hz er =>
      refine ⟨_, rfl, .str x, .ty "str", _, _, _, rfl, .ty _, dp_ty (Dp.str (K := K) (H := H) x), k_str (.str x), _, rfl, itF rfl ?_⟩
      refine ⟨_, rfl, rfl, x, " ", rfl, rfl, one_len, szB (by omega), ?_⟩
      intro p1 n1
      generalize e1 : upd _ p1 _ = H1
      obtain ⟨x1, s1, o1⟩ := new_of e1 n1
      clear e1
      refine ⟨_, rfl, p1, _, rfl, .inl (Evl.sq_of s1), _, _, rfl, rfl, _, rfl, itF (decide_eq_false (by rw [List.length_map]; omega)) ?_⟩
      obtain ⟨F, hF⟩ : ∃ F : Hp, F = H := ⟨H, rfl⟩
      have xF : Ex F H := by rw [hF]; exact Evl.Ex.refl _
      refine ⟨_, rfl, fun rd dx nrd ndx nerd => ?_⟩
      generalize e2 : upd (upd _ dx _) rd _ = H2
      obtain ⟨x2, hr2⟩ := make_of e2 nrd ndx
      clear e2
      refine ⟨rd, dx, p1, rfl, hr2, fun H3 ba nba k3 o3 r3 b3 => ⟨rfl, ?_⟩⟩
      have rb : rd ≠ ba := fun z => by rw [← z, hr2] at nba; cases nba
      have p1r : p1 ≠ rd := fun z => by rw [← z, s1] at nrd; cases nrd
      have p1H : H1 p1 = some (.lst ((Txt.split x " ").map V.str)) := s1
      have kk : ∀ b o, H1 b = some o → H3 b = some o := fun b o e => k3 b o (x2 _ _ e) (fun z => by rw [z, nrd] at e; cases e)
      refine ⟨rd, _, _, rfl, r3, fm_Reader_statement _ _ _ _, ?_⟩
      have fp1 : F p1 = none := ex_none xF n1
      have xF1 : Ex (upd F p1 (.lst ((Txt.split x " ").map V.str))) H1 := fun b o e => by
        by_cases z : b = p1
        · rw [z, upd_same] at e; cases e; rw [z]; exact s1
        · rw [upd_ne z] at e; exact x1 _ _ (xF _ _ e)
      have xF3 : Ex (upd F p1 (.lst ((Txt.split x " ").map V.str))) H3 := fun b o e => kk _ _ (xF1 b o e)
      have frd : upd F p1 (.lst ((Txt.split x " ").map V.str)) rd = none := ex_none xF1 nrd
      have fba : upd F p1 (.lst ((Txt.split x " ").map V.str)) ba = none := by
        cases e : upd F p1 (.lst ((Txt.split x " ").map V.str)) ba with
        | none => rfl
        | some o => rw [x2 _ _ (xF1 _ _ e)] at nba; cases nba
      have Hrd : H rd = none := ex_none x1 nrd
      have Hba : H ba = none := ex_none (x1.trans x2) nba
      have g3 : Gr (fun _ => False) F H (upd F p1 (.lst ((Txt.split x " ").map V.str))) H3 := ⟨exu (Evl.Ex.refl _) fp1, xF3, fun b h1 h2 _ => by rw [upd_ne (fun z => h1 (by rw [z]; exact n1))]; exact h2, fun b o e _ => kk b o (x1 _ _ e)⟩
      refine ⟨upd F p1 (.lst ((Txt.split x " ").map V.str)), rd, dx, p1, ba, Txt.split x " ", rfl, ⟨xF3, r3, b3, frd, fba, rb, .nil, fun a z => (by cases z), List.nodup_nil⟩, Evl.sq_of upd_same, by omega, hz, ?_⟩
      rw [er]
      intro H4 dd k4 nd4 h4
      refine ra H4 dd (fun b o e => ?_) ?_ h4
      · exact k4 b o (kk _ _ (x1 _ _ e)) (fun z => z.elim (fun y => by rw [y, Hrd] at e; cases e) (fun y => by rw [y, Hba] at e; cases e))
      · cases e : H dd with
        | none => rfl
        | some o => rw [kk _ _ (x1 _ _ e)] at nd4; cases nd4
    | @code x d N f hx hl hz er gs bd =>
      refine ⟨_, rfl, .str x, .ty "str", _, _, _, rfl, .ty _, dp_ty (Dp.str (K := K) (H := H) x), k_str (.str x), _, rfl, itF rfl ?_⟩
      refine ⟨_, rfl, rfl, x, " ", rfl, rfl, one_len, szB (by omega), ?_⟩
      intro p1 n1
      generalize e1 : upd _ p1 _ = H1
      obtain ⟨x1, s1, o1⟩ := new_of e1 n1
      clear e1
      refine ⟨_, rfl, p1, _, rfl, .inl (Evl.sq_of s1), _, _, rfl, rfl, _, rfl, itF (decide_eq_false (by rw [List.length_map]; omega)) ?_⟩
      obtain ⟨F, hF⟩ : ∃ F : Hp, F = H := ⟨H, rfl⟩
      have xF : Ex F H := by rw [hF]; exact Evl.Ex.refl _
      refine ⟨_, rfl, fun rd dx nrd ndx nerd => ?_⟩
      generalize e2 : upd (upd _ dx _) rd _ = H2
      obtain ⟨x2, hr2⟩ := make_of e2 nrd ndx
      clear e2
      refine ⟨rd, dx, p1, rfl, hr2, fun H3 ba nba k3 o3 r3 b3 => ⟨rfl, ?_⟩⟩
      have rb : rd ≠ ba := fun z => by rw [← z, hr2] at nba; cases nba
      have p1r : p1 ≠ rd := fun z => by rw [← z, s1] at nrd; cases nrd
      have p1H : H1 p1 = some (.lst ((Txt.split x " ").map V.str)) := s1
      have kk : ∀ b o, H1 b = some o → H3 b = some o := fun b o e => k3 b o (x2 _ _ e) (fun z => by rw [z, nrd] at e; cases e)
      refine ⟨rd, _, _, rfl, r3, fm_Reader_statement _ _ _ _, ?_⟩
      have fp1 : F p1 = none := ex_none xF n1
      have xF1 : Ex (upd F p1 (.lst ((Txt.split x " ").map V.str))) H1 := fun b o e => by
        by_cases z : b = p1
        · rw [z, upd_same] at e; cases e; rw [z]; exact s1
        · rw [upd_ne z] at e; exact x1 _ _ (xF _ _ e)
      have xF3 : Ex (upd F p1 (.lst ((Txt.split x " ").map V.str))) H3 := fun b o e => kk _ _ (xF1 b o e)
      have frd : upd F p1 (.lst ((Txt.split x " ").map V.str)) rd = none := ex_none xF1 nrd
      have fba : upd F p1 (.lst ((Txt.split x " ").map V.str)) ba = none := by
        cases e : upd F p1 (.lst ((Txt.split x " ").map V.str)) ba with
        | none => rfl
        | some o => rw [x2 _ _ (xF1 _ _ e)] at nba; cases nba
      have Hrd : H rd = none := ex_none x1 nrd
      have Hba : H ba = none := ex_none (x1.trans x2) nba
      have g3 : Gr (fun _ => False) F H (upd F p1 (.lst ((Txt.split x " ").map V.str))) H3 := ⟨exu (Evl.Ex.refl _) fp1, xF3, fun b h1 h2 _ => by rw [upd_ne (fun z => h1 (by rw [z]; exact n1))]; exact h2, fun b o e _ => kk b o (x1 _ _ e)⟩
      refine ⟨upd F p1 (.lst ((Txt.split x " ").map V.str)), rd, dx, p1, ba, Txt.split x " ", rfl, ⟨xF3, r3, b3, frd, fba, rb, .nil, fun a z => (by cases z), List.nodup_nil⟩, Evl.sq_of upd_same, by omega, hz, ?_⟩
      rw [er]
      intro F4 H4 b g4 db
      have g4' := g3.hide g4 fun z hz => .inl (hz.elim (fun e => by rw [e]; exact Hrd) (fun e => by rw [e]; exact Hba))
      refine fun p5 dx5 np5 nd5 ne5 => ?_
      generalize e5 : upd (upd _ dx5 _) p5 _ = H5
      obtain ⟨x5, hq5⟩ := make_of e5 np5 nd5
      clear e5
      have Hp5 : H p5 = none := by
        cases e : H p5 with
        | none => rfl
        | some o => rw [g4'.kp p5 o e id] at np5; cases np5
      refine ⟨F4, p5, dx5, .ref b, d, GS, N, f, rfl, hq5, g4.fh.trans x5, ex_none g4.fh np5, db, fun e he => gs_parts he, gs, bd, fun H6 dd k6 nd6 h6 => ?_⟩
      refine ra H6 dd (fun c o e => ?_) ?_ h6
      · exact k6 c o (x5 _ _ (g4'.kp c o e id)) (fun z => by rw [z, Hp5] at e; cases e)
      · cases e : H dd with
        | none => rfl
        | some o => rw [x5 _ _ (g4'.kp dd o e id)] at nd6; cases nd6
theorem ok_readX (T : Tx w h K mg) : Ok P w K mg base 8 ("read", none) ["text"] (sp_readX K) := by
  obtain ⟨fd, a, b, c, _⟩ := okF_readX (P := P) (base := base) T
  exact ⟨fd, a, b, c⟩
end

end Fc

set_option maxRecDepth 100000
set_option maxHeartbeats 4000000
namespace FcX
open PySem PySem.Spec PyProof.Rows L2 FcR
/-! ### isinstance of what is caught -/
def rIsP (K : PySem.W.Frag) (a : Addr) (cls : Value) (d : Option Addr) : List V → Hp → VK → Prop := fun xs H Q => ∃ (C : Addr) (c : V) (u : Value) (b : Bool) (dd : Addr) (fs : List (Str × V)), xs = [.ref a, c] ∧ ClsV c u ∧ XC K C ∧ cls = .ref C ∧ d = some dd ∧ H dd = some (.xd fs) ∧ PySem.W.kitOne K (.ref C) u = some b ∧ Q (.bl b) H
theorem call_isP {X : Cx} {a : Addr} {oe : Obj} {cls : Value} {d : Option Addr} {pn : List (Addr × Obj)} (hz : Zc cls d oe) (hf : ∃ vs, oe.data = .fields vs) : CallR (X.suite a ((a, oe) :: pn)) (.builtin "isinstance") (rIsP X.K a cls d) := by
  intro pins s σ H xs us Q I r h
  obtain ⟨C, c, u, b, dd, fs, rfl, k, T, ec, ed, ea, e, q⟩ := h
  obtain ⟨u1, u2, rfl, r1, r2⟩ := vals2 r
  have e2 := k.eq r2
  subst e2
  obtain rfl : u1 = Value.ref a := r1
  subst ec
  subst ed
  obtain ⟨ha, _⟩ := I.pin (a, oe) (List.mem_append_left _ List.mem_cons_self)
  obtain ⟨vs, hd⟩ := hf
  have hx : ObjOk X.prog X.w H s.heap dd (.xd fs) := I.hok dd _ ea
  obtain ⟨mA, hns, hr⟩ := hx
  obtain ⟨od, ho, hl⟩ := lookIn_ns hns
  have J : PySem.W.InstAt s.heap a oe C (some od) := ⟨ha, hz.1, by unfold PySem.W.notCls; rw [hd] <;> rfl, by rw [hz.2]; exact ho⟩
  have hc : (PySem.W.clsIn X.K C).isSome = true := by
    obtain ⟨cd, hc, _⟩ := PySem.W.any_some T.hd
    rw [hc]
    rfl
  exact PySem.W.kia_one (PySem.W.kitx_exc (ox := oe) (od := some od) hc T.ga T.gt T.ex T.cl T.cg T.ct T.mo) I.kIn J e (fun z => nomatch z) fun tk => ⟨.bl b, H, I.tok tk, rfl, q⟩
/-- a def keeps two promises -/
theorem fn_or {P : Program} {w : World} {K : PySem.W.Frag} {mg : Str → Option Value} {base : Heap} {k : Nat} {f : Addr} {fd : FuncData} {ps : List Str} {s1 s2 : Sp} (a : FnOk P w K mg base (CX P w) k f fd ps s1) (b : FnOk P w K mg base (CX P w) k f fd ps s2) : FnOk P w K mg base (CX P w) k f fd ps (fun vs H Q E => s1 vs H Q E ∨ s2 vs H Q E) :=
  ⟨fun vs H Q E h => h.elim (a.len vs H Q E) (b.len vs H Q E), fun A outer s H args us vs Q E hr e bi r h => h.elim (a.run A outer s H args us vs Q E hr e bi r) (b.run A outer s H args us vs Q E hr e bi r)⟩
end FcX

set_option maxRecDepth 100000
set_option maxHeartbeats 4000000
namespace Fc
open PySem PySem.Spec PyProof.Rows L2 FcR
open Evl (Ex)
/-! ### k74, k71, k72: outcome -/
def sp_readO (K : PySem.W.Frag) : Sp := fun vs H Q E => sp_read K vs H Q E ∨ sp_readX K vs H Q E
/-- the tag of an error -/
inductive Tag : Str × Str × Int → Str → Prop
  | text (i : Int) : Tag ("InvalidText", "at", i) "text"
  | limit (i : Int) : Tag ("LimitExceeded", "limit", i) "limit"
  | number (i : Int) : Tag ("InvalidCode", "number", i) "number"
/-- what outcome tells -/
def sp_outcome (K : PySem.W.Frag) : Sp := fun vs H Q _ => ∃ v0, vs = [v0] ∧ (
  (∃ (F : Hp) (x : Str) (d : PyData) (N : Nat) (fin : List Row), v0 = .str x ∧ Ex F H ∧ x.length ≤ 900000 ∧ (Txt.split x " ").length ≤ 2000 ∧ Lens (Txt.split x " ") ∧ readAll (Txt.split x " ") = .inr d ∧ GS d ∧ Builds N [⟨d, none, 1, 0, 0⟩] [] fin ∧
    ∀ (A : CAd) (F' H' : Hp) (t : Addr), Gr (fun _ => False) F H F' H' → CodeH K F' F' A fin → H' t = some (.tup [.str "code", .ref A.p]) → Q (.ref t) H') ∨
  (∃ (f : Str × Str × Int) (g : Str), RdBad K H v0 f ∧ Tag f g ∧ ∀ (H' : Hp) (t : Addr), Ex H H' → H' t = some (.tup [.str g, .int f.2.2]) → Q (.ref t) H'))
section
variable {P : Program} {w : World} {h : Heap} {K : PySem.W.Frag} {mg : Str → Option Value} {base : Heap}
theorem ok_readO (T : Tx w h K mg) : Ok P w K mg base 8 ("read", none) ["text"] (sp_readO K) := by
  obtain ⟨fd, G1, b, kp, F⟩ := okF_read (P := P) (base := base) T
  obtain ⟨fd', G2, _, _, F'⟩ := okF_readX (P := P) (base := base) T
  obtain rfl : fd = fd' := by
    obtain ⟨_, _, _, _, _, _, _, _, _, _, _, l1, _⟩ := F.ex
    obtain ⟨_, _, _, _, _, _, _, _, _, _, _, l2, _⟩ := F'.ex
    have z := l1.symm.trans l2
    cases z
    rfl
  exact ⟨fd, FcX.fn_or G1 G2, b, kp⟩
abbrev N_law_outcome : List Str := ["_law_text", "e"]
theorem sc_law_outcome : FnScope N_law_outcome ["_law_text"] (defScope sd_law_outcome) := ⟨rfl, rfl, rfl, by decide +kernel, rfl, by decide +kernel, by decide +kernel⟩
theorem ok_law_outcome (T : Tx w h K mg) : Ok P w K mg base 9 ("_law_outcome", none) ["_law_text"] (sp_outcome K) := by
  obtain ⟨fd, F⟩ := F_law_outcome T
  refine ⟨fd, ?_, F.bindsN (fun _ _ _ _ _ _ us hl => match us, hl with | [_], _ => rfl), F.kp⟩
  obtain ⟨fd_read, G_read, bi_read, kp_read⟩ := ok_readO (P := P) (base := base) T
  refine F.ok sc_law_outcome (fun vs H Q E h => ?_) (fun cdv A outer s H vs Q E hr h => ?_)
  · obtain ⟨v, rfl, alt⟩ := h
    rfl
  · obtain ⟨v, rfl, alt⟩ := h
    refine ⟨_, PSs.nox (pss_one (FcX.ps_try_mix rfl rfl sc_law_outcome.nd takes_none5 (fun W pn xe tk pw => (pss_one (ps_ret (pe_tup (pa_cons pe_str (pa_cons (pe_callS G_read (hr.mono (by decide)) rfl (g_read T) kp_read bi_read (fun σ => passAt tk σ) (pa_cons (pv 0) pa_nil)) pa_nil)))))) (.as (i := 1) rfl rfl ⟨rfl, by decide, .inl (g_CopyError T)⟩ (fun a oe cls d pn hz hf => (pss_cons (ps_if (pt_val (pe_callB (FcX.call_isP hz hf) rfl (fr_isinstance T) b_isinstance (pa_cons (pv 1) (pa_cons (pe_glob (v := .ref (He.ga K "InvalidText")) rfl (g_InvalidText T) rfl) pa_nil)))) (pss_one (ps_ret (pe_tup (pa_cons pe_str (pa_cons (pe_xf (FcX.XC.xf (x_InvalidText T)) (xi_InvalidText T).no hz hf (pv 1)) pa_nil))))) pss_nil) (pss_cons (ps_if (pt_val (pe_callB (FcX.call_isP hz hf) rfl (fr_isinstance T) b_isinstance (pa_cons (pv 1) (pa_cons (pe_glob (v := .ref (He.ga K "LimitExceeded")) rfl (g_LimitExceeded T) rfl) pa_nil)))) (pss_one (ps_ret (pe_tup (pa_cons pe_str (pa_cons (pe_xf (FcX.XC.xf (x_LimitExceeded T)) (xi_LimitExceeded T).no hz hf (pv 1)) pa_nil))))) pss_nil) (pss_one (ps_ret (pe_ifExp (pt_val (pe_callB (FcX.call_isP hz hf) rfl (fr_isinstance T) b_isinstance (pa_cons (pv 1) (pa_cons (pe_glob (v := .ref (He.ga K "InvalidCode")) rfl (g_InvalidCode T) rfl) pa_nil)))) (pe_tup (pa_cons pe_str (pa_cons (pe_xf (FcX.XC.xf (x_InvalidCode T)) (xi_InvalidCode T).no hz hf (pv 1)) pa_nil))) (pe_tup (pa_cons pe_str (pa_cons pe_int pa_nil))))))))) .nil))), ?_⟩
    rcases alt with ⟨F, x, d, N, fin, rfl, xF, hx, hl, hz, er, gs, bd, q⟩ | ⟨f, g, bad, tg, q⟩
    · refine ⟨_, rfl, .inl ⟨F, x, d, N, fin, rfl, xF, hx, hl, hz, er, gs, bd, fun A F1 H1 g1 n1 C1 => ?_⟩⟩
      refine ⟨sz (by simp), ?_⟩
      intro p2 n2
      generalize e2 : upd _ p2 _ = H2
      obtain ⟨x2, s2, o2⟩ := new_of e2 n2
      clear e2
      exact q A F1 H2 p2 (g1.trans (Gr.new g1.fh x2)) C1 s2
    · refine ⟨_, rfl, .inr ⟨v, f, rfl, bad, fun H1 d x1 n1 h1 => ?_⟩⟩
      cases tg with
      | text i =>
        refine ⟨true, FcX.xh_own (xh T) (c := "InvalidText") (d := "CopyError") (by decide) (by decide), fun _ a na => ?_, fun z => by cases z⟩
        refine ⟨_, rfl, He.ga K "InvalidText", _, _, true, d, _, rfl, .own _, x_InvalidText T, rfl, rfl, h1, FcX.xk_own (xk T) (c := "InvalidText") (d := "InvalidText") (by decide) (by decide), _, rfl, itT rfl ?_⟩
        refine ⟨_, rfl, rfl, rfl, d, _, _, rfl, h1, rfl, sz (by simp), ?_⟩
        intro p2 n2
        generalize e2 : upd _ p2 _ = H2
        obtain ⟨x2, s2, o2⟩ := new_of e2 n2
        clear e2
        exact q H2 p2 (x1.trans x2) s2
      | limit i =>
        refine ⟨true, FcX.xh_own (xh T) (c := "LimitExceeded") (d := "CopyError") (by decide) (by decide), fun _ a na => ?_, fun z => by cases z⟩
        refine ⟨_, rfl, He.ga K "LimitExceeded", _, _, false, d, _, rfl, .own _, x_LimitExceeded T, rfl, rfl, h1, FcX.xk_own (xk T) (c := "LimitExceeded") (d := "InvalidText") (by decide) (by decide), _, rfl, itF rfl ?_⟩
        refine ⟨_, rfl, He.ga K "LimitExceeded", _, _, true, d, _, rfl, .own _, x_LimitExceeded T, rfl, rfl, h1, FcX.xk_own (xk T) (c := "LimitExceeded") (d := "LimitExceeded") (by decide) (by decide), _, rfl, itT rfl ?_⟩
        refine ⟨_, rfl, rfl, rfl, d, _, _, rfl, h1, rfl, sz (by simp), ?_⟩
        intro p2 n2
        generalize e2 : upd _ p2 _ = H2
        obtain ⟨x2, s2, o2⟩ := new_of e2 n2
        clear e2
        exact q H2 p2 (x1.trans x2) s2
      | number i =>
        refine ⟨true, FcX.xh_own (xh T) (c := "InvalidCode") (d := "CopyError") (by decide) (by decide), fun _ a na => ?_, fun z => by cases z⟩
        refine ⟨_, rfl, He.ga K "InvalidCode", _, _, false, d, _, rfl, .own _, x_InvalidCode T, rfl, rfl, h1, FcX.xk_own (xk T) (c := "InvalidCode") (d := "InvalidText") (by decide) (by decide), _, rfl, itF rfl ?_⟩
        refine ⟨_, rfl, He.ga K "InvalidCode", _, _, false, d, _, rfl, .own _, x_InvalidCode T, rfl, rfl, h1, FcX.xk_own (xk T) (c := "InvalidCode") (d := "LimitExceeded") (by decide) (by decide), _, rfl, itF rfl ?_⟩
        refine ⟨_, rfl, He.ga K "InvalidCode", _, _, true, d, _, rfl, .own _, x_InvalidCode T, rfl, rfl, h1, FcX.xk_own (xk T) (c := "InvalidCode") (d := "InvalidCode") (by decide) (by decide), _, rfl, itT rfl ?_⟩
        refine ⟨_, rfl, rfl, rfl, d, _, _, rfl, h1, rfl, sz (by simp), ?_⟩
        intro p2 n2
        generalize e2 : upd _ p2 _ = H2
        obtain ⟨x2, s2, o2⟩ := new_of e2 n2
        clear e2
        exact q H2 p2 (x1.trans x2) s2
end

end Fc

set_option maxRecDepth 100000
set_option maxHeartbeats 4000000
namespace FcL
open PySem PySem.Spec PyProof.Rows L2 FcR FcX LamX NdefX
/-! ### a lambda as a value: its words, the cells that it captured, its code object, its defaults -/
structure LF where
  params : Arguments
  body : Expr
  scope : Scope
  qual : Str
  cl : List (Str × Addr)
  c : Addr
  dV : Value
abbrev LF.fd (F : LF) (pm ctv : Value) : FuncData :=
  { name := "<lambda>", qualname := F.qual, params := F.params, body := .expr F.body, scope := F.scope, globals := mainGlobals, closure := F.cl, defaults := F.dV, kwdefaults := .none, doc := .none, pyModule := pm, annotations := none, code := .ref F.c, closureTuple := ctv, builtins := builtinsNs }
abbrev LF.nf (F : LF) : NF := ⟨"<lambda>", F.qual, F.params, [], F.scope, F.cl, F.c⟩
/-- the object at f is the lambda F -/
def LamO (f : Addr) (F : LF) : HO := .ext fun h => ∃ pm ctv : Value, h.get? f = some ({ cls := .type "function", data := .func (F.fd pm ctv) } : Obj)
theorem lamO_ne {f : Addr} {F : LF} (ps : Array Value) : LamO f F ≠ .tbl ps := fun z => by
  unfold LamO at z
  cases z
/-- its defaults -/
def Dfl (H : Hp) (dV : Value) (ds : List V) : Prop := (dV = .none ∧ ds = []) ∨ ∃ T, dV = .ref T ∧ ds ≠ [] ∧ H T = some (.tup ds)
theorem Dfl.ex {H H' : Hp} {dV : Value} {ds : List V} (d : Dfl H dV ds) (e : ∀ b o, H b = some o → (∀ ps, o ≠ .tbl ps) → H' b = some o) : Dfl H' dV ds := by
  rcases d with z | ⟨T, a, b, c⟩
  · exact .inl z
  · exact .inr ⟨T, a, b, e _ _ c fun ps z => by cases z⟩
/-- the lambda stands there -/
structure LamAt (H : Hp) (f : Addr) (F : LF) (ds : List V) : Prop where
  ob : H f = some (LamO f F)
  co : H F.c = some (CodeO F.c F.qual)
  df : Dfl H F.dV ds
theorem LamAt.ex {H H' : Hp} {f : Addr} {F : LF} {ds : List V} (d : LamAt H f F ds) (e : ∀ b o, H b = some o → (∀ ps, o ≠ .tbl ps) → H' b = some o) : LamAt H' f F ds :=
  ⟨e _ _ d.ob lamO_ne, e _ _ d.co codeO_ne, d.df.ex e⟩
/-- what the captured cells hold, in the base -/
abbrev CellsB (base : Heap) (cl : List (Str × Addr)) (fr : List Str) (ws : List (Option V)) : Prop := CellsAt cl fr ws base (fun _ => none)
abbrev LSp := List (Option V) → Hp → VK → XK → Prop
/-- what a call of the lambda promises -/
structure LOk (P : Program) (w : World) (K : PySem.W.Frag) (mg : Str → Option Value) (base : Heap) (k : Nat) (F : LF) (ds : List V) (fr : List Str) (sp : LSp) : Prop where
  run : ∀ (A : Around) (outer : List Env) (s : Shared) (H : Hp) (f : Addr) (ws : List (Option V)) (Q : VK) (E : XK), Room k A → Env0 P w K mg base A outer s H → LamAt H f F ds → CellsB base F.cl fr ws → sp ws H Q E →
    codeAny (model P w) A (.call (.ref f) ⟨[], []⟩) (CR (L2.CX P w) outer P w H s Q E) s
theorem LOk.mono {P : Program} {w : World} {K : PySem.W.Frag} {mg : Str → Option Value} {base : Heap} {j k : Nat} {F : LF} {ds : List V} {fr : List Str} {sp : LSp} (o : LOk P w K mg base j F ds fr sp) (h : j ≤ k) : LOk P w K mg base k F ds fr sp :=
  ⟨fun A outer s H f ws Q E hr => o.run A outer s H f ws Q E (hr.mono h)⟩
theorem cellsAt_of {P : Program} {w : World} {K : PySem.W.Frag} {mg : Str → Option Value} {base : Heap} {A : Around} {outer : List Env} {s : Shared} {H : Hp} {cl : List (Str × Addr)} {fr : List Str} {ws : List (Option V)} (e0 : Env0 P w K mg base A outer s H) (C : CellsB base cl fr ws) : CellsAt cl fr ws s.heap H := by
  have up : ∀ {c : Addr} {v : Option Value}, base.IsCell c v → s.heap.IsCell c v := fun {c v} ⟨o, ho, hd⟩ => ⟨o, (e0.bs _ _ ho).1, hd⟩
  refine ⟨C.len, fun y c e => ?_, C.inj, fun i y e => ?_⟩
  · obtain ⟨_, v, o, ho, hd⟩ := C.all y c e
    exact ⟨(e0.bs _ _ ho).2, v, up ⟨o, ho, hd⟩⟩
  · obtain ⟨c, hc, hv⟩ := C.has i y e
    refine ⟨c, hc, fun v ev => ?_⟩
    obtain ⟨u, r, z⟩ := hv v ev
    exact ⟨u, r, up z⟩
section
variable {P : Program} {w : World} {K : PySem.W.Frag} {mg : Str → Option Value} {base : Heap} {N ps fr : List Str} {F : LF} {k : Nat} {ds : List V} {sp : LSp}
theorem lok_of (S : NScope N ps fr F.scope) (hl : ds.length = ps.length) (hb : ∀ (s : Shared) (pm ctv : Value) (us : List Value), Vals ds us → ((F.dV = .none ∧ us = []) ∨ ∃ T o n, F.dV = .ref T ∧ us ≠ [] ∧ s.heap.get? T = some o ∧ o.data = .seq us.toArray n) → BindsTo s (F.fd pm ctv) ⟨[], []⟩ (ps.zip us))
    (hbody : ∀ (A : Around) (outer : List Env) (s : Shared) (H : Hp) (f : Addr) (ws : List (Option V)) (Q : VK) (E : XK), Room k (A.deeper (envF F.nf f s.heap.objs.size)) → ws.length = fr.length → sp ws H Q E →
      ∃ t, PE (ncx (L2.CX P w) P w K mg base N F.nf f A outer s H E) F.body t ∧ t (startF N ds ws) H Q) : LOk P w K mg base (k + 1) F ds fr sp := by
  refine ⟨fun A outer s H f ws Q E hr e0 la C hsp => ?_⟩
  have lim : s.heap.NoLimit := e0.mod.nolimit.keeps fun b o e => (e0.bs b o e).1
  obtain ⟨⟨pm, ctv, ho⟩, _, _⟩ := e0.hok f _ la.ob
  have Ca := cellsAt_of e0 C
  obtain ⟨us, r, hus⟩ : ∃ us, Vals ds us ∧ ((F.dV = .none ∧ us = []) ∨ ∃ T o n, F.dV = .ref T ∧ us ≠ [] ∧ s.heap.get? T = some o ∧ o.data = .seq us.toArray n) := by
    rcases la.df with ⟨z1, z2⟩ | ⟨T, z1, z2, z3⟩
    · rw [z2]
      exact ⟨[], .nil, .inl ⟨z1, rfl⟩⟩
    · obtain ⟨_, its, rv, ob, e1, _, n, e2⟩ := e0.hok T _ z3
      exact ⟨its, rv, .inr ⟨T, ob, n, z1, fun z => z2 (List.length_eq_zero_iff.mp (by rw [rv.length, z] <;> rfl)), e1, e2⟩⟩
  refine PySem.W.kla_callFunE hr.depth ho rfl S.co S.gen rfl (codeO_at e0.hok la.co) (hb s pm ctv us r hus _ _ _ _ ?_)
  refine wpAny_newFunctionEnv S.nocell (fun ⟨n, _⟩ hy => S.par n (List.of_mem_zip hy).1) (fun h₁ hns hsb => ⟨lim.fresh _ hsb, ?_⟩) S.kind
  show codeAny _ _ (.expr F.body (envF F.nf f s.heap.objs.size)) _ _
  have kp : ∀ b o, s.heap.get? b = some o → h₁.get? b = some o := fun b o e => hsb.extBut b o (Nat.ne_of_lt (Heap.lt_size e)) (Heap.get?_push_of_some _ e)
  obtain ⟨t, ht, hq⟩ := hbody A outer s H f ws Q E (hr.deeper _) C.len hsp
  have J := inv_startN (CX := L2.CX P w) (f := f) (E := E) (F := F.nf) (tk := s.toks + (ps.zip us).length) S hr.hd e0 hl r Ca hns kp
  refine PySem.W.kla_codeExpr (wpAny_mono (ht.run [] _ _ H Q J hq) (fun v s' hv => ?_) fun e s' he => he)
  obtain ⟨w', H', J', rv, q⟩ := hv
  exact ⟨w', H', J'.os, J'.bare, J'.base, J'.hok, rv, q⟩
end
/-! ### x(), x a name that holds a lambda -/
def tCallLam (base : Heap) (i : Nat) (S : LF → List V → List Str → LSp → Prop) (W : WX) : TE := fun σ H Q => ∃ f F ds fr sp ws, σ[i]? = some (some (.ref f)) ∧ S F ds fr sp ∧ LamAt H f F ds ∧ CellsB base F.cl fr ws ∧ sp ws H Q (WE W σ)
theorem pe_callLam {X : Cx} {k i : Nat} {x : Str} {p pos : Pos} {W : WX} {S : LF → List V → List Str → LSp → Prop} (A : ∀ F ds fr sp, S F ds fr sp → LOk X.prog X.w X.K X.mg X.base k F ds fr sp) (hr : Room k X.A) (hN : X.N[i]? = some x) (hv : Vis X.env.scope x) (tk : Takes X W)
    (hdb : (x == ("__debug__" : Str)) = false := by decide) (hcd : (x == ("__classdict__" : Str)) = false := by decide) : PE X (.Call (.Name x p) [] [] pos) (tCallLam X.base i S W) := by
  refine ⟨fun pins s σ H Q I h => ?_⟩
  obtain ⟨f, F, ds, fr, sp, ws, hs, hS, la, C, hq⟩ := h
  refine wpAny_Call_Name_kw (thn ((pe_var (pos := p) hN hv hdb hcd).run pins s σ H (fun v H1 => v = .ref f ∧ H1 = H) I ⟨.ref f, hs, rfl, rfl⟩) fun u s1 ⟨v, H1, I1, r1, q1⟩ => ?_)
  obtain ⟨rfl, rfl⟩ := q1
  obtain rfl : u = Value.ref f := r1
  obtain ⟨⟨pm, ctv, ho⟩, _, _⟩ := I1.hok f _ la.ob
  refine PySem.W.callWith_F0 (first := []) ⟨_, _, _, _, ho⟩ ?_
  refine wpAny_call (codeAny_mono ((A F ds fr sp hS).run X.A X.stack s1 _ f ws Q (WE W σ) hr I1.env0 la C hq) fun r s2 h2 => ?_)
  cases r with
  | error e => exact passAt tk σ pins _ _ e s2 I1 h2
  | ok fl =>
    cases fl with
    | ret u => exact I1.after h2
    | next => exact False.elim h2
    | brk => exact False.elim h2
    | cont => exact False.elim h2
/-! ### a base that has the running frame's cells -/
/-- the cells of the frame stand apart from the base and the frames -/
def Far (X : Cx) : Prop := ∀ y c, X.env.cells.lookup y = some c → X.base.get? c = none ∧ c ∉ frs X.stack
theorem far_of {X : Cx} {pins : List (Addr × Obj)} {σ : L2.St} {H : Hp} {s : Shared} (I : Inv X pins σ H s) (hf : ∀ y, X.fn y = true) : Far X := fun y c e => by
  have ab := I.ok.cab y c (hf y) e
  refine ⟨?_, fun z => ?_⟩
  · cases q : X.base.get? c with
    | none => rfl
    | some o => exact absurd (Heap.lt_size q) (Nat.not_lt.mpr (Nat.le_trans I.ok.bsz ab))
  · have out : c ∉ X.fs := fun z => by
      obtain ⟨_, o, ho, _⟩ := I.ok.funs.mem z
      exact absurd (Heap.lt_size ho) (Nat.not_lt.mpr ab)
    rcases I.ok.stk with q | ⟨q1, q2⟩
    · rw [q] at z
      exact out z
    · rw [q1] at z
      obtain ⟨ev, he, hq⟩ := List.mem_filterMap.mp z
      rcases List.mem_cons.mp he with e1 | e1
      · rw [e1, q2] at hq
        exact I.cne y c e (Option.some.inj hq).symm
      · exact out (List.mem_filterMap.mpr ⟨ev, e1, hq⟩)
/-- the base grown by the cells of the frame env, which hold what σ says -/
structure Grown (X : Cx) (env : Env) (N : List Str) (σ : L2.St) (base' : Heap) : Prop where
  up : ∀ b o, X.base.get? b = some o → base'.get? b = some o
  kin : X.K.In base'
  cells : ∀ (Y : Cx) (cl : List (Str × Addr)) (fr : List Str) (js : List Nat), Y.env = env → Y.N = N → Caps Y cl fr js → CellsB base' cl fr (js.map (slotAt σ))
theorem Grown.env0 {X Y : Cx} {pins pinsY : List (Addr × Obj)} {σ σY : L2.St} {H HY : Hp} {s sY : Shared} (I : Inv X pins σ H s) (IY : Inv Y pinsY σY HY sY) (far : ∀ y c, Y.env.cells.lookup y = some c → X.base.get? c = none ∧ c ∉ frs X.stack)
    (kp : ∀ y c o, Y.env.cells.lookup y = some c → sY.heap.get? c = some o → s.heap.get? c = some o ∧ H c = none) :
    ∃ base', Grown X Y.env Y.N σY base' ∧ Env0 X.prog X.w X.K X.mg base' X.A X.stack s H := by
  classical
  let Hh : Hp := fun b => if (∃ o, X.base.get? b = some o) ∨ (∃ y, Y.env.cells.lookup y = some b) then none else some (.own 0)
  have e0 := I.env0
  have hb : ∀ b o, X.base.get? b = some o → (hidT s.heap Hh).get? b = some o := fun b o e => hidT_get (e0.bs b o e).1 (if_pos (.inl ⟨o, e⟩))
  have hc : ∀ y c o, Y.env.cells.lookup y = some c → sY.heap.get? c = some o → (hidT s.heap Hh).get? c = some o := fun y c o e ho => hidT_get (kp y c o e ho).1 (if_pos (.inr ⟨y, e⟩))
  have bk : ∀ b o, (hidT s.heap Hh).get? b = some o → s.heap.get? b = some o ∧ H b = none ∧ ((∃ o, X.base.get? b = some o) ∨ (∃ y, Y.env.cells.lookup y = some b)) := fun b o e => by
    obtain ⟨h1, h2⟩ := of_hidT e
    by_cases q : (∃ o, X.base.get? b = some o) ∨ (∃ y, Y.env.cells.lookup y = some b)
    · refine ⟨h1, ?_, q⟩
      rcases q with ⟨o', z⟩ | ⟨y, z⟩
      · exact (e0.bs b o' z).2
      · obtain ⟨v, oc, hoc, _⟩ := IY.cell y b z
        exact (kp y b oc z hoc).2
    · have z : Hh b = some (.own 0) := if_neg q
      rw [z] at h2
      cases h2
  have up : ∀ {c : Addr} {v : Option Value} {y : Str}, Y.env.cells.lookup y = some c → sY.heap.IsCell c v → (hidT s.heap Hh).IsCell c v := fun {c v y} e ⟨o, ho, hd⟩ => ⟨o, hc y c o e ho, hd⟩
  have mod : Mod X.K X.mg (hidT s.heap Hh) := by
    obtain ⟨m1, m2, ⟨mb, m3, m4⟩, m5⟩ := e0.mod
    exact ⟨m1.keeps hb, m2.keeps hb, ⟨mb, m3.keeps hb, m4⟩, m5.keeps hb⟩
  refine ⟨hidT s.heap Hh, ⟨hb, mod.kin, fun Z cl fr js eZ eN cp => ?_⟩, e0.frames, mod, fun b o e => ⟨(bk b o e).1, (bk b o e).2.1⟩, Nat.le_of_eq (hidT_size _ _), ?_, e0.frf, e0.hok, e0.bare⟩
  · have cpY : Caps Y cl fr js := by
      obtain ⟨c1, c2, c3, c4⟩ := cp
      rw [eZ] at c1 c2 c3
      rw [eN] at c4
      exact ⟨c1, c2, c3, c4⟩
    have C := cells_of IY cpY
    refine ⟨C.len, fun y c e => ⟨rfl, ?_⟩, C.inj, fun i y e => ?_⟩
    · obtain ⟨_, v, z⟩ := C.all y c e
      exact ⟨v, up (cpY.sub y c e) z⟩
    · obtain ⟨c, h1, h2⟩ := C.has i y e
      refine ⟨c, h1, fun v ev => ?_⟩
      obtain ⟨u, r, z⟩ := h2 v ev
      exact ⟨u, r, up (cpY.sub y c h1) z⟩
  · have all : ∀ l : List Env, (∀ b ∈ frs l, b ∈ frs X.stack) → s.heap.FunFrames X.base l → s.heap.FunFrames (hidT s.heap Hh) l := by
      intro l
      induction l with
      | nil => intro _ _; trivial
      | cons env r ih =>
        intro hs hl
        obtain ⟨hk, ⟨L, o, hf, hn, ho, hd⟩, hr⟩ := hl
        have hL : L ∈ frs X.stack := hs L (List.mem_filterMap.mpr ⟨env, List.mem_cons_self, hf⟩)
        refine ⟨hk, ⟨L, o, hf, ?_, ho, hd⟩, ih (fun b hb => hs b ?_) hr⟩
        · cases q : (hidT s.heap Hh).get? L with
          | none => rfl
          | some o' =>
            rcases (bk L o' q).2.2 with ⟨_, z⟩ | ⟨y, z⟩
            · rw [hn] at z
              cases z
            · exact absurd hL (far y L z).2
        · obtain ⟨ev, he, hq⟩ := List.mem_filterMap.mp hb
          exact List.mem_filterMap.mpr ⟨ev, List.mem_cons_of_mem _ he, hq⟩
    exact all _ (fun _ hb => hb) e0.funs
/-! ### g(.., lambda, ..) in the def that made the lambda -/
def tCallG (X : Cx) (env : Env) (N : List Str) (σM : L2.St) (sp : Heap → Sp) (t : TA) : TE := fun σ H Q => t σ H fun vs H1 => ∀ base', Grown X env N σM base' → sp base' vs H1 Q (fun _ _ _ => False)
theorem run_g {X Y : Cx} {pins pinsY : List (Addr × Obj)} {σ σY : L2.St} {H HY : Hp} {s sY : Shared} {k : Nat} {f : Addr} {fd : FuncData} {ps : List Str} {sp : Heap → Sp} {Q : VK} {us : List Value} {vs : List V}
    (F : ∀ base', (∀ b o, X.base.get? b = some o → base'.get? b = some o) → FnG X.prog X.w X.K X.mg base' k f fd ps (sp base')) (hgd : X.A.guards = some []) (hr : Room k X.A) (hb : Binds X.K fd ps [])
    (I : Inv X pins σ H s) (IY : Inv Y pinsY σY HY sY) (far : ∀ y c, Y.env.cells.lookup y = some c → X.base.get? c = none ∧ c ∉ frs X.stack)
    (kp : ∀ y c o, Y.env.cells.lookup y = some c → sY.heap.get? c = some o → s.heap.get? c = some o ∧ H c = none) (r : Vals vs us) (h : ∀ base', Grown X Y.env Y.N σY base' → sp base' vs H Q (fun _ _ _ => False)) :
    wpAny (model X.prog X.w) X.A (call (.ref f) us) (EP X pins σ Q) X.xe s := by
  obtain ⟨base', gr, e0⟩ := Grown.env0 I IY far kp
  exact run_fnG (F base' gr.up) hgd hr hb e0 I r (h base' gr)
def tCallGs (X : Cx) (sp : Heap → Sp) (t : TA) : TE := fun σ => tCallG X X.env X.N σ sp t σ
theorem pe_callG {X : Cx} {k : Nat} {f : Addr} {fd : FuncData} {ps : List Str} {sp : Heap → Sp} {x : Str} {p pos : Pos} {e : Expr} {es : List Expr} {t : TA}
    (F : ∀ base', (∀ b o, X.base.get? b = some o → base'.get? b = some o) → FnG X.prog X.w X.K X.mg base' k f fd ps (sp base')) (hgd : X.A.guards = some []) (hr : Room k X.A) (hg : Gl X x) (hm : X.mg x = some (.ref f)) (hk : PySem.W.keepIn X.K (.ref f) = true) (hb : Binds X.K fd ps [])
    (hfn : ∀ y, X.fn y = true) (ha : PA X (e :: es) t) (hdb : (x == ("__debug__" : Str)) = false := by decide)
    (he : starEach (e :: es) X.env = (false, eval e X.env) :: starEach es X.env := by rfl) (hpl : (backTo pos (starEach es X.env)).any (·.1) = false := by rfl) : PE X (.Call (.Name x p) (e :: es) [] pos) (tCallGs X sp t) := by
  refine ⟨fun pins s σ H Q I h => ?_⟩
  refine wpAny_Call_Name_kw (ld_glob I hg hm ?_ hdb)
  refine PySem.W.callWith_K (h₀ := X.base) I.ok.mod.kin hk (thn (ha.run pos pins s σ H _ I h) fun us s1 ⟨vs, H1, I1, r, q⟩ => ⟨I1.kIn, ?_⟩) he hpl
  exact run_g F hgd hr hb I1 I1 (far_of I1 hfn) (fun y c o e ho => ⟨ho, I1.freeC y c e⟩) r q
end FcL

set_option maxRecDepth 100000
set_option maxHeartbeats 4000000
namespace FcL
open PySem PySem.Spec PyProof.Rows L2 FcR FcX LamX NdefX
/-! ### making a lambda, with or without defaults -/
section
variable {M : Model} {A : Around} {E : Value → Shared → Prop} {s : Shared} {F : LF} {env : Env} {c P : Addr} {ps : Array Value} {pos : Pos} {line : Nat} {mg : Str → Option Value} {Q : Value → Shared → Prop}
/-- what is left once the defaults are there -/
theorem tail_made (hcl : closureFor F.scope env = pure F.cl) (hgl : env.globals = mainGlobals) (hg : s.heap.Ns mainGlobals mg) (hco : env.code = .ref c) (C : PySem.W.CodeHd s.heap c P) (hP : s.heap.get? P = some { cls := .none, data := .fields ps }) (ht : TriplesOk ps.toList) (gP : mainGlobals ≠ P) (hb : s.heap.BuiltinsAt mg P)
    (new : codeAmong pos ps.toList = none → ∀ (c' : Addr) (ctv : Value) (h' : Heap) (tk : Tok), Heap.ExtBut P s.heap h' → s.heap.objs.size ≤ c' → c' < h'.objs.size → h'.CodeRec (.ref c') F.qual → h'.get? P = some { cls := .none, data := .fields (ps ++ #[rawInt pos.line, rawInt pos.col, .ref c']) } →
      Q (.ref h'.objs.size) { s with heap := h'.push { cls := .type "function", data := .func ({ F with c := c' }.fd ((mg "__name__").getD .none) ctv) }, toks := tk })
    (hit : ∀ c', codeAmong pos ps.toList = some (.ref c') → ∀ (ctv : Value) (h' : Heap) (tk : Tok), (∀ b o, s.heap.get? b = some o → h'.get? b = some o) → s.heap.objs.size ≤ h'.objs.size →
      Q (.ref h'.objs.size) { s with heap := h'.push { cls := .type "function", data := .func ({ F with c := c' }.fd ((mg "__name__").getD .none) ctv) }, toks := tk })
    (hcv : ∀ cv, codeAmong pos ps.toList = some cv → ∃ c', cv = .ref c') :
    wpAny M A (makeTail "<lambda>" F.qual F.params (.expr F.body) F.scope env F.dV .none none pos line) Q E s := by
  obtain ⟨bm, ob, b1, b2, _, b3, b4, b5, b6, b7⟩ := hb
  have up1 : ∀ (oT : Obj) b o, s.heap.get? b = some o → (s.heap.push oT).get? b = some o := fun oT b o e => Heap.get?_push_of_some _ e
  unfold makeTail
  rw [hcl, hgl]
  refine wpAny_bind (wpAny_pure ?_)
  cases hc : codeAmong pos ps.toList with
  | none =>
    cases hF : F.cl with
    | nil =>
      simp only [List.isEmpty_nil, if_true]
      refine wpAny_bind (wpAny_pure (wpAny_bind (wpAny_functionCodeX hco (C.code hP ht) (C.tab hP) hc fun c' h' tk hx k1 k2 _ k3 k4 _ => ?_)))
      have hg' := hg.extBut hx gP
      refine wpAny_bind (wpAny_builtinsFor hg' b1 b2 (hx _ _ b3 b4) b5 b6 b7 (wpAny_bind (wpAny_nsGet hg' (wpAny_bind (wpAny_pure (wpAny_newObj_type ?_ (by size_fits)))))))
      have z := new hc c' .none h' tk hx k1 k2 k3 k4.2
      unfold LF.fd at z
      rw [hF] at z
      exact z
    | cons q r =>
      simp only [List.isEmpty_cons, Bool.false_eq_true, if_false]
      refine wpAny_bind (wpAny_newTextTuple (wpAny_bind (wpAny_functionCodeX hco ((C.keeps (up1 _)).code (up1 _ _ _ hP) ht) ((C.keeps (up1 _)).tab (up1 _ _ _ hP)) hc fun c' h' tk hx k1 k2 _ k3 k4 _ => ?_)))
      have hg' := (hg.push _).extBut hx gP
      have hx' : Heap.ExtBut P s.heap h' := fun b o hb e => hx b o hb (up1 _ _ _ e)
      refine wpAny_bind (wpAny_builtinsFor hg' b1 b2 (hx' _ _ b3 b4) b5 b6 b7 (wpAny_bind (wpAny_nsGet hg' (wpAny_bind (wpAny_pure (wpAny_newObj_type ?_ (by size_fits)))))))
      have z := new hc c' (.ref s.heap.objs.size) h' tk hx' (Nat.le_trans (by rw [Heap.size_push]; omega) k1) k2 k3 k4.2
      unfold LF.fd at z
      rw [hF] at z
      exact z
  | some cv =>
    obtain ⟨c', rfl⟩ := hcv cv hc
    cases hF : F.cl with
    | nil =>
      simp only [List.isEmpty_nil, if_true]
      refine wpAny_bind (wpAny_pure (wpAny_bind (wpAny_functionCode_hit hco (C.code hP ht) hc ?_)))
      refine wpAny_bind (wpAny_builtinsFor hg b1 b2 b4 b5 b6 b7 (wpAny_bind (wpAny_nsGet hg (wpAny_bind (wpAny_pure (wpAny_newObj_type ?_ (by size_fits)))))))
      have z := hit c' hc .none s.heap s.toks (fun _ _ e => e) (Nat.le_refl _)
      unfold LF.fd at z
      rw [hF] at z
      exact z
    | cons q r =>
      simp only [List.isEmpty_cons, Bool.false_eq_true, if_false]
      refine wpAny_bind (wpAny_newTextTuple (wpAny_bind (wpAny_functionCode_hit hco ((C.keeps (up1 _)).code (up1 _ _ _ hP) ht) hc ?_)))
      refine wpAny_bind (wpAny_builtinsFor (hg.push _) b1 b2 (up1 _ _ _ b4) b5 b6 b7 (wpAny_bind (wpAny_nsGet (hg.push _) (wpAny_bind (wpAny_pure (wpAny_newObj_type ?_ (by size_fits)))))))
      have z := fun oT : Obj => hit c' hc (.ref s.heap.objs.size) (s.heap.push oT) s.toks (up1 oT) (by rw [Heap.size_push]; omega)
      unfold LF.fd at z
      rw [hF] at z
      exact z _
end
/-- all but the tables of T stays -/
def ExtT (T : List (Addr × Str)) (H H' : Hp) : Prop := ∀ b o, H b = some o → (∀ p ∈ T, p.1 ≠ b) → H' b = some o
theorem ExtT.n {T : List (Addr × Str)} {H H' : Hp} (e : ExtT T H H') (t : Tabs T H) : ExtN H H' := fun b o h n => e b o h fun p hp z => by
  obtain ⟨ps, h1, _⟩ := t p hp
  rw [z, h] at h1
  exact n ps (Option.some.inj h1)
section
variable {X : Cx} {pins : List (Addr × Obj)} {σ : L2.St} {H : Hp} {s : Shared}
theorem inv_lam {F : LF} {t' : Nat} {pm ctv : Value} (I : Inv X pins σ H s) :
    Inv X pins σ (upd H s.heap.objs.size (LamO s.heap.objs.size F)) { s with heap := s.heap.push { cls := .type "function", data := .func (F.fd pm ctv) }, toks := t' } := by
  refine I.laid (a := s.heap.objs.size) (fun b u e => Heap.get?_push_of_some _ e) (Nat.le_refl _) ?_
  have e : (s.heap.push ({ cls := .type "function", data := .func (F.fd pm ctv) } : Obj)).get? s.heap.objs.size = some ({ cls := .type "function", data := .func (F.fd pm ctv) } : Obj) := Heap.get?_push_size _ rfl
  exact ⟨⟨pm, ctv, e⟩, ⟨_, e⟩, fun h1 h2 ⟨p, t, z⟩ st => ⟨p, t, st _ z⟩⟩
/-- the lambda's object, its code object (new, or found in the table) -/
theorem lam_made {T : List (Addr × Str)} {c P : Addr} {F : LF} {pos : Pos} {E : Value → Shared → Prop} {Q : Value → Shared → Prop} {ds : List V} (I : Inv X pins σ H s) (TB : TabB X.base X.mg c P) (hco : X.env.code = .ref c)
    (hm : (P, F.qual) ∈ T) (hu : ∀ p ∈ T, p.1 = P → p.2 = F.qual) (hT : Tabs T H) (hcl : closureFor F.scope X.env = pure F.cl) (hd : Dfl H F.dV ds)
    (h : ∀ (f c' : Addr) (H1 : Hp) (s' : Shared), Inv X pins σ H1 s' → ExtT T H H1 → (∀ b, H1 b = none → H b = none) → Tabs T H1 → H f = none → LamAt H1 f { F with c := c' } ds → Q (.ref f) s') :
    wpAny (model X.prog X.w) X.A (makeTail "<lambda>" F.qual F.params (.expr F.body) F.scope X.env F.dV .none none pos pos.line) Q E s := by
  obtain ⟨ps, hP, ht, ha⟩ := hT _ hm
  have bP : s.heap.BuiltinsAt X.mg P := TB.bm.keeps I.bk
  have hP' : s.heap.get? P = some { cls := .none, data := .fields ps } := I.hok P _ hP
  refine tail_made (mg := X.mg) (c := c) (P := P) hcl I.ok.glob (I.mod.glob.keeps I.bk) hco (TB.code.keeps I.bk) hP' ht TB.gP bP (fun hc c' ctv h' tk hx hge hlt hrec htb => ?_) (fun c' hc ctv h' tk hx hsz => ?_) fun cv hc => ?_
  · obtain ⟨c2, oc, vs, t, e2, hoc, hdd, hv⟩ := hrec
    cases e2
    have nC : H c' = none := I.hok.fresh hge
    have I1 := inv_table (t' := tk) (more := #[rawInt pos.line, rawInt pos.col, .ref c']) (h' := h') I hP (fun b o hb e => hx b o hb e) htb hge ⟨oc, vs, t, hoc, hdd, hv⟩
    have hE : ExtN H (upd (upd H P (.tbl (ps ++ #[rawInt pos.line, rawInt pos.col, .ref c']))) c' (CodeO c' F.qual)) := fun b o e n => by
      rw [upd_ne (ne_of_none e nC), upd_ne (fun z => n ps (Option.some.inj (e.symm.trans (by rw [z]; exact hP))))]
      exact e
    have eL : (ps ++ #[rawInt pos.line, rawInt pos.col, .ref c']).toList = ps.toList ++ [rawInt pos.line, rawInt pos.col, .ref c'] := by simp
    have T1 : Tabs T (upd (upd H P (.tbl (ps ++ #[rawInt pos.line, rawInt pos.col, .ref c']))) c' (CodeO c' F.qual)) := fun p hp => by
      by_cases hb : p.1 = P
      · rw [hu p hp hb, hb]
        refine ⟨_, by rw [upd_ne (ne_of_none hP nC), upd_same], by rw [eL]; exact PySem.TriplesOk_snoc _ _ _ _ ht, fun p' cv hcv => ?_⟩
        rw [eL] at hcv
        rcases among_app _ ht hcv with z | z
        · obtain ⟨c0, e1, e2⟩ := ha p' cv z
          exact ⟨c0, e1, hE _ _ e2 codeO_ne⟩
        · exact ⟨c', z, upd_same⟩
      · obtain ⟨ps', a1, a2, a3⟩ := hT p hp
        refine ⟨ps', by rw [upd_ne (ne_of_none a1 nC), upd_ne hb]; exact a1, a2, fun p' cv hcv => ?_⟩
        obtain ⟨c0, e1, e2⟩ := a3 p' cv hcv
        exact ⟨c0, e1, hE _ _ e2 codeO_ne⟩
    have nF := I1.hok.fresh (Nat.le_refl _)
    have I2 := inv_lam (F := { F with c := c' }) (t' := tk) (pm := (X.mg "__name__").getD .none) (ctv := ctv) I1
    have hT2 : ExtT T H (upd (upd (upd H P (.tbl (ps ++ #[rawInt pos.line, rawInt pos.col, .ref c']))) c' (CodeO c' F.qual)) h'.objs.size (LamO h'.objs.size { F with c := c' })) := fun b o e n => by
      have z : upd (upd H P (.tbl (ps ++ #[rawInt pos.line, rawInt pos.col, .ref c']))) c' (CodeO c' F.qual) b = some o := by rw [upd_ne (ne_of_none e nC), upd_ne (fun z => n _ hm z.symm)]; exact e
      exact (upd_ne (ne_of_none z nF)).trans z
    have hE2 : ExtN H (upd (upd (upd H P (.tbl (ps ++ #[rawInt pos.line, rawInt pos.col, .ref c']))) c' (CodeO c' F.qual)) h'.objs.size (LamO h'.objs.size { F with c := c' })) := fun b o e n => (upd_ne (ne_of_none (hE b o e n) nF)).trans (hE b o e n)
    refine h h'.objs.size c' _ _ I2 hT2 (fun b e => upd_none (upd_none (upd_none e))) (T1.ext fun b o e => (upd_ne (ne_of_none e nF)).trans e) (I.hok.fresh (Nat.le_trans hge (Nat.le_of_lt hlt))) ⟨upd_same, ?_, hd.ex hE2⟩
    exact (upd_ne (Nat.ne_of_lt hlt)).trans upd_same
  · obtain ⟨c2, e2, hco2⟩ := ha pos _ hc
    cases e2
    have I1 : Inv X pins σ H { s with heap := h', toks := tk } := I.kept hx
    have nF : H h'.objs.size = none := I1.hok.fresh (Nat.le_refl _)
    have I2 := inv_lam (F := { F with c := c' }) (t' := tk) (pm := (X.mg "__name__").getD .none) (ctv := ctv) I1
    have up : ∀ b o, H b = some o → upd H h'.objs.size (LamO h'.objs.size { F with c := c' }) b = some o := fun b o e => (upd_ne (ne_of_none e nF)).trans e
    exact h h'.objs.size c' _ _ I2 (fun b o e _ => up b o e) (fun b e => upd_none e) (hT.ext up) nF ⟨upd_same, up _ _ hco2, hd.ex fun b o e _ => up b o e⟩
  · obtain ⟨c2, e2, _⟩ := ha pos cv hc
    exact ⟨c2, e2⟩
end
/-- the reading of «lambda: ..» -/
def tLamV (X : Cx) (T : List (Addr × Str)) (ds : List V) (fr : List Str) (js : List Nat) (mk : List (Str × Addr) → Addr → Value → LF) : TE := fun _ H Q => Tabs T H ∧ ∀ (f : Addr) (cl : List (Str × Addr)) (c' : Addr) (dV : Value) (H1 : Hp),
  ExtT T H H1 → (∀ b, H1 b = none → H b = none) → Tabs T H1 → H f = none → LamAt H1 f (mk cl c' dV) ds → Caps X cl fr js → Q (.ref f) H1
section
variable {X : Cx} {T : List (Addr × Str)} {c P : Addr} {params : Arguments} {body : Expr} {scope : Scope} {pos : Pos} {fr : List Str} {js : List Nat}
theorem pe_lam (TB : TabB X.base X.mg c P) (hco : X.env.code = .ref c) (hm : (P, X.env.qual ++ "<lambda>") ∈ T) (hu : ∀ p ∈ T, p.1 = P → p.2 = X.env.qual ++ "<lambda>") (hn : ndefB X.env.scope scope fr = true) (hjs : js.map (fun j => X.N[j]?) = fr.map some)
    (hdef : defaultsOf params X.env = ([], [])) : PE X (.Lambda params body scope pos) (tLamV X T [] fr js fun cl c' dV => ⟨params, body, scope, X.env.qual ++ "<lambda>", cl, c', dV⟩) := by
  refine ⟨fun pins s σ H Q I h => ?_⟩
  obtain ⟨hT, h⟩ := h
  have hfr : ∀ y ∈ scope.names, y.2 = .free → ∃ c, X.env.cells.lookup y.1 = some c := fun y hy e => (ndef_free hn y hy e).elim (fun z => I.ok.has _ (.inl z)) fun z => I.ok.has _ (.inr z)
  refine PySem.W.kla_eval hdef ?_
  rw [makeFunction_eq]
  simp only [List.zip_nil_right, List.filterMap_nil, List.isEmpty_nil, if_true, pure_bind]
  refine lam_made (F := ⟨params, body, scope, X.env.qual ++ "<lambda>", cloFrom X.env.cells scope.names [], 0, .none⟩) I TB hco hm hu hT (closure_ok hfr) (.inl ⟨rfl, rfl⟩) fun f c' H1 s' I1 eN nn T1 f0 la => ?_
  exact ⟨.ref f, H1, I1, rfl, h f _ c' .none H1 eN nn T1 f0 la (Caps.made I.ok (ndef_free hn) (ndef_fr hn) hjs)⟩
/-- lambda x=n: .., n an int that is written there -/
theorem pe_lamD {n : Int} {p : Pos} {j : Nat} (TB : TabB X.base X.mg c P) (hco : X.env.code = .ref c) (hm : (P, X.env.qual ++ "<lambda>") ∈ T) (hu : ∀ p ∈ T, p.1 = P → p.2 = X.env.qual ++ "<lambda>") (hn : ndefB X.env.scope scope fr = true) (hjs : js.map (fun j => X.N[j]?) = fr.map some)
    (hdef : defaultsOf params X.env = ([eval (.Constant (.int n) j p) X.env], [])) : PE X (.Lambda params body scope pos) (tLamV X T [.int n] fr js fun cl c' dV => ⟨params, body, scope, X.env.qual ++ "<lambda>", cl, c', dV⟩) := by
  refine ⟨fun pins s σ H Q I h => ?_⟩
  obtain ⟨hT, h⟩ := h
  have hfr : ∀ y ∈ scope.names, y.2 = .free → ∃ c, X.env.cells.lookup y.1 = some c := fun y hy e => (ndef_free hn y hy e).elim (fun z => I.ok.has _ (.inl z)) fun z => I.ok.has _ (.inr z)
  rw [arm_eval_Lambda, hdef]
  show wpAny _ _ (do let dv ← evalAll [eval (.Constant (.int n) j p) X.env]; let kdv ← holding dv (evalAllOpt []); makeFunction "<lambda>" (X.env.qual ++ "<lambda>") params (.expr body) scope X.env dv kdv [] pos pos.line) _ _ s
  refine wpAny_bind (wpAny_bind ((pe_int (X := X)).run pins s σ H (fun v H' => v = .int n ∧ H' = H) I ⟨rfl, rfl⟩ |> fun z => thn z fun u s1 ⟨v, H1, I1, r1, q1⟩ => ?_))
  obtain ⟨rfl, rfl⟩ := q1
  refine wpAny_bind (wpAny_holding (wpAny_pure (wpAny_pure (wpAny_bind (wpAny_holding (wpAny_pure ?_))))))
  rw [makeFunction_eq]
  simp only [List.zip_nil_right, List.filterMap_nil, List.isEmpty_nil, List.isEmpty_cons, Bool.false_eq_true, if_true, if_false, pure_bind]
  refine wpAny_bind (wpAny_newTextTuple ?_)
  have I2 : Inv X pins σ (upd H1 s1.heap.objs.size (.tup [.int n])) { s1 with heap := s1.heap.push { cls := .type "tuple", data := .seq [u].toArray } } := by
    refine I1.laid (t' := s1.toks) (a := s1.heap.objs.size) (fun b o e => Heap.get?_push_of_some _ e) (Nat.le_refl _) ⟨by show 1 ≤ sizeLine; decide, [u], .cons r1 .nil, _, Heap.get?_push_size _ rfl, rfl, _, rfl⟩
  have nT := I1.hok.fresh (Nat.le_refl s1.heap.objs.size)
  have up : ∀ b o, H1 b = some o → upd H1 s1.heap.objs.size (.tup [.int n]) b = some o := fun b o e => (upd_ne (ne_of_none e nT)).trans e
  refine lam_made (F := ⟨params, body, scope, X.env.qual ++ "<lambda>", cloFrom X.env.cells scope.names [], 0, .ref s1.heap.objs.size⟩) I2 TB hco hm hu (hT.ext up) (closure_ok hfr) (.inr ⟨_, rfl, by simp, upd_same⟩) fun f c' H2 s' I3 eN nn T1 f0 la => ?_
  exact ⟨.ref f, H2, I3, rfl, h f _ c' _ H2 (fun b o e n => eN b o (up b o e) n) (fun b e => upd_none (nn b e)) T1 (upd_none f0) la (Caps.made I.ok (ndef_free hn) (ndef_fr hn) hjs)⟩
end
end FcL

set_option maxRecDepth 100000
set_option maxHeartbeats 4000000
namespace FcL
open PySem PySem.Spec PyProof.Rows L2 FcR FcX LamX NdefX
/-! ### [g(x, ..) for x in xs] in the def that made the lambdas -/
/-- the reading of a comprehension whose element leans on the def's own names -/
def tLcG (wi : TI) (g : TG) (te : L2.St → TE) (vs : List Nat) : TE := fun σ => tLc wi g tYes (te σ) vs σ
section
variable {X : Cx}
theorem pe_lcG {elt tg iter : Expr} {scope : Scope} {own : List (Str × Nat)} {pos : Pos} {wi : TI} {g : TG} {te : L2.St → TE} (hc : X.calm = true) (hN : X.N.Nodup) (hi : PI X tg iter wi) (ok : BlkOk X.N X.env.scope scope own)
    (hg : ∀ (s : Shared) (H : Hp) (C : Addr) (cl : List (Str × Addr)) (fp : List Addr), PG (X.blk s H scope (compEnvC scope cl C X.env) fp) tg g)
    (he : ∀ (pins : List (Addr × Obj)) (σ : L2.St) (s : Shared) (H : Hp) (C : Addr) (cl : List (Str × Addr)) (fp : List Addr), Inv X pins σ H s → (∀ y c, X.env.cells.lookup y = some c → c ∉ fp) → PE (X.blk s H scope (compEnvC scope cl C X.env) fp) elt (te σ))
    (hs : ∀ x, foldedSetIterable iter X.env x = pure x := by intro _; rfl) : PE X (.ListComp elt [⟨tg, iter, [], 0⟩] scope pos) (tLcG wi g te (own.map (·.2))) := by
  refine ⟨fun pins s σ H Q I h => ?_⟩
  rw [eval_ListComp]
  have cells : ∀ y ∈ scope.names, y.2 = .free → ∃ c, X.env.cells.lookup y.1 = some c := fun y hy e => (ok.free y hy e).elim (fun z => I.ok.has _ (.inl z)) fun z => I.ok.has _ (.inr z)
  refine wpAny_comprehension_free (use := none) rfl hs (closure_ok cells) ok.kind (fun y hy e => by rw [ok.uniq y hy, e]) (thn (hi.run pins s σ H _ I h) fun xv s1 hx => thn hx fun itv s2 h2 => ?_)
  obtain ⟨it, fp, tn, J, H2, rfl, I2, T, st2, f2, q⟩ := h2
  refine wpAny_newObj_type (newEnv_comp ?_) (by show 0 ≤ sizeLine; decide)
  have nD : H2 s2.heap.objs.size = none := I2.hok.fresh (Nat.le_refl _)
  obtain ⟨W, ⟨m0, w0⟩, turn⟩ := q _ nD
  have I3 : Inv X pins σ (upd H2 s2.heap.objs.size (.lst [])) { s2 with heap := s2.heap.push { cls := .type "list", data := .seq ([] : List Value).toArray } } :=
    I2.laid (t' := s2.toks) (fun b o e => Heap.get?_push_of_some _ e) (Nat.le_refl _) ⟨Nat.zero_le _, [], 0, .nil, Heap.get?_push_size _ rfl⟩
  generalize e3 : ({ s2 with heap := s2.heap.push { cls := .type "list", data := .seq ([] : List Value).toArray } } : Shared) = s3 at I3
  have z3 : s3.heap = s2.heap.push { cls := .type "list", data := .seq ([] : List Value).toArray } := by rw [← e3]
  have lt2 : ∀ b ∈ fp, b < s2.heap.objs.size := fun b hb => by
    obtain ⟨o, e, _⟩ := T.obj _ _ st2 b hb
    exact Heap.lt_size e
  have f3 : ∀ b ∈ fp, FpOk X pins (upd H2 s2.heap.objs.size (.lst [])) b ∧ b < s3.heap.objs.size := fun b hb =>
    ⟨⟨(upd_ne (Nat.ne_of_lt (lt2 b hb))).trans (f2 b hb).1, (f2 b hb).2⟩, by rw [z3, Heap.size_push]; exact Nat.lt_succ_of_lt (lt2 b hb)⟩
  have st3 : tn 0 s3.heap := T.keep _ _ _ st2 fun b _ o e => by rw [z3]; exact Heap.get?_push_of_some _ e
  have I4 := block_start I3 ok hN f3
  generalize upd H2 s2.heap.objs.size (.lst []) = H3 at I3 I4 w0 f3
  generalize s2.heap.objs.size = D at turn
  generalize ecl : cellsFrom (s3.heap.objs.size + 1) scope.names (cloFrom X.env.cells scope.names []) = cl at I4
  have pg := hg s3 H3 s3.heap.objs.size cl fp
  have pe := he pins σ s3 H3 s3.heap.objs.size cl fp I3 fun y c e hm => (f3 c hm).1.2.2.2.2.1 y c e rfl
  generalize ece : compEnvC scope cl s3.heap.objs.size X.env = ce at I4 pg pe
  have cL : ce.locals = s3.heap.objs.size := by rw [← ece] <;> rfl
  generalize e4 : ({ s3 with heap := pushCells (s3.heap.push { cls := .type "dict", data := .dict #[] }) scope.names } : Shared) = s4 at I4
  have st4 : tn 0 s4.heap := T.keep _ _ _ st3 fun b _ o e => by rw [← e4]; exact pushCells_keeps _ _ _ _ (Heap.get?_push_of_some _ e)
  have loop : codeAny (model X.prog X.w) X.A (.compLoop (.ListComp elt [⟨tg, iter, [], 0⟩] scope pos) 0 (.ref it) (.ref D) ce) (compPost (model X.prog X.w) X.A X.xe none (EP X pins σ Q) (.ref D) s3.heap.objs.size) s4 := by
    have stat : ∀ {σ' : L2.St} {H' : Hp} {s' : Shared}, Inv (X.blk s3 H3 scope ce fp) [] σ' H' s' → (∀ b ∈ fp, H' b = none) → ∀ b ∈ fp, FpOk (X.blk s3 H3 scope ce fp) [] H' b := fun {σ' H' s'} I' hn b hb =>
      ⟨hn b hb, (I'.ok.exf b hb).1, I'.ok.exfs b hb, .inl hb, (I'.ok.exf b hb).2, fun p hp => absurd (show p ∈ ([] : List (Addr × Obj)) ++ [] from hp) (by simp)⟩
    refine compLoop_any (fun n s' => ∃ i H', Inv (X.blk s3 H3 scope ce fp) [] (wipe σ (own.map (·.2))) H' s' ∧ tn i s'.heap ∧ (∀ b ∈ fp, H' b = none) ∧ W i n H') ?_ m0 ⟨0, H3, I4, st4, fun b hb => (f3 b hb).1.1, w0⟩
    rintro n s5 ⟨i, H5, I5, st5, n5, w5⟩
    rcases turn i n H5 w5 with ⟨stop, qq⟩ | ⟨go, Nx, hNx, step⟩
    · refine thnF (T.done (X.blk s3 H3 scope ce fp) rfl rfl rfl hc i [] s5 _ H5 (fun _ _ => False) I5 (stat I5 n5) st5 stop) fun r s6 ⟨hr, I6⟩ => ?_
      subst hr
      have fpx : ∀ b ∈ fp, _ := fun b hb => (f3 b hb).1.2.2.2
      have I7 : Inv X pins σ H5 s6 := I3.call' (ch := fp) I6.os I6.base I6.hok I6.bare fun b hb => ⟨(fpx b hb).1, (f3 b hb).1.2.1, (fpx b hb).2.1, (fpx b hb).2.2⟩
      obtain ⟨m, hn, _⟩ := I6.loc
      have hn : s6.heap.Ns ce.locals m := hn
      have nC : H5 ce.locals = none := I6.free
      rw [cL] at hn nC
      refine ⟨m, hn, fun h'' sb => ?_⟩
      obtain ⟨g0, g1, g2, g3, g4, g5⟩ := I3.fpOk (H' := H5) (Nat.le_refl _) nC
      exact ⟨.ref D, H5, I7.turned (t' := s6.toks) (fun b o hb e => (sb.2 b hb).trans e) g0 g1 g3 g4 g5, rfl, qq⟩
    · refine thnF (T.item (X.blk s3 H3 scope ce fp) rfl rfl rfl hc i [] s5 _ H5 (fun _ _ => False) I5 (stat I5 n5) st5 go) fun r s6 ⟨u, hr, h6⟩ => ?_
      subst hr
      refine thnF h6 fun _ s7 ⟨x, H7, I7, r7, y7, st7, n7⟩ => ?_
      refine thnF (pg.run _ s7 _ H7 x u _ (I7.pinned (stat I7 n7) (T.obj _ _ st7)) r7 (step x H7 y7)) fun _ s8 ⟨σ8, H8, I8, hw8, q8⟩ => ?_
      refine thnF ((pts_nil (X := X.blk s3 H3 scope ce fp)).run _ s8 σ8 H8 _ I8 q8) fun b s9 ⟨H9, I9, q9⟩ => ?_
      have fin : ∀ {s' : Shared} {H' : Hp}, Inv (X.blk s3 H3 scope ce fp) ([] ++ pinsAt fp s7.heap) σ8 H' s' → Nx H' → ∃ m, m < n ∧ ∃ i H', Inv (X.blk s3 H3 scope ce fp) [] (wipe σ (own.map (·.2))) H' s' ∧ tn i s'.heap ∧ (∀ b ∈ fp, H' b = none) ∧ W i m H' := fun {s' H'} I' nx => by
        obtain ⟨m', hm, w'⟩ := hNx H' nx
        have pin' : ∀ b ∈ fp, ∀ o, s7.heap.get? b = some o → s'.heap.get? b = some o ∧ H' b = none := fun b hb o e =>
          let z := I'.pin (b, o) (List.mem_append_right _ (List.mem_append_right _ (mem_pinsAt hb e)))
          ⟨z.1, z.2.1⟩
        refine ⟨m', hm, i + 1, H', (I'.unpinned (pins := [])).weak (by rw [← hw8, wipe_length]) (fun j v e => ?_), T.keep _ _ _ st7 fun b hb o e => (pin' b hb o e).1, fun b hb => ?_, w'⟩
        · rw [← hw8] at e
          exact (wipe_some e).1
        · obtain ⟨o, e, _⟩ := T.obj _ _ st7 b hb
          exact (pin' b hb o e).2
      cases b with
      | false =>
        simp only [Bool.false_eq_true, if_false] at q9 ⊢
        exact fin I9 q9
      | true =>
        simp only [if_true] at q9 ⊢
        refine thnF (pe.run _ s9 σ8 H9 _ I9 q9) fun z s10 ⟨yv, H10, I10, r10, acc, hD10, hz10, nx⟩ => ?_
        exact app_ok (X := X.blk s3 H3 scope ce fp) I10 hD10 hz10 r10 fun s11 I11 => fin I11 nx
  subst ece ecl e4 e3
  exact codeAny_compStart_list loop (T.self X.A 0 _ _ _ st4 loop)
/-- g(.., x, ..) there -/
theorem pe_callGB {s3 : Shared} {H3 : Hp} {scope : Scope} {ce : Env} {fp : List Addr} {pinsM : List (Addr × Obj)} {σM : L2.St} {k : Nat} {f : Addr} {fd : FuncData} {ps : List Str} {sp : Heap → Sp} {x : Str} {p pos : Pos} {e : Expr} {es : List Expr} {t : TA}
    (F : ∀ base', (∀ b o, X.base.get? b = some o → base'.get? b = some o) → FnG X.prog X.w X.K X.mg base' k f fd ps (sp base')) (hgd : X.A.guards = some []) (hr : Room k X.A) (hg : Gl (X.blk s3 H3 scope ce fp) x) (hm : X.mg x = some (.ref f)) (hk : PySem.W.keepIn X.K (.ref f) = true) (hb : Binds X.K fd ps [])
    (hfn : ∀ y, X.fn y = true) (IM : Inv X pinsM σM H3 s3) (nfp : ∀ y c, X.env.cells.lookup y = some c → c ∉ fp) (ha : PA (X.blk s3 H3 scope ce fp) (e :: es) t) (hdb : (x == ("__debug__" : Str)) = false := by decide)
    (he : starEach (e :: es) ce = (false, eval e ce) :: starEach es ce := by rfl) (hpl : (backTo pos (starEach es ce)).any (·.1) = false := by rfl) : PE (X.blk s3 H3 scope ce fp) (.Call (.Name x p) (e :: es) [] pos) (tCallG X X.env X.N σM sp t) := by
  refine ⟨fun pins s σ H Q I h => ?_⟩
  refine wpAny_Call_Name_kw (ld_glob I hg hm ?_ hdb)
  refine PySem.W.callWith_K (h₀ := X.base) I.ok.mod.kin hk (thn (ha.run pos pins s σ H _ I h) fun us s1 ⟨vs, H1, I1, r, q⟩ => ⟨I1.kIn, ?_⟩) he hpl
  have far := far_of IM hfn
  refine run_g (X := X.blk s3 H3 scope ce fp) F hgd hr hb I1 IM far (fun y c o e ho => ?_) r fun base' gr => q base' ⟨gr.up, gr.kin, gr.cells⟩
  have n3 := IM.freeC y c e
  exact ⟨I1.base.keep c o ho n3 (far y c e).2 (nfp y c e), I1.base.free c o ho n3 (nfp y c e)⟩
end
end FcL

set_option maxRecDepth 100000
set_option maxHeartbeats 4000000
namespace FcL
open PySem PySem.Spec PyProof.Rows L2 FcR FcX LamX NdefX
/-! ### repr(e) where no repr is under way -/
/-- data, or an empty dict -/
inductive DpE (K : PySem.W.Frag) (H : Hp) : V → PyData → Prop
  | dp {v : V} {d : PyData} (h : Dp K H v d) (c : PyData.canLay0 d = true) : DpE K H v d
  | dict {a : Addr} (h : H a = some (.dK [])) : DpE K H (.ref a) (.dict [])
def rRepr (K : PySem.W.Frag) : List V → Hp → VK → Prop := fun xs H Q => ∃ (v : V) (d : PyData), xs = [v] ∧ DpE K H v d ∧ d.showable = true ∧ d.depth ≤ 64 ∧ d.shown.length ≤ sizeLine ∧ Q (.str d.shown) H
section
variable {X : Cx} {k : Nat}
theorem call_repr (hg : X.A.guards = some []) (hu : X.A.units + 100 < cLine) : CallR X (.builtin "repr") (rRepr X.K) := by
  intro pins s σ H xs us Q I r h
  obtain ⟨v, d, rfl, dv, sh, dp, sz, q⟩ := h
  obtain ⟨u, rfl, ru⟩ := vals1 r
  have fin : ∀ (h' : Heap) (t : Tok) (tk : Nat), (∀ b o, s.heap.get? b = some o → h'.get? b = some o) → EP X pins σ Q (.str d.shown t) { s with heap := h', toks := tk } := fun h' t tk kp => ⟨.str d.shown, H, I.kept kp, ⟨t, rfl⟩, q⟩
  have viaRef : ∀ (a : Addr) (as : List Addr), Reads s.heap (.ref a) d as → (d.hasDict = true → sysModules ∉ as) → wpAny (model X.prog X.w) X.A (call (.builtin "repr") [.ref a]) (EP X pins σ Q) X.xe s := fun a as rd hs =>
    repr_of_reads' rd sh hs hg (by omega) (fun _ _ e => e) (fun h' t tk kp => fin h' t tk kp) sz
  have same : EP X pins σ Q (.str d.shown s.toks) { s with toks := s.toks + 1 } := ⟨.str d.shown, H, I.tok _, ⟨_, rfl⟩, q⟩
  cases dv with
  | dict hd =>
    obtain rfl : u = Value.ref _ := ru
    obtain ⟨_, hsy, vs, kv, o, es, ep, e1, e2, e3, _, e4, _⟩ := I.hok _ _ hd
    cases kv
    have ez : es.toList = [] := by
      generalize es.toList = l at e4
      cases e4
      rfl
    refine viaRef _ _ (Reads.dict (kvs := []) e1 e2.1 e3 (by rw [ez]; exact .nil) (by rw [ez]; exact .nil)) fun _ z => ?_
    simp at z
    rw [z] at hsy
    simp at hsy
  | dp hdv can =>
    obtain ⟨as, rd⟩ := Dp.reads I d v u hdv ru
    cases rd with
    | none =>
      rw [PyData.shown_none] at same
      exact PySem.P.repr_of_none same
    | bool b =>
      rw [PyData.shown_bool] at same
      exact PySem.P.repr_of_bool (by cases b <;> exact same)
    | int i t =>
      rw [PyData.shown_int] at same
      refine PySem.P.repr_of_int ?_ same
      simpa [PyData.showable] using sh
    | str x t =>
      rw [PyData.shown_str] at same sz
      exact PySem.P.repr_of_str same sz
    | list h1 h2 h3 h4 => exact viaRef _ _ (.list h1 h2 h3 h4) fun z => by rw [PyData.hasDict_of_canLay _ can] at z; cases z
    | tuple h1 h2 h3 h4 => exact viaRef _ _ (.tuple h1 h2 h3 h4) fun z => by rw [PyData.hasDict_of_canLay _ can] at z; cases z
    | dict h1 h2 h3 h4 h5 => cases hdv
end
end FcL
namespace Fc
open PySem
theorem b_repr : bootBuiltins "repr" = some (.builtin "repr") := by decide +kernel
end Fc

set_option maxRecDepth 100000
set_option maxHeartbeats 4000000
namespace FcL
open PySem PySem.Spec PyProof.Rows L2 FcR FcX LamX NdefX
/-! ### o[i] by an own __getitem__, and o.m(k = v): one of several promises -/
def tIxS (C : Addr) (S : Sp → Prop) (W : WX) (ta ti : TE) : TE := fun σ H Q => ta σ H fun x H1 => ti σ H1 fun y H2 => ∃ a dx fs, x = .ref a ∧ H2 a = some (.ins C dx fs) ∧ ∃ sp, S sp ∧ sp [x, y] H2 Q (WE W σ)
theorem fnIn_of {K : PySem.W.Frag} {x qual : Str} {params : Arguments} {body : List Stmt} {scope : Scope} {dvs : List V} {kws : List (Str × V)} {f : Addr} {fd : FuncData} (F : FunD K x qual params body scope dvs kws f fd) : PySem.W.fnIn K f = true := by
  obtain ⟨_, _, _, _, _, _, _, _, _, _, rfl, lk, _⟩ := F.ex
  unfold PySem.W.fnIn
  rw [lk]
section
variable {X : Cx} {k : Nat} {f C : Addr} {S : Sp → Prop} {W : WX} {o i : Expr} {pos apos : Pos} {ta ti : TE} {m : Str}
theorem run_in1 {fd : FuncData} {ps : List Str} {sp : Sp} (F : FnOk X.prog X.w X.K X.mg X.base (L2.CX X.prog X.w) k f fd ps sp) (hr : Room k X.A.in1) (hb : Binds X.K fd ps []) (tk : Takes X W) {pins : List (Addr × Obj)} {σ : L2.St} {H : Hp} {s : Shared} {us : List Value} {vs : List V} {Q : VK}
    (I : Inv X pins σ H s) (r : Vals vs us) (h : sp vs H Q (WE W σ)) : wpAny (model X.prog X.w) X.A.in1 (call (.ref f) us) (EP X pins σ Q) X.xe s := by
  have e := I.env0
  have e0 : Env0 X.prog X.w X.K X.mg X.base X.A.in1 X.stack s H := ⟨e.frames, e.mod, e.bs, e.bsz, e.funs, e.frf, e.hok, e.bare⟩
  have hl := F.len _ _ _ _ h
  have b := hb s us I.kIn (by rw [List.append_nil, ← r.length]; exact hl)
  rw [List.append_nil] at b
  refine wpAny_call (codeAny_mono (F.run _ X.stack s H ⟨us, []⟩ us vs _ _ hr e0 b r h) fun r s' hq => ?_)
  cases r with
  | error e => exact passAt tk σ pins _ _ e s' I hq
  | ok fl =>
    cases fl with
    | ret w => exact I.after hq
    | next => exact False.elim hq
    | brk => exact False.elim hq
    | cont => exact False.elim hq
theorem pe_ixS (A : ∀ sp, S sp → HeldX X.prog X.w X.K X.mg X.base k f sp) (hm : Meth X.K C "__getitem__" f) (hfn : PySem.W.fnIn X.K f = true) (hr : Room (k + 1) X.A) (tk : Takes X W) (ha : PE X o ta) (hi : PE X i ti)
    (hsl : ∀ x v, subscripted i true (.ref x) v = runValue (.builtin "lifetime.subscript" ⟨[.ref x, v], []⟩) := by intro _ _; with_unfolding_all rfl) : PE X (.Subscript o i pos) (tIxS C S W ta ti) := by
  refine ⟨fun pins s σ H Q I h => ?_⟩
  refine Subscript_ (binT ha hi I h fun v u s2 x y H2 I2 rx ry q => ?_)
  obtain ⟨a, dx, fs, rfl, hx, sp, hS, q⟩ := q
  obtain rfl : v = Value.ref a := rx
  obtain ⟨fd, ps, F, _, hb⟩ := (A sp hS).ex
  obtain ⟨mA, J, _⟩ := ins_get I2.hok hx
  obtain ⟨od, J, _⟩ := J.look
  obtain ⟨mm, hF⟩ := I2.fr
  exact PySem.W.sub_K hF I2.ok.mod.kin J hm.at_ hfn hm.fn (run_in1 F hr.in1 hb tk I2 (.cons (show L2.RelV (.ref a) (Value.ref a) from rfl) (.cons ry .nil)) q) (hsl _ _)
end
def tMethW (C : Addr) (m : Str) (sp : Sp) (g : List V → List V) (n : Nat) (E : XK) (ta : TE) (tk : TA) : TE := fun σ H Q => ta σ H fun x H1 => ∃ a dx fs, x = .ref a ∧ H1 a = some (.ins C dx fs) ∧ fs.lookup m = none ∧ tk σ H1 fun zs H2 => zs.length = n ∧ sp (x :: g zs) H2 Q E
section
variable {X : Cx} {CX : CXT} {C f : Addr} {fd : FuncData} {ps ks : List Str} {sp : Sp} {E : XK} {k : Nat} {m : Str} {o : Expr} {apos pos : Pos} {kws : List Keyword} {ta : TE} {tk : TA} {g : List Value → List Value} {gV : List V → List V}
theorem pe_methW {pl : Sem Bool} (F : FnOk X.prog X.w X.K X.mg X.base CX k f fd ps sp) (he : PE X o ta) (c : Cls X.K C) (hm : Meth X.K C m f) (hr : Room k X.A)
    (hb : ∀ (s : Shared) (y : Value) (ws : List Value), ws.length = ks.length → BindsTo s fd ⟨[y], ks.zip ws⟩ (ps.zip (y :: g ws))) (hrel : ∀ {zs : List V} {ws : List Value}, Vals zs ws → zs.length = ks.length → Vals (gV zs) (g ws)) (hx : Passes CX X E) (hkw : PK X kws tk)
    (hall : (backToKw pos (keywordEach kws X.env)).all (·.1.isSome) = true := by rfl) (hks : (backToKw pos (keywordEach kws X.env)).filterMap (·.1) = ks := by rfl)
    (hpl : ((backTo pos (starEach [] X.env)).any (·.1) || (backToKw pos (keywordEach kws X.env)).any (·.1.isNone)) = false := by rfl)
    (ht : eval (.Call (.Attribute o m apos) [] kws pos) X.env = (do
      let ov ← eval o X.env
      standAt apos.atName
      let (f, first) ← holding [ov] (getMethod ov m pl)
      callWith pos f first (backTo pos (starEach [] X.env)) (backToKw pos (keywordEach kws X.env))) := by rfl) :
    PE X (.Call (.Attribute o m apos) [] kws pos) (tMethW C m sp gV ks.length E ta tk) := by
  refine ⟨fun pins s σ H Q I h => ?_⟩
  refine PySem.W.methodCall_KW (pl := pl) (thn (he.run pins s σ H _ I h) fun u s1 ⟨x, H1, I1, rx, a, dx, fs, ex, ea, l, q⟩ => ?_) ht
  subst ex
  obtain rfl : u = Value.ref a := rx
  refine getmeth_ok I1 ea c hm l ?_
  refine PySem.W.callWith_KW0 (first := [.ref a]) (h₀ := X.base) I.ok.mod.kin hm.kp hall (thn (hkw.run pos pins s1 σ H1 _ I1 q) fun ws s2 ⟨zs, H2, I2, rz, lz, q2⟩ => ⟨I2.kIn, ?_⟩) hpl
  rw [hks]
  refine wpAny_call (codeAny_mono (F.run X.A X.stack s2 _ ⟨[Value.ref a], ks.zip ws⟩ (Value.ref a :: g ws) _ _ E hr I2.env0 (hb _ _ ws (rz.length.symm.trans lz)) (.cons (show L2.RelV (.ref a) (Value.ref a) from rfl) (hrel rz lz)) q2) fun r s' hq' => ?_)
  cases r with
  | error e => exact hx pins σ _ _ e s' I2 hq'
  | ok fl =>
    cases fl with
    | ret u => exact I2.after hq'
    | next => exact False.elim hq'
    | brk => exact False.elim hq'
    | cont => exact False.elim hq'
end
end FcL

set_option maxRecDepth 100000
set_option maxHeartbeats 4000000
namespace Fc
open PySem PySem.Spec PyProof.Rows L2 FcR
open Evl (Ex)
/-! ### small methods of Code -/
def sp_cn (K : PySem.W.Frag) : Sp := fun vs H Q _ => ∃ (F : Hp) (A : CAd) (rows : List Row) (n : Nat), vs = [.ref A.p, .int (n : Int)] ∧ CodeH K F F A rows ∧ Ex F H ∧ n < rows.length ∧ Q .non H
section
variable {P : Program} {w : World} {h : Heap} {K : PySem.W.Frag} {mg : Str → Option Value} {base : Heap}
abbrev N_Code_check_number : List Str := ["self", "number"]
theorem sc_Code_check_number : FnScope N_Code_check_number ["self", "number"] (defScope sd_Code_check_number) := ⟨rfl, rfl, rfl, by decide +kernel, rfl, by decide +kernel, by decide +kernel⟩
theorem ok_Code_check_number (T : Tx w h K mg) : Ok P w K mg base 3 ("Code", some "check_number") ["self", "number"] (sp_cn K) := by
  obtain ⟨fd, F⟩ := F_Code_check_number T
  refine ⟨fd, ?_, F.bindsN (fun _ _ _ _ _ _ us hl => match us, hl with | [_, _], _ => rfl), F.kp⟩
  obtain ⟨fd_is_between, G_is_between, bi_is_between, kp_is_between⟩ := ok_is_between (P := P) (base := base) T
  refine F.ok sc_Code_check_number (fun vs H Q E h => ?_) (fun cdv A outer s H vs Q E hr h => ?_)
  · obtain ⟨F, A, rows, n, rfl, C, xF, hn, q⟩ := h
    rfl
  · obtain ⟨F, A, rows, n, rfl, C, xF, hn, q⟩ := h
    refine ⟨_, PSs.nox (pss_one (ps_if (pt_not (pt_val (pe_call G_is_between (hr.mono (by decide)) rfl (g_is_between T) kp_is_between bi_is_between .nil passF (pa_cons (pv 1) (pa_cons pe_int (pa_cons (pe_op op_sub (pe_callB call_len_seq rfl (fr_len T) b_len (pa_cons (pe_fld (pv 0) rfl) pa_nil)) pe_int) pa_nil)))))) (pss_one ps_never) pss_nil)), ?_⟩
    obtain ⟨vs, C1, _⟩ := C.ex (Evl.Ex.refl _) xF
    refine ⟨_, rfl, _, rfl, A.p, _, _, _, _, rfl, C1.ob, c_Code T, na_Code_kinds T, fl_Code_kinds _ _ _ _ _, A.a2, _, rfl, .inl (Evl.sq_of C1.h2), _, _, rfl, rfl, ?_⟩
    refine ⟨_, _, _, rfl, .inl ⟨_, rfl, ?_⟩⟩
    have e : (decide ((0 : Int) ≤ (n : Int)) && decide ((n : Int) ≤ ((rows.map fun r => V.str (kindD r.d)).length : Int) - 1)) = true := by
      rw [List.length_map]
      simp
      omega
    refine ⟨_, rfl, ?_⟩
    refine itF (by rw [e] <;> rfl) q
end

end Fc

set_option maxRecDepth 100000
set_option maxHeartbeats 4000000
namespace Fc
open PySem PySem.Spec PyProof.Rows L2 FcR
open Evl (Ex)
/-! ### numbers that are refused -/
def BadN (K : PySem.W.Frag) (H : Hp) (u : V) (n : Nat) : Prop := (∃ i : Int, u = .int i ∧ (decide (0 ≤ i) && decide (i ≤ (n : Int) - 1)) = false) ∨
  (∃ t b1 b2, (∀ H', Ex H H' → TyX K H' u t) ∧ PySem.W.kitOne K t (.type "int") = some b1 ∧ PySem.W.kitOne K t (.type "bool") = some b2 ∧ (b1 && !b2) = false)
theorem BadN.ex {K : PySem.W.Frag} {H H' : Hp} {u : V} {n : Nat} (b : BadN K H u n) (e : Ex H H') : BadN K H' u n := by
  rcases b with z | ⟨t, b1, b2, ty, r⟩
  · exact .inl z
  · exact .inr ⟨t, b1, b2, fun H2 e2 => ty H2 (e.trans e2), r⟩
def sp_cnX (K : PySem.W.Frag) : Sp := fun vs H Q E => ∃ (F : Hp) (A : CAd) (rows : List Row) (v : V), vs = [.ref A.p, v] ∧ CodeH K F F A rows ∧ Ex F H ∧ BadN K H v rows.length ∧ RaisesA K "InvalidNumber" "number" H v E
theorem RaisesA.ex {K : PySem.W.Frag} {C f : Str} {H H' : Hp} {y : V} {E : XK} (r : RaisesA K C f H y E) (e : Ex H H') : RaisesA K C f H' y E := fun H2 d x n s => r H2 d (e.trans x) (ex_none e n) s
theorem badNT {K : PySem.W.Frag} {F : Hp} {u : V} {n : Nat} {T : String} (hT : T = "NoneType" ∨ T = "str" ∨ T = "list" ∨ T = "tuple" ∨ T = "dict") (ty : ∀ H', Ex F H' → TyX K H' u (.type T)) : BadN K F u n := by
  rcases hT with rfl | rfl | rfl | rfl | rfl <;> exact .inr ⟨_, false, false, ty, kit_ty (by decide +kernel), kit_ty (by decide +kernel), rfl⟩
theorem badNB {K : PySem.W.Frag} {F : Hp} {n : Nat} (x : Bool) : BadN K F (.bl x) n := .inr ⟨_, true, true, fun _ _ => .base (.bl x), kit_ty (by decide +kernel), kit_ty (by decide +kernel), rfl⟩
theorem heldOf {P : Program} {w : World} {K : PySem.W.Frag} {mg : Str → Option Value} {base : Heap} {k : Nat} {at_ : Str × Option Str} {ps : List Str} {sp : Sp} (o : Ok P w K mg base k at_ ps sp) : ∀ sp', sp' = sp → FcX.HeldX P w K mg base k (He.fAd K at_) sp' := fun sp' e => by
  subst e
  obtain ⟨fd, G, b, kp⟩ := o
  exact ⟨fd, _, G, kp, b⟩
section
variable {P : Program} {w : World} {h : Heap} {K : PySem.W.Frag} {mg : Str → Option Value} {base : Heap}
theorem ok_Code_check_numberX (T : Tx w h K mg) : Ok P w K mg base 3 ("Code", some "check_number") ["self", "number"] (sp_cnX K) := by
  obtain ⟨fd, F⟩ := F_Code_check_number T
  refine ⟨fd, ?_, F.bindsN (fun _ _ _ _ _ _ us hl => match us, hl with | [_, _], _ => rfl), F.kp⟩
  obtain ⟨fd_is_between, G_is_between, bi_is_between, kp_is_between⟩ := ok_is_between (P := P) (base := base) T
  obtain ⟨fd_InvalidNumber___init__, G_InvalidNumber___init__, bi_InvalidNumber___init__, kp_InvalidNumber___init__, FD_InvalidNumber___init__⟩ := okF_InvalidNumber___init__ (P := P) (base := base) T
  refine F.ok sc_Code_check_number (fun vs H Q E h => ?_) (fun cdv A outer s H vs Q E hr h => ?_)
  · obtain ⟨F, A, rows, v, rfl, C, xF, bd, ra⟩ := h
    rfl
  · obtain ⟨F, A, rows, v, rfl, C, xF, bd, ra⟩ := h
    refine ⟨_, (pss_one (ps_if (pt_not (pt_val (pe_call G_is_between (hr.mono (by decide)) rfl (g_is_between T) kp_is_between bi_is_between .nil (passes_call (takes_of rfl rfl rfl rfl) (fun _ _ _ _ h => h)) (pa_cons (pv 1) (pa_cons pe_int (pa_cons (pe_op op_sub (pe_callB call_len_seq rfl (fr_len T) b_len (pa_cons (pe_fld (pv 0) rfl) pa_nil)) pe_int) pa_nil)))))) (pss_one (ps_raise rfl (takes_of rfl rfl rfl rfl) (FcX.pmk_X (x_InvalidNumber T) (xi_InvalidNumber T) G_InvalidNumber___init__ (hr.mono (by decide)) bi_InvalidNumber___init__ passF rfl (g_InvalidNumber T) (pv 1)))) pss_nil)), ?_⟩
    obtain ⟨vs, C1, _⟩ := C.ex (Evl.Ex.refl _) xF
    have fin : ∀ d, H d = none → E (.ref (He.ga K "InvalidNumber")) (some d) (upd H d (.xd [("number", v)])) := fun d n => ra _ d (exu (Evl.Ex.refl _) n) n upd_same
    refine ⟨_, rfl, _, rfl, A.p, _, _, _, _, rfl, C1.ob, c_Code T, na_Code_kinds T, fl_Code_kinds _ _ _ _ _, A.a2, _, rfl, .inl (Evl.sq_of C1.h2), _, _, rfl, rfl, ?_⟩
    rw [List.length_map]
    rcases bd with ⟨i, rfl, hb⟩ | ⟨t, b1, b2, ty, k1, k2, hb⟩
    · exact ⟨_, _, _, rfl, .inl ⟨i, rfl, _, rfl, itT (by rw [hb]; rfl) ⟨_, rfl, _, rfl, fun d n => fin d n⟩⟩⟩
    · exact ⟨v, _, _, rfl, .inr ⟨t, b1, b2, ty _ (Evl.Ex.refl _), k1, k2, hb, _, rfl, itT rfl ⟨_, rfl, _, rfl, fun d n => fin d n⟩⟩⟩
end

end Fc

set_option maxRecDepth 100000
set_option maxHeartbeats 4000000
namespace Fc
open PySem PySem.Spec PyProof.Rows L2 FcR
open Evl (Ex)
theorem same_firstC {K : PySem.W.Frag} {C : Addr} : PySem.W.notFirst K C (.ref C) = true := by simp [PySem.W.notFirst]
def sp_get (K : PySem.W.Frag) : Sp := fun vs H Q _ => ∃ (F : Hp) (A : CAd) (rows : List Row) (n : Nat) (r : Row), vs = [.ref A.p, .int (n : Int)] ∧ CodeH K F F A rows ∧ Ex F H ∧ rows[n]? = some r ∧ ∀ v, Dp K F v r.d → Q v H
/-- equal to another code, or to what is none -/
def sp_ceq (K : PySem.W.Frag) : Sp := fun vs H Q _ => ∃ (F : Hp) (A : CAd) (rows : List Row) (r : Row) (y : V), vs = [.ref A.p, y] ∧ CodeH K F F A rows ∧ Ex F H ∧ rows[0]? = some r ∧ PyData.canLay0 r.d = true ∧ r.d.depth ≤ 200 ∧
  ((∃ (F2 : Hp) (A2 : CAd) (rows2 : List Row) (r2 : Row), y = .ref A2.p ∧ CodeH K F2 F2 A2 rows2 ∧ Ex F2 H ∧ rows2[0]? = some r2 ∧ PyData.canLay0 r2.d = true ∧ Q (.bl (PyData.eqv r.d r2.d)) H) ∨
   (∃ T, T ∈ (["NoneType", "bool", "int", "str", "list", "tuple", "dict"] : List String) ∧ TyX K H y (.type T) ∧ Q (.bl false) H))
section
variable {P : Program} {w : World} {h : Heap} {K : PySem.W.Frag} {mg : Str → Option Value} {base : Heap}
abbrev N_Code___getitem__ : List Str := ["self", "number"]
theorem sc_Code___getitem__ : FnScope N_Code___getitem__ ["self", "number"] (defScope sd_Code___getitem__) := ⟨rfl, rfl, rfl, by decide +kernel, rfl, by decide +kernel, by decide +kernel⟩
theorem ok_Code___getitem__ (T : Tx w h K mg) : Ok P w K mg base 4 ("Code", some "__getitem__") ["self", "number"] (sp_get K) := by
  obtain ⟨fd, F⟩ := F_Code___getitem__ T
  refine ⟨fd, ?_, F.bindsN (fun _ _ _ _ _ _ us hl => match us, hl with | [_, _], _ => rfl), F.kp⟩
  obtain ⟨fd_Code_check_number, G_Code_check_number, bi_Code_check_number, kp_Code_check_number⟩ := ok_Code_check_number (P := P) (base := base) T
  refine F.ok sc_Code___getitem__ (fun vs H Q E h => ?_) (fun cdv A outer s H vs Q E hr h => ?_)
  · obtain ⟨F, A, rows, n, r, rfl, C, xF, hw, q⟩ := h
    rfl
  · obtain ⟨F, A, rows, n, r, rfl, C, xF, hw, q⟩ := h
    refine ⟨_, PSs.nox (pss_cons (ps_expr (pe_meth (pv 0) (c_Code T) (me_Code_check_number T) G_Code_check_number (hr.mono (by decide)) bi_Code_check_number .nil passF (pa_cons (pv 1) pa_nil))) (pss_one (ps_ret (pe_ix ix_list (pe_fld (pv 0) rfl) (pv 1) (fun _ _ => rfl))))), ?_⟩
    obtain ⟨vs, C1, da⟩ := C.ex (Evl.Ex.refl _) xF
    obtain ⟨v, hv, dv⟩ := dpA_get da (i := n) (d := r.d) (by rw [List.getElem?_map, hw] <;> rfl)
    refine ⟨_, rfl, A.p, _, _, rfl, C1.ob, fm_Code_check_number _ _ _ _ _, _, rfl, F, A, rows, n, rfl, C, xF, (List.getElem?_eq_some_iff.mp hw).1, ?_⟩
    exact ⟨_, rfl, A.p, _, _, _, _, rfl, C1.ob, c_Code T, na_Code_statements T, fl_Code_statements _ _ _ _ _, _, rfl, A.a1, _, _, v, rfl, rfl, Evl.sq_of C1.h1, atI_nat hv, q v dv⟩
abbrev N_Code___eq__ : List Str := ["self", "other"]
theorem sc_Code___eq__ : FnScope N_Code___eq__ ["self", "other"] (defScope sd_Code___eq__) := ⟨rfl, rfl, rfl, by decide +kernel, rfl, by decide +kernel, by decide +kernel⟩
theorem ok_Code___eq__ (T : Tx w h K mg) : Ok P w K mg base 1 ("Code", some "__eq__") ["self", "other"] (sp_ceq K) := by
  obtain ⟨fd, F⟩ := F_Code___eq__ T
  refine ⟨fd, ?_, F.bindsN (fun _ _ _ _ _ _ us hl => match us, hl with | [_, _], _ => rfl), F.kp⟩
  refine F.ok sc_Code___eq__ (fun vs H Q E h => ?_) (fun cdv A outer s H vs Q E hr h => ?_)
  · obtain ⟨F, A, rows, r, y, rfl, C, xF, hw, can, dep, alt⟩ := h
    rfl
  · obtain ⟨F, A, rows, r, y, rfl, C, xF, hw, can, dep, alt⟩ := h
    refine ⟨_, PSs.nox (pss_one (ps_ret (pe_and (pe_callB call_isi rfl (fr_isinstance T) b_isinstance (pa_cons (pv 1) (pa_cons (pe_glob (v := .ref (He.ga K "Code")) rfl (g_Code T) rfl) pa_nil))) (pe_one (pe_cmpR (op_eqM hr) (pe_ix ix_list (pe_fld (pv 0) rfl) pe_int (fun _ _ => rfl)) (pe_ix ix_list (pe_fld (pv 1) rfl) pe_int (fun _ _ => rfl)) (nomark _)))))), ?_⟩
    obtain ⟨vs, C1, da⟩ := C.ex (Evl.Ex.refl _) xF
    rcases alt with ⟨F2, A2, rows2, r2, rfl, C2, xF2, hw2, can2, q⟩ | ⟨T0, hT, ty, q⟩
    · obtain ⟨vs2, C3, da2⟩ := C2.ex (Evl.Ex.refl _) xF2
      obtain ⟨v, hv, dv⟩ := dpA_get da (i := 0) (d := r.d) (by rw [List.getElem?_map, hw] <;> rfl)
      obtain ⟨v2, hv2, dv2⟩ := dpA_get da2 (i := 0) (d := r2.d) (by rw [List.getElem?_map, hw2] <;> rfl)
      refine ⟨_, rfl, .ref A2.p, .ref (He.ga K "Code"), _, _, true, rfl, .own _, FcO.ty_ins (c_Code T) (eq_Code T) C3.ob, (eq_Code T).same, _, rfl, itT rfl ?_⟩
      refine ⟨_, rfl, A.p, _, _, _, _, rfl, C1.ob, c_Code T, na_Code_statements T, fl_Code_statements _ _ _ _ _, A.a1, _, _, v, rfl, rfl, Evl.sq_of C1.h1, atI_nat (j := 0) hv, ?_⟩
      refine ⟨_, rfl, A2.p, _, _, _, _, rfl, C3.ob, c_Code T, na_Code_statements T, fl_Code_statements _ _ _ _ _, A2.a1, _, _, v2, rfl, rfl, Evl.sq_of C3.h1, atI_nat (j := 0) hv2, ?_⟩
      exact ⟨_, _, dp_ex xF dv, dp_ex xF2 dv2, can, can2, Nat.le_trans (Nat.min_le_left _ _) dep, q⟩
    · exact ⟨_, rfl, y, .ref (He.ga K "Code"), _, _, false, rfl, .own _, ty, (eq_Code T).no T0 hT, _, rfl, itF rfl q⟩
end

end Fc

set_option maxRecDepth 100000
set_option maxHeartbeats 4000000
namespace Fc
open PySem PySem.Spec PyProof.Rows L2 FcR
open Evl (Ex)
open TL (tl)
/-- what read asks of the text of a statement -/
theorem rd_of {w : Nat} {d : PyData} {x : Str} (ok : OkS 0 1 0 w d) (hw : w ≤ 400) (ex : Txt.join " " (wordsD d) = x) : ∃ fin r, TD d w fin ∧ fin[0]? = some r ∧ r.d = d ∧ GS d ∧ x.length ≤ 900000 ∧ (Txt.split x " ").length ≤ 2000 ∧ Lens (Txt.split x " ") ∧ readAll (Txt.split x " ") = .inr d ∧ d.depth ≤ 200 ∧ PyData.canLay0 d = true ∧ fin.length = w := by
  obtain ⟨fin, td, fl⟩ := td_of ok rfl hw
  obtain ⟨r, hr, er⟩ := td.r0
  subst ex
  have gs := okS_gs ok hw
  have dep := okS_depth ok hw
  refine ⟨fin, r, td, hr, er, gs, Nat.le_trans td.tl_ (by decide), ?_, ?_, ?_, by omega, (gs_parts gs).1, fl⟩
  · rw [td.sp]; exact Nat.le_trans td.wl (by decide)
  · rw [td.sp]; exact fun x hx => Nat.le_trans (td.wo x hx).1 (by decide)
  · rw [td.sp]; exact td.rd
theorem neS (t : Str) : (!decide (V.str t = V.str t)) = false := by rw [decide_eq_true rfl] <;> rfl
theorem len_app (a b : Str) : (a ++ b).length = a.length + b.length := by rw [TL.len_tl, TL.tl_append, List.length_append, ← TL.len_tl, ← TL.len_tl]
theorem ob_code {K : PySem.W.Frag} {A : CAd} {F H' : Hp} {rows : List Row} (C : CodeH K F F A rows) (x : Ex F H') : H' A.p = some (.ins (He.ga K "Code") A.dx (cFs A)) := by
  obtain ⟨vs, C1, _⟩ := C.ex (Evl.Ex.refl _) x
  exact C1.ob

end Fc

set_option maxRecDepth 100000
set_option maxHeartbeats 4000000
namespace Fc
open PySem PySem.Spec PyProof.Rows L2 FcR
open Evl (Ex)
/-! ### k71: of_code, what is known of what is read -/
open TL (tl)
def S_Code (K : PySem.W.Frag) : Sp → Prop := fun sp => sp = sp_Code___init__ K ∨ sp = sp_Code___init__X K
def sp_ofcode (K : PySem.W.Frag) : Sp := fun vs H Q _ => ∃ (F : Hp) (v : V) (d : PyData), vs = [v] ∧ Ex F H ∧ Dp K F v d ∧ GS d ∧ (
  (∃ (N : Nat) (fin : List Row), Builds N [⟨d, none, 1, 0, 0⟩] [] fin ∧ ∀ (A : CAd) (F' H' : Hp) (t : Addr), Gr (fun _ => False) F H F' H' → H A.p = none → CodeH K F' F' A fin → H' t = some (.tup [.str "code", .ref A.p]) → Q (.ref t) H') ∨
  (∃ (N : Nat) (f : Str × Str × Int) (g : Str), Fails N [⟨d, none, 1, 0, 0⟩] [] f ∧ Tag f g ∧ ∀ (H' : Hp) (t : Addr), Ex H H' → H' t = some (.tup [.str g, .int f.2.2]) → Q (.ref t) H'))
theorem rdg_all {d : PyData} (h : RdG d) : ∀ e ∈ preD d, RdG e := by
  induction h with
  | @mk hd ps m l g hl h ih =>
    intro e he
    rw [preD_eq] at he
    rcases List.mem_cons.mp he with z | z
    · rw [z]; exact .mk g hl h
    · obtain ⟨q, hq, hqe⟩ := List.mem_flatMap.mp z
      have pd : partsD (builtD hd ps) = ps := rdg_parts g hl
      rw [pd] at hq
      exact ih q hq e hqe
theorem rdg_facts {e : PyData} (h : RdG e) : (partsD e).length ≤ 400 ∧ (∀ k : Int, labD e = .int k → k.natAbs ≤ 1000) ∧ ∀ x ∈ hdW e, WOk x := by
  cases h with
  | @mk hd ps m l g hl h =>
    rw [rdg_parts g hl]
    have w2 : ∀ {a b : Str}, WOk a → WOk b → ∀ x ∈ [a, b], WOk x := fun {a b} h1 h2 x hx => by
      simp only [List.mem_cons, List.not_mem_nil, or_false] at hx
      rcases hx with z | z <;> rw [z]
      · exact h1
      · exact h2
    have w1 : ∀ {a : Str}, WOk a → ∀ x ∈ [a], WOk x := fun {a} h1 x hx => by rw [List.mem_singleton.mp hx]; exact h1
    have kk : ∀ L : List Str, (∀ x ∈ L, x ∈ (["do", "call", "if", "while", "seq", "break", "continue", "return", "raise", "try", "final"] : List Str)) → ∀ {k : Str}, k ∈ L → WOk k := fun L hL k hk => wok_kind (hL k hk)
    have hw : hdW (builtD hd ps) = l := by
      cases g with
      | rr hk =>
        rw [List.length_eq_zero_iff.mp hl]
        simp only [kRR, List.mem_cons, List.not_mem_nil, or_false] at hk
        rcases hk with rfl | rfl <;> rfl
      | tf hk =>
        obtain ⟨a, b, rfl⟩ := len_two hl
        simp only [kTF, List.mem_cons, List.not_mem_nil, or_false] at hk
        rcases hk with rfl | rfl <;> rfl
      | @nm k x mm hk hx =>
        have mm := lookup_mem hk
        simp only [kPrt, List.mem_cons, List.not_mem_nil, or_false, Prod.mk.injEq] at mm
        rcases mm with ⟨rfl, rfl⟩ | ⟨rfl, rfl⟩ | ⟨rfl, rfl⟩ | ⟨rfl, rfl⟩ <;> rfl
      | seq h1 h2 =>
        show [Str.ofString "seq", Str.ofString (toString ((partsD (builtD [.str "seq"] ps)).length : Int))] = _
        rw [rdg_parts (.seq h1 h2) hl, hl]
      | jmp hk h1 h2 =>
        rw [List.length_eq_zero_iff.mp hl]
        simp only [kJumps, List.mem_cons, List.not_mem_nil, or_false] at hk
        rcases hk with rfl | rfl <;> rfl
    rw [hw]
    cases g with
    | rr hk =>
      refine ⟨by omega, fun k e => ?_, w1 (kk kRR (by decide +kernel) hk)⟩
      rw [List.length_eq_zero_iff.mp hl] at e
      simp only [kRR, List.mem_cons, List.not_mem_nil, or_false] at hk
      rcases hk with rfl | rfl <;> cases e
    | tf hk =>
      refine ⟨by omega, fun k e => ?_, w1 (kk kTF (by decide +kernel) hk)⟩
      simp only [kTF, List.mem_cons, List.not_mem_nil, or_false] at hk
      rcases hk with rfl | rfl <;> cases e
    | @nm k x mm hk hx =>
      have m' := lookup_mem hk
      refine ⟨?_, fun k' e => ?_, w2 (kk (kPrt.map (·.1)) (by decide +kernel) (List.mem_map_of_mem (f := Prod.fst) m')) (wok_name hx)⟩
      · simp only [kPrt, List.mem_cons, List.not_mem_nil, or_false, Prod.mk.injEq] at m'
        omega
      · simp only [kPrt, List.mem_cons, List.not_mem_nil, or_false, Prod.mk.injEq] at m'
        rcases m' with ⟨rfl, rfl⟩ | ⟨rfl, rfl⟩ | ⟨rfl, rfl⟩ | ⟨rfl, rfl⟩ <;> cases e
    | seq h1 h2 => exact ⟨by omega, fun k e => (by cases e), w2 (kk ["seq"] (by decide +kernel) List.mem_cons_self) (wok_num h2)⟩
    | @jmp k n hk h1 h2 =>
      refine ⟨by omega, fun k' e => ?_, w2 (kk kJumps (by decide +kernel) hk) (wok_num h2)⟩
      simp only [kJumps, List.mem_cons, List.not_mem_nil, or_false] at hk
      rcases hk with rfl | rfl <;> (cases e; omega)
theorem rdg_depth {d : PyData} (h : RdG d) : d.depth ≤ 2 * (preD d).length := by
  induction h with
  | @mk hd ps m l g hl h ih =>
    obtain ⟨pl, _⟩ := rdg_pre g hl h
    have hm : PyData.depthAll ps ≤ 2 * (ps.map fun p => (preD p).length).sum := depth_all fun p hp => by
      have := ih p hp
      have := sum_mem (List.mem_map_of_mem (f := fun p => (preD p).length) hp)
      omega
    rw [pl]
    have hdd : PyData.depthAll hd ≤ 1 := by
      cases g <;> simp [PyData.depthAll, PyData.depth]
    have app : ∀ a b : List PyData, PyData.depthAll (a ++ b) ≤ max (PyData.depthAll a) (PyData.depthAll b) := fun a b => by
      induction a with
      | nil => simp [PyData.depthAll]
      | cons x a ih' => simp only [List.cons_append, PyData.depthAll]; omega
    unfold builtD
    split
    · simp only [PyData.depth]
      rw [show PyData.depthAll [PyData.str (Str.ofString "seq"), .tuple ps] = max (PyData.depth (.str "seq")) (max (PyData.depth (.tuple ps)) 0) from rfl]
      simp only [PyData.depth]
      omega
    · simp only [PyData.depth]
      have := app hd ps
      omega
theorem Builds.fin_lenB {m : Nat} {st : List WIt} {rows fin : List Row} (b : Builds m st rows fin) : fin.length = rows.length + m := by
  induction b with
  | done => rfl
  | step ok h ih => rw [ih, addRow_len]; omega
/-- all that is known of a code that is read -/
structure RC (d : PyData) (fin : List Row) : Prop where
  r0 : ∃ r, fin[0]? = some r ∧ r.d = d
  ln : fin.length ≤ 400
  fw : fin.flatMap wordsR = wordsD d
  sh : ∀ r ∈ fin, r.ch.length ≤ 400 ∧ (∀ k : Int, labD r.d = .int k → k.natAbs ≤ 1000) ∧ ∀ x ∈ wordsR r, x.length ≤ 20
theorem rc_of {d : PyData} {N : Nat} {fin : List Row} (h : RdG d) (bd : Builds N [⟨d, none, 1, 0, 0⟩] [] fin) : RC d fin := by
  have pre := builds_pre bd
  simp only [List.map_nil, List.nil_append, List.flatMap_cons, List.flatMap_nil, List.append_nil] at pre
  obtain ⟨ls, bi⟩ := BI.all bd (BI.start d)
  have fl := Builds.fin_lenB bd
  refine ⟨?_, ?_, builds_words bd, fun r hr => ?_⟩
  · have e : fin.map Row.d = d :: (partsD d).flatMap preD := by rw [pre, preD_eq]
    cases fin with
    | nil => cases e
    | cons r fin => exact ⟨r, rfl, (List.cons.inj e).1⟩
  · rcases Builds.bd bd with z | z
    · subst z
      cases bd
    · simp at z fl
      omega
  · obtain ⟨n, hn⟩ := List.mem_iff_getElem?.mp hr
    have hm : r.d ∈ preD d := by rw [← pre]; exact List.mem_map_of_mem hr
    obtain ⟨f1, f2, f3⟩ := rdg_facts (rdg_all h _ hm)
    have cl : r.ch.length = (partsD r.d).length := by
      have z := congrArg List.length (bi.pt n r hn)
      simpa using z
    have ew : wordsR r = hdW r.d := by unfold wordsR hdW; rw [cl]
    exact ⟨by omega, f2, fun x hx => (f3 x (by rw [← ew]; exact hx)).1⟩
section
variable {P : Program} {w : World} {h : Heap} {K : PySem.W.Frag} {mg : Str → Option Value} {base : Heap}
theorem heldCode (T : Tx w h K mg) : ∀ sp, S_Code K sp → FcX.HeldX P w K mg base 6 (He.fAd K ("Code", some "__init__")) sp := by
  rintro sp (rfl | rfl)
  · obtain ⟨fd, G, b, k⟩ := ok_Code___init__ (P := P) (base := base) T
    exact ⟨fd, _, G, k, b⟩
  · obtain ⟨fd, G, b, k⟩ := ok_Code___init__X (P := P) (base := base) T
    exact ⟨fd, _, G, k, b⟩
abbrev N_law_of_code : List Str := ["_law_statement_here", "e"]
theorem sc_law_of_code : FnScope N_law_of_code ["_law_statement_here"] (defScope sd_law_of_code) := ⟨rfl, rfl, rfl, by decide +kernel, rfl, by decide +kernel, by decide +kernel⟩
theorem ok_law_of_code (T : Tx w h K mg) : Ok P w K mg base 8 ("_law_of_code", none) ["_law_statement_here"] (sp_ofcode K) := by
  obtain ⟨fd, F⟩ := F_law_of_code T
  refine ⟨fd, ?_, F.bindsN (fun _ _ _ _ _ _ us hl => match us, hl with | [_], _ => rfl), F.kp⟩
  refine F.ok sc_law_of_code (fun vs H Q E h => ?_) (fun cdv A outer s H vs Q E hr h => ?_)
  · obtain ⟨F, v, d, rfl, xF, dv, gs, alt⟩ := h
    rfl
  · obtain ⟨F, v, d, rfl, xF, dv, gs, alt⟩ := h
    refine ⟨_, PSs.nox (pss_one (FcX.ps_try_mix rfl rfl sc_law_of_code.nd takes_none5 (fun W pn xe tk pw => (pss_one (ps_ret (pe_tup (pa_cons pe_str (pa_cons (FcX.pe_makeS (heldCode (P := P) (base := base) T) (mk_Code T) (hr.mono (by decide)) rfl (g_Code T) tk (pa_cons (pv 0) pa_nil)) pa_nil)))))) (.as (i := 1) rfl rfl ⟨rfl, by decide, .inl (g_CopyError T)⟩ (fun a oe cls d pn hz hf => (pss_cons (ps_if (pt_val (pe_callB (FcX.call_isP hz hf) rfl (fr_isinstance T) b_isinstance (pa_cons (pv 1) (pa_cons (pe_glob (v := .ref (He.ga K "LimitExceeded")) rfl (g_LimitExceeded T) rfl) pa_nil)))) (pss_one (ps_ret (pe_tup (pa_cons pe_str (pa_cons (pe_xf (FcX.XC.xf (x_LimitExceeded T)) (xi_LimitExceeded T).no hz hf (pv 1)) pa_nil))))) pss_nil) (pss_one (ps_ret (pe_ifExp (pt_val (pe_callB (FcX.call_isP hz hf) rfl (fr_isinstance T) b_isinstance (pa_cons (pv 1) (pa_cons (pe_glob (v := .ref (He.ga K "InvalidCode")) rfl (g_InvalidCode T) rfl) pa_nil)))) (pe_tup (pa_cons pe_str (pa_cons (pe_xf (FcX.XC.xf (x_InvalidCode T)) (xi_InvalidCode T).no hz hf (pv 1)) pa_nil))) (pe_tup (pa_cons pe_str (pa_cons pe_int pa_nil)))))))) .nil))), ?_⟩
    rcases alt with ⟨N, fin, bd, q⟩ | ⟨N, f, g, bd, tg, q⟩
    · refine ⟨_, rfl, _, .inl rfl, fun p dx np nd ne => ?_⟩
      generalize e1 : upd (upd _ dx _) p _ = H1
      obtain ⟨x1, hq1⟩ := make_of e1 np nd
      clear e1
      refine ⟨F, p, dx, v, d, GS, N, fin, rfl, hq1, xF.trans x1, ex_none xF np, dv, fun e he => gs_parts he, gs, bd, fun A F2 H2 eA g2 C2 => ⟨rfl, ?_⟩⟩
      subst eA
      refine ⟨sz (by simp), ?_⟩
      intro p3 n3
      generalize e3 : upd _ p3 _ = H3
      obtain ⟨x3, s3, o3⟩ := new_of e3 n3
      clear e3
      have gg : Gr (fun _ => False) F H F2 H2 := (Gr.new (M := fun _ => False) xF x1).hide g2 fun z hz => .inl (by rw [hz]; exact np)
      exact q A F2 H3 p3 (gg.trans (Gr.new gg.fh x3)) np C2 s3
    · refine ⟨_, rfl, _, .inr rfl, fun p dx np nd ne => ?_⟩
      generalize e1 : upd (upd _ dx _) p _ = H1
      obtain ⟨x1, hq1⟩ := make_of e1 np nd
      clear e1
      refine ⟨F, p, dx, v, d, GS, N, f, rfl, hq1, xF.trans x1, ex_none xF np, dv, fun e he => gs_parts he, gs, bd, fun H2 dd k2 nd2 hd2 => ?_⟩
      have x2 : Ex H H2 := fun b o hb => k2 b o (x1 _ _ hb) (fun z => by rw [z, np] at hb; cases hb)
      cases tg with
      | text i =>
        rcases fails_cls bd with ⟨z, _⟩ | ⟨z, _⟩
        · exact absurd (show (Str.ofString "InvalidText") = "LimitExceeded" from z) (by decide +kernel)
        · exact absurd (show (Str.ofString "InvalidText") = "InvalidCode" from z) (by decide +kernel)
      | limit i =>
        refine ⟨true, FcX.xh_own (xh T) (c := "LimitExceeded") (d := "CopyError") (by decide) (by decide), fun _ a na => ?_, fun z => by cases z⟩
        refine ⟨_, rfl, He.ga K "LimitExceeded", _, _, true, dd, _, rfl, .own _, x_LimitExceeded T, rfl, rfl, hd2, FcX.xk_own (xk T) (c := "LimitExceeded") (d := "LimitExceeded") (by decide) (by decide), _, rfl, itT rfl ?_⟩
        refine ⟨_, rfl, rfl, rfl, dd, _, _, rfl, hd2, rfl, sz (by simp), ?_⟩
        intro p3 n3
        generalize e3 : upd _ p3 _ = H3
        obtain ⟨x3, s3, o3⟩ := new_of e3 n3
        clear e3
        exact q H3 p3 (x2.trans x3) s3
      | number i =>
        refine ⟨true, FcX.xh_own (xh T) (c := "InvalidCode") (d := "CopyError") (by decide) (by decide), fun _ a na => ?_, fun z => by cases z⟩
        refine ⟨_, rfl, He.ga K "InvalidCode", _, _, false, dd, _, rfl, .own _, x_InvalidCode T, rfl, rfl, hd2, FcX.xk_own (xk T) (c := "InvalidCode") (d := "LimitExceeded") (by decide) (by decide), _, rfl, itF rfl ?_⟩
        refine ⟨_, rfl, He.ga K "InvalidCode", _, _, true, dd, _, rfl, .own _, x_InvalidCode T, rfl, rfl, hd2, FcX.xk_own (xk T) (c := "InvalidCode") (d := "InvalidCode") (by decide) (by decide), _, rfl, itT rfl ?_⟩
        refine ⟨_, rfl, rfl, rfl, dd, _, _, rfl, hd2, rfl, sz (by simp), ?_⟩
        intro p3 n3
        generalize e3 : upd _ p3 _ = H3
        obtain ⟨x3, s3, o3⟩ := new_of e3 n3
        clear e3
        exact q H3 p3 (x2.trans x3) s3
end

end Fc

set_option maxRecDepth 100000
set_option maxHeartbeats 4000000
namespace FcO
open PySem PySem.Spec PyProof.Rows L2
open PySem.SeqAt
/-! ### != of two pairs, the second items by their own == -/
theorem tuple_neTwo {prog : Program} {w : World} {A : Around} {R : Result → Shared → Prop} {s : Shared} (l b : Addr) (y0 y1 x0 x1 : Value) (n n2 : Nat) (dd dd2 : Option Addr) (sl sl2 : Array (Option Value))
    (hl : s.heap.get? l = some { cls := .type "tuple", dict := dd, data := .seq #[y0, y1] n, slots := sl }) (hb : s.heap.get? b = some { cls := .type "tuple", dict := dd2, data := .seq #[x0, x1] n2, slots := sl2 })
    (h0 : EqAt A.in1 s y0 x0 true) (h1 : wpAny (model prog w) A.in1 (eqBool y1 x1) (fun r s' => R (.ok (.ret (.bool (!r)))) s') (fun e s' => R (.error e) s') s) :
    wpAny (model prog w) A.in1 (Builtin.«tuple.__ne__» ⟨[.ref l, .ref b], []⟩) (fun fin s' => ∃ v, fin = .done (.ret v) ∧ R (.ok (.ret v)) s') (fun e s' => R (.error e) s') s := by
  have f2 := AutoSeq1.sub_tuple_tuple
  obtain ⟨hp, g, d, tk, os⟩ := s
  wp_walk using wpAny_loadPart' hl, wpAny_loadPart' hb, wpAny_forIn_list _ (fun rest b s' => b.1 = none ∧ ((rest = [(y0, x0), (y1, x1)] ∧ s' = ⟨hp, g, d, tk, os⟩) ∨ (rest = [(y1, x1)] ∧ s' = ⟨hp, g, d, tk, os⟩) ∨ (rest = [] ∧ R (.ok (.ret (.bool false))) s'))) _
  case turn =>
    rintro ⟨y, x⟩ rest b s' ⟨hb', hi⟩
    rcases hi with ⟨hz, rfl⟩ | ⟨hz, rfl⟩ | ⟨hz, _⟩
    · injection hz with hyx hrest
      cases hyx
      refine wpAny_bind (h0 prog w _ _ ?_)
      wp_walk
      exact ⟨rfl, .inr (.inl ⟨hrest, rfl⟩)⟩
    · injection hz with hyx hrest
      cases hyx
      refine wpAny_bind (wpAny_mono h1 (fun r s1 hr => ?_) fun _ _ e => e)
      cases r with
      | true =>
        wp_walk
        exact ⟨rfl, .inr (.inr ⟨hrest, hr⟩)⟩
      | false =>
        wp_walk
        exact ⟨_, rfl, hr⟩
    · cases hz
  case fin =>
    rintro ⟨b1, b2⟩ s' ⟨hb', hi⟩
    simp only at hb'
    subst hb'
    rcases hi with ⟨hz, rfl⟩ | ⟨hz, rfl⟩ | ⟨hz, hR⟩
    · cases hz
    · cases hz
    · wp_walk
      exact ⟨_, rfl, by simpa [Builtin.Tuple.tupleCompareSizes, bne] using hR⟩
  case h =>
    exact ⟨rfl, .inl ⟨rfl, rfl⟩⟩
def rNeT2 (K : PySem.W.Frag) (C : Addr) (sp : Sp) (E : XK) : R2 := fun x y H Q => ∃ (t1 t2 a1 a2 dx : Addr) (g : Str) (fs : List (Str × V)) (tb : Value), x = .ref t1 ∧ y = .ref t2 ∧ H t1 = some (.tup [.str g, .ref a1]) ∧ H t2 = some (.tup [.str g, .ref a2]) ∧ a1 ≠ a2 ∧ H a1 = some (.ins C dx fs) ∧ TyX K H (.ref a2) tb ∧ PySem.W.notFirst K C tb = true ∧ sp [.ref a1, .ref a2] H (fun v H' => ∃ b, v = .bl b ∧ Q (.bl (!b)) H') E
section
variable {X : Cx} {CX : CXT} {C f : Addr} {fd : FuncData} {ps : List Str} {sp : Sp} {E : XK} {k : Nat}
theorem op_neT2 (G : FnOk X.prog X.w X.K X.mg X.base CX k f fd ps sp) (hr : Room (k + 2) X.A) (hm : Meth X.K C "__eq__" f) (hb : Binds X.K fd ps []) (hx : Passes CX X E) : OpR X (compareOp .NotEq) (rNeT2 X.K C sp E) := by
  intro pins s σ H x y v u Q I rx ry h
  obtain ⟨t1, t2, a1, a2, dx, g, fs, tb, rfl, rfl, ht1, ht2, ne, ha, ty, nf, q⟩ := h
  obtain rfl : v = Value.ref t1 := rx
  obtain rfl : u = Value.ref t2 := ry
  obtain ⟨i1, r1, p1, _⟩ := I.tuple (a := t1) (Evl.st_of ht1)
  obtain ⟨i2, r2, p2, _⟩ := I.tuple (a := t2) (Evl.st_of ht2)
  obtain ⟨y0, y1, rfl, ry0, ry1⟩ := vals2 r1
  obtain ⟨x0, x1, rfl, rx0, rx1⟩ := vals2 r2
  obtain ⟨k0, rfl⟩ := ry0
  obtain ⟨k1, rfl⟩ := rx0
  obtain rfl : y1 = Value.ref a1 := ry1
  obtain rfl : x1 = Value.ref a2 := rx1
  obtain ⟨mA, J, _⟩ := ins_get I.hok ha
  obtain ⟨od, J, _⟩ := J.look
  obtain ⟨Pk, kx, pk, _⟩ := kit_of I (show L2.RelV (.ref a2) (Value.ref a2) from rfl) ty
  obtain ⟨m, hF⟩ := I.fr
  have hr1 : Room (k + 1) X.A.in1 := hr.in1
  have hr2 : Room k X.A.in1.in1 := hr1.in1
  obtain ⟨⟨cls, dd, data, sl⟩, ho, hc, n, hd⟩ := id p1
  obtain ⟨⟨cls2, dd2, data2, sl2⟩, ho2, hc2, n2, hd2⟩ := id p2
  simp only at hc hd hc2 hd2
  subst hc hd hc2 hd2
  show wpAny (model X.prog X.w) X.A (richCompare .NotEq (.ref t1) (.ref t2)) (EP X pins σ Q) X.xe s
  refine wpAny_richCompare_same_room (op := .NotEq) ⟨_, ho, rfl⟩ ⟨_, ho2, rfl⟩ PySem.F.slot_tuple_ne ?_ (by have := hr.un; omega)
  refine wpAny_call (codeAny_call_builtin PySem.F.slot_tuple_ne.plain PySem.F.entry_tuple_ne (PySem.F.slot_tuple_ne.check _ _ _ _ _ _ _ _ ⟨_, ho, rfl⟩ (PySem.F.args_tuple_ne_2 _ _) ?_))
  refine wpAny_mono (tuple_neTwo (R := wants (fun v s' => v ≠ .notImplemented ∧ EP X pins σ Q v s') X.xe) t1 t2 _ _ _ _ n n2 dd dd2 sl sl2 ho ho2 ?_ ?_) (fun fin s' h' => by obtain ⟨v, rfl, hv⟩ := h'; exact hv) (fun _ _ x => x)
  · have z := SeqAt.EqAt.str_str (A := X.A.in1) (s := s) g k0 g k1
    rw [beq_self_eq_true] at z
    exact z
  · unfold eqBool
    refine wpAny_holding ?_
    refine wpAny_ite_split (fun hab => absurd (by have := eq_of_beq hab; injection this) ne) (fun _ => ?_)
    refine wpAny_bind (PySem.W.cmp_K (op := .Eq) (tb := tb) hr1.units0 hF I.ok.mod.kin J (kx.ty _ _ I.kIn pk) nf hm.at_ hm.fn ?_)
    refine wpAny_mono (run_sub G ⟨hr1.mono (Nat.le_succ _), rfl⟩ hb hx I (.cons (show L2.RelV (.ref a1) (Value.ref a1) from rfl) (.cons (show L2.RelV (.ref a2) (Value.ref a2) from rfl) .nil)) q) (fun r s1 hv => ?_) fun _ _ e => e
    obtain ⟨z, H1, I1, rz, b, rfl, q1⟩ := hv
    cases rz
    exact wpAny_truthy_bool ⟨(fun z => nomatch z), .bl (!b), H1, I1, rfl, q1⟩
end
end FcO

set_option maxRecDepth 100000
set_option maxHeartbeats 4000000
namespace Fc
open PySem PySem.Spec PyProof.Rows L2 FcR
open Evl (Ex)
/-! ### k71: right -/
open TL (tl)
/-- words that may be read -/
def Wds (ws : List Str) : Prop := ws ≠ [] ∧ ws.length ≤ 60 ∧ ∀ x ∈ ws, 32 ∉ tl x ∧ x.length ≤ 6000
def sp_right (K : PySem.W.Frag) : Sp := fun vs H Q _ => ∃ (a : Addr) (ws : List Str), vs = [.ref a] ∧ H a = some (.lst (ws.map V.str)) ∧ Wds ws ∧ ∀ H', Ex H H' → Q (.bl true) H'
theorem wds_split {ws : List Str} (h : Wds ws) : Txt.split (Txt.join " " ws) " " = ws := TL.split_join (s := 32) (S := []) (by decide +kernel) (by decide +kernel) h.1 fun p hp => (h.2.2 p hp).1
theorem can_txt (i : Int) : PyData.canLay0 (.tuple [.str "text", .int i]) = true := by kernel_rfl
theorem can_tag {f : Str × Str × Int} {g : Str} (h : Tag f g) (i : Int) : PyData.canLay0 (.tuple [.str g, .int i]) = true := by cases h <;> kernel_rfl
theorem eqv_two (g : Str) (i : Int) : PyData.eqv (.tuple [.str g, .int i]) (.tuple [.str g, .int i]) = true := by simp [PyData.eqv, PyData.eqvAll]
theorem tag_code {f : Str × Str × Int} {g : Str} (h : Tag f g) : ¬ g = "code" := by cases h <;> decide +kernel
theorem tag_of {N : Nat} {st : List WIt} {rows : List Row} {f : Str × Str × Int} (h : Fails N st rows f) : ∃ g, Tag f g := by
  obtain ⟨a, b, c⟩ := f
  rcases fails_cls h with ⟨h1, h2⟩ | ⟨h1, h2⟩
  · cases h1; cases h2; exact ⟨_, .limit c⟩
  · cases h1; cases h2; exact ⟨_, .number c⟩
section
variable {P : Program} {w : World} {h : Heap} {K : PySem.W.Frag} {mg : Str → Option Value} {base : Heap}
abbrev N_law_right : List Str := ["_law_words_here", "_law_text", "_law_wrong_here", "_law_found"]
theorem sc_law_right : FnScope N_law_right ["_law_words_here"] (defScope sd_law_right) := ⟨rfl, rfl, rfl, by decide +kernel, rfl, by decide +kernel, by decide +kernel⟩
theorem ok_law_right (T : Tx w h K mg) : Ok P w K mg base 80 ("_law_right", none) ["_law_words_here"] (sp_right K) := by
  obtain ⟨fd, F⟩ := F_law_right T
  refine ⟨fd, ?_, F.bindsN (fun _ _ _ _ _ _ us hl => match us, hl with | [_], _ => rfl), F.kp⟩
  obtain ⟨fd_law_of_code, G_law_of_code, bi_law_of_code, kp_law_of_code⟩ := ok_law_of_code (P := P) (base := base) T
  obtain ⟨fd_law_outcome, G_law_outcome, bi_law_outcome, kp_law_outcome⟩ := ok_law_outcome (P := P) (base := base) T
  obtain ⟨fd_law_wrong, G_law_wrong, bi_law_wrong, kp_law_wrong⟩ := ok_law_wrong (P := P) (base := base) T
  obtain ⟨fd_show, G_show, bi_show, kp_show⟩ := ok_show (P := P) (base := base) T
  obtain ⟨fd_ceq, G_ceq, bi_ceq, kp_ceq⟩ := ok_Code___eq__ (P := P) (base := base) T
  obtain ⟨fd_law_built, G_law_built, bi_law_built, kp_law_built⟩ := ok_lbuilt (P := P) (base := base) T 60
  refine F.ok sc_law_right (fun vs H Q E h => ?_) (fun cdv A outer s H vs Q E hr h => ?_)
  · obtain ⟨a, ws, rfl, ha, hw, q⟩ := h
    rfl
  · obtain ⟨a, ws, rfl, ha, hw, q⟩ := h
    refine ⟨_, PSs.nox (pss_cons (ps_par rfl sc_law_right.nd (i := 1) (j := 2) rfl rfl (by decide) rfl rfl (pa_cons (pe_bm PySem.F.plainAttrs_str PySem.F.slot_str_join PySem.F.type_str_join mt_join pe_str (pa_cons (pv 0) pa_nil)) (pa_cons (pe_call G_law_wrong (hr.mono (by decide)) rfl (g_law_wrong T) kp_law_wrong bi_law_wrong .nil passF (pa_cons (pv 0) pa_nil)) pa_nil)) (by rfl)) (pss_cons (ps_set (i := 3) sc_law_right.nd rfl (Or.inl rfl) (pe_call G_law_outcome (hr.mono (by decide)) rfl (g_law_outcome T) kp_law_outcome bi_law_outcome .nil passF (pa_cons (pv 1) pa_nil))) (pss_cons (ps_if (pt_cmpR op_notN (pv 2) pe_non (nomark _)) (pss_one (ps_ret (pe_cmpR (op_eqM hr) (pv 3) (pe_tup (pa_cons pe_str (pa_cons (pv 2) pa_nil))) (nomark _)))) pss_nil) (pss_cons (ps_if (pt_cmpR (OpR.or (op_neM hr) (FcO.op_neT2 G_ceq (hr.mono (by decide)) (me_Code___eq__ T) bi_ceq passF)) (pv 3) (pe_call G_law_of_code (hr.mono (by decide)) rfl (g_law_of_code T) kp_law_of_code bi_law_of_code .nil passF (pa_cons (pe_ix ix_tup (pe_call G_law_built (hr.mono (by decide)) rfl (g_law_built T) kp_law_built bi_law_built .nil passF (pa_cons (pv 0) (pa_cons pe_int pa_nil))) pe_int (fun _ _ => rfl)) pa_nil)) (nomark _)) (pss_one (ps_ret pe_bl)) pss_nil) (pss_one (ps_ret (pe_or (pe_cmpR op_ne (pe_ix ix_tup (pv 3) pe_int (fun _ _ => rfl)) pe_str (nomark _)) (pe_one (pe_cmpR op_eq (pe_call G_show (hr.mono (by decide)) rfl (g_show T) kp_show bi_show .nil passF (pa_cons (pe_ix ix_tup (pv 3) pe_int (fun _ _ => rfl)) pa_nil)) (pv 1) (nomark _)))))))))), ?_⟩
    have sq : SqL K H a (ws.map V.str) := Evl.sq_of ha
    have sp := wds_split hw
    obtain ⟨w1, w2, w3⟩ := hw
    have lens : Lens ws := fun x hx => by have := (w3 x hx).2; omega
    have tl9 : (Txt.join " " ws).length ≤ 900000 := by
      have := text_len (l := ws) (m := 6000) (n := 60) (fun x hx => (w3 x hx).2) w2
      omega
    refine ⟨rfl, _, rfl, " ", a, ws, rfl, rfl, .inl sq, ?_, ?_⟩
    · have e1 : ((" " : Str)).length = 1 := by decide +kernel
      have h1 := sum_len (l := ws) (m := 6000) fun x hx => (w3 x hx).2
      rw [e1]
      omega
    refine ⟨_, rfl, a, ws, rfl, sq, lens, by omega, fun H1 x1 => ?_⟩
    refine ⟨_, _, rfl, ?_⟩
    have l2k : (Txt.split (Txt.join " " ws) " ").length ≤ 2000 := by rw [sp]; omega
    have lensS : Lens (Txt.split (Txt.join " " ws) " ") := by rw [sp]; exact lens
    have h0 : Ex hp0 H1 := fun b o z => by cases z
    cases er : readAll ws with
    | inl j =>
      refine ⟨_, rfl, _, rfl, .inr ⟨_, "text", .bad tl9 l2k lensS (by rw [sp]; exact er), .text _, fun H2 t x2 h2 => ?_⟩⟩
      refine ⟨_, rfl, rfl, _, rfl, itT rfl ?_⟩
      refine ⟨_, rfl, _, rfl, sz (by simp), ?_⟩
      intro p3 n3
      generalize e3 : upd _ p3 _ = H3
      obtain ⟨x3, s3, o3⟩ := new_of e3 n3
      clear e3
      refine ⟨.tuple [.str "text", .int (j : Int)], .tuple [.str "text", .int (j : Int)], .tup (Evl.st_of (x3 _ _ h2)) (.cons (.str _) (.cons (.int _) .nil)), .tup (Evl.st_of s3) (.cons (.str _) (.cons (.int _) .nil)), can_txt _, can_txt _, Nat.le_trans (Nat.min_le_left _ _) (by simp [PyData.depth, PyData.depthAll]), ?_⟩
      rw [eqv_two]
      exact q H3 (x1.trans (x2.trans x3))
    | inr d =>
      obtain ⟨gd, wd⟩ := read_text er
      have rg := gd.2.2
      have erS : readAll (Txt.split (Txt.join " " ws) " ") = .inr d := by rw [sp]; exact er
      have pre6 : (preD d).length ≤ 60 := by have := pre_le_words d; rw [wd] at this; omega
      have can := gdr_can gd
      have dep : d.depth ≤ 200 := by have := rdg_depth rg; omega
      rcases code_of er (by omega) with ⟨N, fin, bd⟩ | ⟨N, f, bd⟩
      · have rc := rc_of rg bd
        obtain ⟨r, hr0, er0⟩ := rc.r0
        have canr : PyData.canLay0 r.d = true := by rw [er0]; exact can
        refine ⟨_, rfl, _, rfl, .inl ⟨hp0, _, d, N, fin, rfl, h0, tl9, l2k, lensS, erS, gd.1, bd, fun A F2 H2 t g2 C2 h2 => ?_⟩⟩
        have x2 : Ex H1 H2 := g2.ex
        refine ⟨_, rfl, rfl, _, rfl, itF rfl ?_⟩
        have ha2 := x2 _ _ (x1 _ _ ha)
        obtain ⟨Fa, hFa⟩ : ∃ Fa : Hp, Fa = upd hp0 a (.lst (ws.map V.str)) := ⟨_, rfl⟩
        have xFa : Ex Fa H2 := fun b o e => by
          rw [hFa] at e
          by_cases z : b = a
          · rw [z, upd_same] at e; cases e; rw [z]; exact ha2
          · rw [upd_ne z] at e; cases e
        refine ⟨_, rfl, _, rfl, Fa, a, ws, 0, d, [], rfl, xFa, Evl.sq_of (by rw [hFa, upd_same]), by rw [List.drop_zero, wd, List.append_nil], rg, pre6, fun F3 H3 t3 b3 g3 ht3 db3 => ?_⟩
        have x3 : Ex H2 H3 := g3.ex
        refine ⟨t3, _, _, _, rfl, rfl, Evl.st_of ht3, at0, ?_⟩
        refine ⟨F3, .ref b3, d, rfl, g3.fh, db3, gd.1, .inl ⟨N, fin, bd, fun A4 F4 H4 t4 g4 n4 C4 h4 => ?_⟩⟩
        have x4 : Ex H3 H4 := g4.ex
        have ex2 : Ex F2 H4 := g2.fh.trans (x3.trans x4)
        have ne : A.p ≠ A4.p := fun z => by rw [← z, x3 _ _ (ob_code C2 g2.fh)] at n4; cases n4
        refine .inr ⟨t, t4, A.p, A4.p, _, "code", _, .ref (He.ga K "Code"), rfl, rfl, x4 _ _ (x3 _ _ h2), h4, ne, ob_code C2 ex2, FcO.ty_ins (c_Code T) (eq_Code T) (ob_code C4 g4.fh), same_firstC, F2, A, fin, r, _, rfl, C2, ex2, hr0, canr, by rw [er0]; exact dep, .inl ⟨F4, A4, fin, r, rfl, C4, g4.fh, hr0, canr, _, rfl, _, rfl, itF (by rw [PySem.SeqAt.eqv_refl _ canr] <;> rfl) ?_⟩⟩
        refine ⟨_, rfl, t, _, _, _, rfl, rfl, Evl.st_of (x4 _ _ (x3 _ _ h2)), at0, rfl, _, rfl, itF (by rw [decide_eq_true rfl] <;> rfl) ?_⟩
        refine ⟨_, rfl, t, _, _, _, rfl, rfl, Evl.st_of (x4 _ _ (x3 _ _ h2)), at1, F2, A, fin, rfl, C2, ex2, rc.ln, rc.sh, fun H5 x5 => ?_⟩
        rw [rc.fw, wd]
        refine ⟨_, rfl, rfl, ?_⟩
        rw [decide_eq_true rfl]
        exact q H5 (x1.trans (x2.trans (x3.trans (x4.trans x5))))
      · obtain ⟨g, tg⟩ := tag_of bd
        refine ⟨_, rfl, _, rfl, .inr ⟨f, g, .code tl9 l2k lensS erS gd.1 bd, tg, fun H2 t x2 h2 => ?_⟩⟩
        refine ⟨_, rfl, rfl, _, rfl, itF rfl ?_⟩
        have ha2 := x2 _ _ (x1 _ _ ha)
        obtain ⟨Fa, hFa⟩ : ∃ Fa : Hp, Fa = upd hp0 a (.lst (ws.map V.str)) := ⟨_, rfl⟩
        have xFa : Ex Fa H2 := fun b o e => by
          rw [hFa] at e
          by_cases z : b = a
          · rw [z, upd_same] at e; cases e; rw [z]; exact ha2
          · rw [upd_ne z] at e; cases e
        refine ⟨_, rfl, _, rfl, Fa, a, ws, 0, d, [], rfl, xFa, Evl.sq_of (by rw [hFa, upd_same]), by rw [List.drop_zero, wd, List.append_nil], rg, pre6, fun F3 H3 t3 b3 g3 ht3 db3 => ?_⟩
        have x3 : Ex H2 H3 := g3.ex
        refine ⟨t3, _, _, _, rfl, rfl, Evl.st_of ht3, at0, ?_⟩
        refine ⟨F3, .ref b3, d, rfl, g3.fh, db3, gd.1, .inr ⟨N, f, g, bd, tg, fun H4 t4 x4 h4 => ?_⟩⟩
        refine .inl ⟨.tuple [.str g, .int f.2.2], .tuple [.str g, .int f.2.2], .tup (Evl.st_of (x4 _ _ (x3 _ _ h2))) (.cons (.str _) (.cons (.int _) .nil)), .tup (Evl.st_of h4) (.cons (.str _) (.cons (.int _) .nil)), can_tag tg _, can_tag tg _, Nat.le_trans (Nat.min_le_left _ _) (by simp [PyData.depth, PyData.depthAll]), _, rfl, itF (by rw [eqv_two] <;> rfl) ?_⟩
        refine ⟨_, rfl, t, _, _, _, rfl, rfl, Evl.st_of (x4 _ _ (x3 _ _ h2)), at0, rfl, _, rfl, itT (by rw [decide_eq_false (fun z => tag_code tg (V.str.inj z))] <;> rfl) ?_⟩
        exact q H4 (x1.trans (x2.trans (x3.trans x4)))
end

end Fc

set_option maxRecDepth 100000
set_option maxHeartbeats 4000000
namespace Fc
open PySem PySem.Spec PyProof.Rows L2 FcR
open Evl (Ex)
/-! ### k71: word, spoiled -/
open TL (tl)
theorem foldl_appB (a : Array Nat) : ∀ (l : List (Array Nat)), (l.foldl (· ++ ·) a).toList = a.toList ++ (l.map Array.toList).flatten
  | [] => by simp
  | b :: l => by
    rw [List.foldl_cons, foldl_appB (a ++ b) l]
    simp
  termination_by l => l.length
theorem tl_mulB {x : Str} {n : Int} (h : 2 ≤ n) (hx : (x.length == 0) = false) : tl (Txt.mul x n) = (List.replicate n.toNat (tl x)).flatten := by
  unfold Txt.mul
  rw [if_neg (by omega), if_neg (by
    have e1 : (n == 1) = false := by simp; omega
    rw [e1, hx]
    decide)]
  show (List.foldl (· ++ ·) #[] (List.replicate n.toNat x.cps)).toList = _
  rw [foldl_appB, List.map_replicate]
  simp
def WdOk (x : Str) : Prop := 32 ∉ tl x ∧ x.length ≤ 6000
theorem ten_ok : WdOk (Txt.mul "10" 3000) := by
  have e := tl_mulB (x := "10") (n := 3000) (by decide) (by decide +kernel)
  have e0 : tl (Str.ofString "10") = [49, 48] := by decide +kernel
  rw [e0] at e
  refine ⟨fun z => ?_, ?_⟩
  · rw [e] at z
    obtain ⟨l, hl, hz⟩ := List.mem_flatten.mp z
    rw [List.eq_of_mem_replicate hl] at hz
    simp at hz
  · rw [TL.len_tl, e, List.length_flatten, List.map_replicate, List.sum_replicate_nat]
    show (3000 : Int).toNat * 2 ≤ 6000
    decide
def wl1 : List Str := ["do", "call", "if", "while", "seq", "break", "continue", "return", "raise", "try", "final", "a", "zzzzzzzz"]
def wl2 : List Str := ["zzzzzzzzz", "A", "a1", "a-b", "", "0", "1", "2", "3", "400", "401", "01", "+1", "-1", "1.0", "9999"]
def wl3 : List Str := ["_", "Do", "seq2", "\t", "do\n", "1_0"]
theorem wl_ok : ∀ x ∈ wl1 ++ wl2 ++ wl3, 32 ∉ tl x ∧ x.length ≤ 6000 := by decide +kernel
def sp_lword : Sp := fun vs H Q _ => ∃ (p : Addr) (n : Nat), vs = [.ref p] ∧ SrcB H p n ∧ n ≤ 100000000 ∧ ∀ (H' : Hp) (x : Str), WdOk x → SrcB H' p (n + 1) → (∀ b o, b ≠ p → H b = some o → H' b = some o) → Q (.str x) H'
def sp_spoiled : Sp := fun vs H Q _ => ∃ (p a : Addr) (n : Nat) (ws : List Str), vs = [.ref p, .ref a] ∧ SrcB H p n ∧ n ≤ 90000000 ∧ H a = some (.lst (ws.map V.str)) ∧ a ≠ p ∧ ws ≠ [] ∧ ws.length ≤ 100 ∧ (∀ x ∈ ws, WdOk x) ∧
  ∀ (H' : Hp) (a' : Addr) (ws' : List Str), H' a' = some (.lst (ws'.map V.str)) → a' ≠ p → ws' ≠ [] → ws'.length ≤ ws.length + 1 → (∀ x ∈ ws', WdOk x) → SrcB H' p (n + 4) → (∀ b o, b ≠ p → H b = some o → H' b = some o) → Q (.ref a') H'
theorem mul_ten : MulOk "10" 3000 := ⟨by decide, fun _ _ => by decide +kernel, fun _ _ => by decide +kernel⟩
theorem cut_both (xs : List V) (l h : Nat) : ∃ k, cutV xs (some (l : Int)) (some (h : Int)) = (xs.drop (min l xs.length)).take k ∧ k = min h xs.length - min l xs.length := by
  unfold cutV
  rw [HT.sIx_nat, HT.sIx_nat]
  exact ⟨_, rfl, rfl⟩
section
variable {P : Program} {w : World} {h : Heap} {K : PySem.W.Frag} {mg : Str → Option Value} {base : Heap}
abbrev N_law_word : List Str := ["_law_source_here", "_law_some"]
theorem sc_law_word : FnScope N_law_word ["_law_source_here"] (defScope sd_law_word) := ⟨rfl, rfl, rfl, by decide +kernel, rfl, by decide +kernel, by decide +kernel⟩
theorem ok_law_word (T : Tx w h K mg) : Ok P w K mg base 4 ("_law_word", none) ["_law_source_here"] (sp_lword) := by
  obtain ⟨fd, F⟩ := F_law_word T
  refine ⟨fd, ?_, F.bindsN (fun _ _ _ _ _ _ us hl => match us, hl with | [_], _ => rfl), F.kp⟩
  obtain ⟨fd_law_choice, G_law_choice, bi_law_choice, kp_law_choice⟩ := ok_law_choice (P := P) (base := base) T
  refine F.ok sc_law_word (fun vs H Q E h => ?_) (fun cdv A outer s H vs Q E hr h => ?_)
  · obtain ⟨p, n, rfl, hp, hn, q⟩ := h
    rfl
  · obtain ⟨p, n, rfl, hp, hn, q⟩ := h
    refine ⟨_, PSs.nox (pss_cons (ps_set (i := 1) sc_law_word.nd rfl (Or.inl rfl) (pe_lst (pa_cons pe_str (pa_cons pe_str (pa_cons pe_str (pa_cons pe_str (pa_cons pe_str (pa_cons pe_str (pa_cons pe_str (pa_cons pe_str (pa_cons pe_str (pa_cons pe_str (pa_cons pe_str (pa_cons pe_str (pa_cons pe_str pa_nil))))))))))))))) (pss_cons (ps_set (i := 1) sc_law_word.nd rfl (Or.inl rfl) (pe_op op_cat (pv 1) (pe_lst (pa_cons pe_str (pa_cons pe_str (pa_cons pe_str (pa_cons pe_str (pa_cons pe_str (pa_cons pe_str (pa_cons pe_str (pa_cons pe_str (pa_cons pe_str (pa_cons pe_str (pa_cons pe_str (pa_cons pe_str (pa_cons pe_str (pa_cons pe_str (pa_cons pe_str (pa_cons pe_str pa_nil))))))))))))))))))) (pss_one (ps_ret (pe_call G_law_choice (hr.mono (by decide)) rfl (g_law_choice T) kp_law_choice bi_law_choice .nil passF (pa_cons (pv 0) (pa_cons (pe_op op_cat (pv 1) (pe_lst (pa_cons (pe_op op_mul_str pe_str pe_int) (pa_cons pe_str (pa_cons pe_str (pa_cons pe_str (pa_cons pe_str (pa_cons pe_str (pa_cons pe_str pa_nil))))))))) pa_nil))))))), ?_⟩
    refine ⟨sz (by simp), ?_⟩
    intro p1 n1
    generalize e1 : upd _ p1 _ = H1
    obtain ⟨x1, s1, o1⟩ := new_of e1 n1
    clear e1
    refine ⟨_, rfl, sz (by simp), ?_⟩
    intro p2 n2
    generalize e2 : upd _ p2 _ = H2
    obtain ⟨x2, s2, o2⟩ := new_of e2 n2
    clear e2
    refine ⟨p1, p2, _, _, rfl, rfl, x2 _ _ s1, s2, sz (by simp), ?_⟩
    intro p3 n3
    generalize e3 : upd _ p3 _ = H3
    obtain ⟨x3, s3, o3⟩ := new_of e3 n3
    clear e3
    refine ⟨_, rfl, _, rfl, _, _, rfl, rfl, mul_ten, sz (by simp), ?_⟩
    intro p4 n4
    generalize e4 : upd _ p4 _ = H4
    obtain ⟨x4, s4, o4⟩ := new_of e4 n4
    clear e4
    refine ⟨p3, p4, _, _, rfl, rfl, x4 _ _ s3, s4, sz (by simp), ?_⟩
    intro p5 n5
    generalize e5 : upd _ p5 _ = H5
    obtain ⟨x5, s5, o5⟩ := new_of e5 n5
    clear e5
    have x15 := x1.trans (x2.trans (x3.trans (x4.trans x5)))
    have p5p : p5 ≠ p := fun z => by obtain ⟨_, _, _, h, _⟩ := hp; rw [z, x4 _ _ (x3 _ _ (x2 _ _ (x1 _ _ h)))] at n5; cases n5
    have s5 : H5 p5 = some (.lst ((wl1 ++ wl2 ++ (Txt.mul "10" 3000 :: wl3)).map V.str)) := by rw [s5] <;> rfl
    refine ⟨p, p5, n, _, rfl, hp.kp fun o h => x15 _ _ h, by omega, s5, p5p, (by simp [wl1]), (by simp [wl1, wl2, wl3]), fun H6 x hx s6 o6 => ?_⟩
    obtain ⟨y, hy, rfl⟩ := List.mem_map.mp hx
    refine q H6 y ?_ s6 fun b o hb e => o6 b o hb (x15 _ _ e)
    rcases List.mem_append.mp hy with z | z
    · exact wl_ok y (List.mem_append_left _ z)
    · rcases List.mem_cons.mp z with z | z
      · rw [z]; exact ten_ok
      · exact wl_ok y (List.mem_append_right _ z)
end

end Fc

set_option maxRecDepth 100000
set_option maxHeartbeats 4000000
namespace Fc
open PySem PySem.Spec PyProof.Rows L2 FcR
open Evl (Ex)
/-! ### k71: spoiled -/
theorem b_min : bootBuiltins "min" = some (.builtin "min") := by decide +kernel
theorem b_max : bootBuiltins "max" = some (.builtin "max") := by decide +kernel
theorem mt (ws : List Str) (k : Nat) : (ws.map V.str).take k = (ws.take k).map V.str := by rw [List.map_take]
theorem md (ws : List Str) (k : Nat) : (ws.map V.str).drop k = (ws.drop k).map V.str := by rw [List.map_drop]
section
variable {P : Program} {w : World} {h : Heap} {K : PySem.W.Frag} {mg : Str → Option Value} {base : Heap}
abbrev N_law_spoiled : List Str := ["_law_source_here", "_law_words_here", "_law_at", "_law_other", "_law_way", "_law_low", "_law_high", "_law_begun"]
theorem sc_law_spoiled : FnScope N_law_spoiled ["_law_source_here", "_law_words_here"] (defScope sd_law_spoiled) := ⟨rfl, rfl, rfl, by decide +kernel, rfl, by decide +kernel, by decide +kernel⟩
theorem ok_law_spoiled (T : Tx w h K mg) : Ok P w K mg base 5 ("_law_spoiled", none) ["_law_source_here", "_law_words_here"] (sp_spoiled) := by
  obtain ⟨fd, F⟩ := F_law_spoiled T
  refine ⟨fd, ?_, F.bindsN (fun _ _ _ _ _ _ us hl => match us, hl with | [_, _], _ => rfl), F.kp⟩
  obtain ⟨fd_law_draw, G_law_draw, bi_law_draw, kp_law_draw⟩ := ok_law_draw (P := P) (base := base) T
  obtain ⟨fd_law_word, G_law_word, bi_law_word, kp_law_word⟩ := ok_law_word (P := P) (base := base) T
  refine F.ok sc_law_spoiled (fun vs H Q E h => ?_) (fun cdv A outer s H vs Q E hr h => ?_)
  · obtain ⟨p, a, n, ws, rfl, hp, hn, ha, ap, hne, hln, hok, q⟩ := h
    rfl
  · obtain ⟨p, a, n, ws, rfl, hp, hn, ha, ap, hne, hln, hok, q⟩ := h
    refine ⟨_, PSs.nox (pss_cons (ps_par3 rfl sc_law_spoiled.nd (i := 2) (j := 3) (l := 4) rfl rfl rfl (by decide) (by decide) (by decide) rfl rfl rfl (pa_cons (pe_call G_law_draw (hr.mono (by decide)) rfl (g_law_draw T) kp_law_draw bi_law_draw .nil passF (pa_cons (pv 0) (pa_cons (pe_callB call_len_seq rfl (fr_len T) b_len (pa_cons (pv 1) pa_nil)) pa_nil))) (pa_cons (pe_call G_law_draw (hr.mono (by decide)) rfl (g_law_draw T) kp_law_draw bi_law_draw .nil passF (pa_cons (pv 0) (pa_cons (pe_callB call_len_seq rfl (fr_len T) b_len (pa_cons (pv 1) pa_nil)) pa_nil))) (pa_cons (pe_call G_law_draw (hr.mono (by decide)) rfl (g_law_draw T) kp_law_draw bi_law_draw .nil passF (pa_cons (pv 0) (pa_cons pe_int pa_nil))) pa_nil))) (by rfl)) (pss_cons (ps_if (pt_cmpR op_eq (pv 4) pe_int (nomark _)) (pss_one (ps_ret (pe_ifExp (pt_cmpR op_gt (pe_callB call_len_seq rfl (fr_len T) b_len (pa_cons (pv 1) pa_nil)) pe_int (nomark _)) (pe_op op_cat (pe_slice sl_list (pv 1) po_none (po_some (pv 2))) (pe_slice sl_list (pv 1) (po_some (pe_op op_add (pv 2) pe_int)) po_none)) (pv 1)))) pss_nil) (pss_cons (ps_if (pt_cmpR op_eq (pv 4) pe_int (nomark _)) (pss_one (ps_ret (pe_op op_cat (pe_op op_cat (pe_slice sl_list (pv 1) po_none (po_some (pv 2))) (pe_lst (pa_cons (pe_call G_law_word (hr.mono (by decide)) rfl (g_law_word T) kp_law_word bi_law_word .nil passF (pa_cons (pv 0) pa_nil)) pa_nil))) (pe_slice sl_list (pv 1) (po_some (pv 2)) po_none)))) pss_nil) (pss_cons (ps_if (pt_cmpR op_lt (pv 4) pe_int (nomark _)) (pss_one (ps_ret (pe_op op_cat (pe_op op_cat (pe_slice sl_list (pv 1) po_none (po_some (pv 2))) (pe_lst (pa_cons (pe_call G_law_word (hr.mono (by decide)) rfl (g_law_word T) kp_law_word bi_law_word .nil passF (pa_cons (pv 0) pa_nil)) pa_nil))) (pe_slice sl_list (pv 1) (po_some (pe_op op_add (pv 2) pe_int)) po_none)))) pss_nil) (pss_cons (ps_if (pt_cmpR op_eq (pv 4) pe_int (nomark _)) (pss_cons (ps_par rfl sc_law_spoiled.nd (i := 5) (j := 6) rfl rfl (by decide) rfl rfl (pa_cons (pe_callB (call_min2 rfl) rfl (fr_min T) b_min (pa_cons (pv 2) (pa_cons (pv 3) pa_nil))) (pa_cons (pe_callB (call_max2 rfl) rfl (fr_max T) b_max (pa_cons (pv 2) (pa_cons (pv 3) pa_nil))) pa_nil)) (by rfl)) (pss_cons (ps_set (i := 7) sc_law_spoiled.nd rfl (Or.inl rfl) (pe_op op_cat (pe_op op_cat (pe_slice sl_list (pv 1) po_none (po_some (pv 5))) (pe_lst (pa_cons (pe_ix ix_list (pv 1) (pv 6) (fun _ _ => rfl)) pa_nil))) (pe_slice sl_list (pv 1) (po_some (pe_op op_add (pv 5) pe_int)) (po_some (pv 6))))) (pss_one (ps_ret (pe_op op_cat (pe_op op_cat (pv 7) (pe_op op_rep (pe_lst (pa_cons (pe_ix ix_list (pv 1) (pv 5) (fun _ _ => rfl)) pa_nil)) (pe_callTy call_int1 rfl (fr_int T) b_int (pa_cons (pe_cmpR op_lt (pv 5) (pv 6) (nomark _)) pa_nil)))) (pe_slice sl_list (pv 1) (po_some (pe_op op_add (pv 6) pe_int)) po_none)))))) pss_nil) (pss_one (ps_ret (pe_ifExp (pt_cmpR op_eq (pv 4) pe_int (nomark _)) (pe_slice sl_list (pv 1) po_none (po_some (pe_op op_add pe_int (pv 2)))) (pe_op op_cat (pv 1) (pe_lst (pa_cons (pe_call G_law_word (hr.mono (by decide)) rfl (g_law_word T) kp_law_word bi_law_word .nil passF (pa_cons (pv 0) pa_nil)) pa_nil))))))))))), ?_⟩
    have lw : 0 < ws.length := List.length_pos_iff.mpr hne
    have lm : (ws.map V.str).length = ws.length := List.length_map ..
    refine ⟨_, rfl, _, rfl, a, _, rfl, .inl (Evl.sq_of ha), p, n, _, rfl, hp, by omega, by rw [lm]; omega, by rw [lm]; omega, fun v1 H1 v10 v11 s1 o1 => ?_⟩
    have ha1 := o1 a _ ap ha
    refine ⟨_, rfl, _, rfl, a, _, rfl, .inl (Evl.sq_of ha1), p, n + 1, _, rfl, s1, by omega, by rw [lm]; omega, by rw [lm]; omega, fun v2 H2 v20 v21 s2 o2 => ?_⟩
    have ha2 := o2 a _ ap ha1
    refine ⟨_, rfl, p, n + 2, 7, rfl, s2, by omega, by decide, by decide, fun v3 H3 v30 v31 s3 o3 => ?_⟩
    have ha3 := o3 a _ ap ha2
    have kp3 : ∀ b o, b ≠ p → H b = some o → H3 b = some o := fun b o hb e => o3 b o hb (o2 b o hb (o1 b o hb e))
    rw [lm] at v11 v21
    obtain ⟨i, rfl⟩ : ∃ i : Nat, v1 = (i : Int) := ⟨v1.toNat, by omega⟩
    obtain ⟨j, rfl⟩ : ∃ j : Nat, v2 = (j : Int) := ⟨v2.toNat, by omega⟩
    have hi : i < ws.length := by omega
    have hj : j < ws.length := by omega
    have e1i : ((i : Int) + 1) = ((i + 1 : Nat) : Int) := by omega
    have okT : ∀ k, ∀ x ∈ ws.take k, WdOk x := fun k x hx => hok x (List.mem_of_mem_take hx)
    have okD : ∀ k, ∀ x ∈ ws.drop k, WdOk x := fun k x hx => hok x (List.mem_of_mem_drop hx)
    have fin : ∀ {Hc H' : Hp} {a' : Addr} {ws' : List Str} {m : Nat}, (∀ b o, b ≠ p → H b = some o → Hc b = some o) → SrcB Hc p m → m ≤ n + 4 → Ex Hc H' → H' a' = some (.lst (ws'.map V.str)) → Hc a' = none → ws' ≠ [] → ws'.length ≤ ws.length + 1 → (∀ x ∈ ws', WdOk x) → Q (.ref a') H' := fun {Hc H' a' ws' m} kc sc hm x h1 h2 h3 h4 h5 => by
      refine q H' a' ws' h1 (fun z => ?_) h3 h4 h5 ((sc.kp fun o h => x _ _ h).up hm) fun b o hb e => x _ _ (kc b o hb e)
      obtain ⟨_, _, _, h, _⟩ := sc
      rw [z, h] at h2
      cases h2
    refine ⟨_, _, _, rfl, ?_⟩
    -- way 0
    refine ⟨_, rfl, rfl, _, rfl, ite_of (fun h0 => ?_) (fun h0 => ?_)⟩
    · refine ⟨_, rfl, a, _, rfl, .inl (Evl.sq_of ha3), _, _, rfl, rfl, _, rfl, ite_of (fun h1 => ?_) (fun h1 => ?_)⟩
      · have h1 : 1 < ws.length := by have := of_decide_eq_true h1; rw [lm] at this; omega
        refine ⟨_, rfl, _, rfl, _, rfl, a, _, rfl, Evl.sq_of ha3, ?_⟩
        intro p4 n4
        generalize e4 : upd _ p4 _ = H4
        obtain ⟨x4, s4, o4⟩ := new_of e4 n4
        clear e4
        rw [cut_to, mt] at s4
        refine ⟨_, rfl, _, rfl, _, _, rfl, rfl, _, rfl, a, _, rfl, Evl.sq_of (x4 _ _ ha3), ?_⟩
        intro p5 n5
        generalize e5 : upd _ p5 _ = H5
        obtain ⟨x5, s5, o5⟩ := new_of e5 n5
        clear e5
        rw [e1i, cut_from, md] at s5
        refine ⟨p4, p5, _, _, rfl, rfl, x5 _ _ s4, s5, sz (by simp; omega), ?_⟩
        intro p6 n6
        generalize e6 : upd _ p6 _ = H6
        obtain ⟨x6, s6, o6⟩ := new_of e6 n6
        clear e6
        rw [← List.map_append] at s6
        refine fin kp3 s3 (by omega) (x4.trans (x5.trans x6)) s6 (ex_none (x4.trans x5) n6) (fun z => ?_) ?_ (fun x hx => ?_)
        · have := congrArg List.length z
          rw [List.length_append, List.length_take, List.length_drop, List.length_nil] at this
          omega
        · simp
          omega
        · exact (List.mem_append.mp hx).elim (okT _ x) (okD _ x)
      · refine ⟨_, rfl, ?_⟩
        exact q H3 a ws ha3 ap hne (by omega) hok (s3.up (by omega)) kp3
    -- way 1
    have sl4 : ∀ {Hx : Hp}, Ex H3 Hx → SqL K Hx a (ws.map V.str) := fun {Hx} x => Evl.sq_of (x _ _ ha3)
    refine ⟨_, rfl, rfl, _, rfl, ite_of (fun h1 => ?_) (fun h1 => ?_)⟩
    · refine ⟨_, rfl, _, rfl, _, rfl, a, _, rfl, Evl.sq_of ha3, ?_⟩
      intro p4 n4
      generalize e4 : upd _ p4 _ = H4
      obtain ⟨x4, s4, o4⟩ := new_of e4 n4
      clear e4
      rw [cut_to, mt] at s4
      have p4p : p4 ≠ p := fun z => by obtain ⟨_, _, _, h, _⟩ := s3; rw [z, h] at n4; cases n4
      refine ⟨_, rfl, p, n + 3, rfl, s3.kp fun o h => x4 _ _ h, by omega, fun H5 x hx s5 o5 => ?_⟩
      have kp5 : ∀ b o, b ≠ p → H b = some o → H5 b = some o := fun b o hb e => o5 b o hb (x4 _ _ (kp3 b o hb e))
      have ha5 := o5 a _ ap (x4 _ _ ha3)
      refine ⟨sz (by simp), ?_⟩
      intro p6 n6
      generalize e6 : upd _ p6 _ = H6
      obtain ⟨x6, s6, o6⟩ := new_of e6 n6
      clear e6
      refine ⟨p4, p6, _, _, rfl, rfl, x6 _ _ (o5 p4 _ p4p s4), s6, sz (by simp; omega), ?_⟩
      intro p7 n7
      generalize e7 : upd _ p7 _ = H7
      obtain ⟨x7, s7, o7⟩ := new_of e7 n7
      clear e7
      refine ⟨_, rfl, _, rfl, _, rfl, a, _, rfl, Evl.sq_of (x7 _ _ (x6 _ _ ha5)), ?_⟩
      intro p8 n8
      generalize e8 : upd _ p8 _ = H8
      obtain ⟨x8, s8, o8⟩ := new_of e8 n8
      clear e8
      rw [cut_from, md] at s8
      refine ⟨p7, p8, _, _, rfl, rfl, x8 _ _ s7, s8, sz (by simp; omega), ?_⟩
      intro p9 n9
      generalize e9 : upd _ p9 _ = H9
      obtain ⟨x9, s9, o9⟩ := new_of e9 n9
      clear e9
      have s9 : H9 p9 = some (.lst ((ws.take i ++ [x] ++ ws.drop i).map V.str)) := by rw [s9]; simp
      refine fin kp5 s5 (by omega) (x6.trans (x7.trans (x8.trans x9))) s9 (ex_none (x6.trans (x7.trans x8)) n9) (by simp) ?_ (fun y hy => ?_)
      · simp
        omega
      · rcases List.mem_append.mp hy with z | z
        · rcases List.mem_append.mp z with z | z
          · exact okT _ y z
          · rw [List.mem_singleton.mp z]; exact hx
        · exact okD _ y z
    -- way 2, 3
    refine ⟨_, rfl, _, _, rfl, rfl, _, rfl, ite_of (fun h2 => ?_) (fun h2 => ?_)⟩
    · refine ⟨_, rfl, _, rfl, _, rfl, a, _, rfl, Evl.sq_of ha3, ?_⟩
      intro p4 n4
      generalize e4 : upd _ p4 _ = H4
      obtain ⟨x4, s4, o4⟩ := new_of e4 n4
      clear e4
      rw [cut_to, mt] at s4
      have p4p : p4 ≠ p := fun z => by obtain ⟨_, _, _, h, _⟩ := s3; rw [z, h] at n4; cases n4
      refine ⟨_, rfl, p, n + 3, rfl, s3.kp fun o h => x4 _ _ h, by omega, fun H5 x hx s5 o5 => ?_⟩
      have kp5 : ∀ b o, b ≠ p → H b = some o → H5 b = some o := fun b o hb e => o5 b o hb (x4 _ _ (kp3 b o hb e))
      have ha5 := o5 a _ ap (x4 _ _ ha3)
      refine ⟨sz (by simp), ?_⟩
      intro p6 n6
      generalize e6 : upd _ p6 _ = H6
      obtain ⟨x6, s6, o6⟩ := new_of e6 n6
      clear e6
      refine ⟨p4, p6, _, _, rfl, rfl, x6 _ _ (o5 p4 _ p4p s4), s6, sz (by simp; omega), ?_⟩
      intro p7 n7
      generalize e7 : upd _ p7 _ = H7
      obtain ⟨x7, s7, o7⟩ := new_of e7 n7
      clear e7
      refine ⟨_, rfl, _, rfl, _, _, rfl, rfl, _, rfl, a, _, rfl, Evl.sq_of (x7 _ _ (x6 _ _ ha5)), ?_⟩
      intro p8 n8
      generalize e8 : upd _ p8 _ = H8
      obtain ⟨x8, s8, o8⟩ := new_of e8 n8
      clear e8
      rw [e1i, cut_from, md] at s8
      refine ⟨p7, p8, _, _, rfl, rfl, x8 _ _ s7, s8, sz (by simp; omega), ?_⟩
      intro p9 n9
      generalize e9 : upd _ p9 _ = H9
      obtain ⟨x9, s9, o9⟩ := new_of e9 n9
      clear e9
      have s9 : H9 p9 = some (.lst ((ws.take i ++ [x] ++ ws.drop (i + 1)).map V.str)) := by rw [s9]; simp
      refine fin kp5 s5 (by omega) (x6.trans (x7.trans (x8.trans x9))) s9 (ex_none (x6.trans (x7.trans x8)) n9) (by simp) ?_ (fun y hy => ?_)
      · simp
        omega
      · rcases List.mem_append.mp hy with z | z
        · rcases List.mem_append.mp z with z | z
          · exact okT _ y z
          · rw [List.mem_singleton.mp z]; exact hx
        · exact okD _ y z
    -- way 4
    refine ⟨_, rfl, rfl, _, rfl, ite_of (fun h4 => ?_) (fun h4 => ?_)⟩
    · refine ⟨_, rfl, _, rfl, _, _, rfl, _, rfl, _, rfl, _, _, rfl, _, _, rfl, ?_⟩
      obtain ⟨lo, hlo⟩ : ∃ lo : Nat, (if (j : Int) < (i : Int) then (j : Int) else (i : Int)) = (lo : Int) := ⟨min i j, by split <;> omega⟩
      obtain ⟨hg, hhg⟩ : ∃ hg : Nat, (if (j : Int) > (i : Int) then (j : Int) else (i : Int)) = (hg : Int) := ⟨max i j, by split <;> omega⟩
      have b1 : lo ≤ hg := by split at hlo <;> split at hhg <;> omega
      have b2 : hg < ws.length := by split at hhg <;> omega
      have el1 : ((lo : Int) + 1) = ((lo + 1 : Nat) : Int) := by omega
      have eh1 : ((hg : Int) + 1) = ((hg + 1 : Nat) : Int) := by omega
      obtain ⟨xh, hxh⟩ : ∃ x, ws[hg]? = some x := ⟨_, List.getElem?_eq_getElem b2⟩
      obtain ⟨xl, hxl⟩ : ∃ x, ws[lo]? = some x := ⟨_, List.getElem?_eq_getElem (by omega)⟩
      rw [hlo, hhg]
      refine ⟨_, rfl, _, rfl, _, rfl, a, _, rfl, Evl.sq_of ha3, ?_⟩
      intro p4 n4
      generalize e4 : upd _ p4 _ = H4
      obtain ⟨x4, s4, o4⟩ := new_of e4 n4
      clear e4
      rw [cut_to, mt] at s4
      refine ⟨_, rfl, _, rfl, a, _, _, _, rfl, rfl, sl4 x4, atI_nat (ws_at hxh), sz (by simp), ?_⟩
      intro p5 n5
      generalize e5 : upd _ p5 _ = H5
      obtain ⟨x5, s5, o5⟩ := new_of e5 n5
      clear e5
      refine ⟨p4, p5, _, _, rfl, rfl, x5 _ _ s4, s5, sz (by simp; omega), ?_⟩
      intro p6 n6
      generalize e6 : upd _ p6 _ = H6
      obtain ⟨x6, s6, o6⟩ := new_of e6 n6
      clear e6
      have x46 := x4.trans (x5.trans x6)
      refine ⟨_, rfl, _, rfl, _, _, rfl, rfl, _, rfl, _, rfl, _, rfl, a, _, rfl, sl4 x46, ?_⟩
      intro p7 n7
      generalize e7 : upd _ p7 _ = H7
      obtain ⟨x7, s7, o7⟩ := new_of e7 n7
      clear e7
      rw [el1] at s7
      obtain ⟨kk, ec, ek⟩ := cut_both (ws.map V.str) (lo + 1) hg
      rw [ec, md, mt, lm] at s7
      rw [lm] at ek
      refine ⟨p6, p7, _, _, rfl, rfl, x7 _ _ s6, s7, sz (by simp; omega), ?_⟩
      intro p8 n8
      generalize e8 : upd _ p8 _ = H8
      obtain ⟨x8, s8, o8⟩ := new_of e8 n8
      clear e8
      have x48 := x46.trans (x7.trans x8)
      refine ⟨_, rfl, _, rfl, _, rfl, a, _, _, _, rfl, rfl, sl4 x48, atI_nat (ws_at hxl), sz (by simp), ?_⟩
      intro p9 n9
      generalize e9 : upd _ p9 _ = H9
      obtain ⟨x9, s9, o9⟩ := new_of e9 n9
      clear e9
      refine ⟨_, rfl, _, rfl, _, _, rfl, rfl, .inr ⟨_, rfl, ?_⟩⟩
      obtain ⟨bb, hbb, bb1⟩ : ∃ bb : Nat, (if decide ((lo : Int) < (hg : Int)) = true then 1 else 0 : Int) = (bb : Int) ∧ bb ≤ 1 := by
        by_cases z : (lo : Int) < (hg : Int)
        · exact ⟨1, by rw [decide_eq_true z] <;> rfl, by decide⟩
        · exact ⟨0, by rw [decide_eq_false z] <;> rfl, by decide⟩
      rw [hbb]
      refine ⟨p9, _, _, rfl, rfl, s9, by omega, by omega, sz (by simp; omega), ?_⟩
      intro p10 n10
      generalize e10 : upd _ p10 _ = H10
      obtain ⟨x10, s10, o10⟩ := new_of e10 n10
      clear e10
      rw [show ((bb : Nat) : Int).toNat = bb by omega, List.flatten_replicate_singleton] at s10
      refine ⟨p8, p10, _, _, rfl, rfl, x10 _ _ (x9 _ _ s8), s10, sz (by simp; omega), ?_⟩
      intro p11 n11
      generalize e11 : upd _ p11 _ = H11
      obtain ⟨x11, s11, o11⟩ := new_of e11 n11
      clear e11
      have x411 := x48.trans (x9.trans (x10.trans x11))
      refine ⟨_, rfl, _, rfl, _, _, rfl, rfl, _, rfl, a, _, rfl, sl4 x411, ?_⟩
      intro p12 n12
      generalize e12 : upd _ p12 _ = H12
      obtain ⟨x12, s12, o12⟩ := new_of e12 n12
      clear e12
      rw [eh1, cut_from, md] at s12
      refine ⟨p11, p12, _, _, rfl, rfl, x12 _ _ s11, s12, sz (by simp; omega), ?_⟩
      intro p13 n13
      generalize e13 : upd _ p13 _ = H13
      obtain ⟨x13, s13, o13⟩ := new_of e13 n13
      clear e13
      have s13 : H13 p13 = some (.lst ((ws.take lo ++ [xh] ++ (ws.drop (min (lo + 1) ws.length)).take kk ++ List.replicate bb xl ++ ws.drop (hg + 1)).map V.str)) := by rw [s13]; simp
      refine fin kp3 s3 (by omega) (x411.trans (x12.trans x13)) s13 (ex_none (x411.trans x12) n13) (by simp) ?_ (fun y hy => ?_)
      · simp
        omega
      · rcases List.mem_append.mp hy with z | z
        · rcases List.mem_append.mp z with z | z
          · rcases List.mem_append.mp z with z | z
            · rcases List.mem_append.mp z with z | z
              · exact okT _ y z
              · rw [List.mem_singleton.mp z]; exact hok _ (List.mem_of_getElem? hxh)
            · exact okD _ y (List.mem_of_mem_take z)
          · rw [List.eq_of_mem_replicate z]; exact hok _ (List.mem_of_getElem? hxl)
        · exact okD _ y z
    -- way 5, 6
    refine ⟨_, rfl, rfl, _, rfl, ite_of (fun h5 => ?_) (fun h5 => ?_)⟩
    · refine ⟨_, rfl, _, rfl, _, _, rfl, rfl, _, rfl, a, _, rfl, Evl.sq_of ha3, ?_⟩
      intro p4 n4
      generalize e4 : upd _ p4 _ = H4
      obtain ⟨x4, s4, o4⟩ := new_of e4 n4
      clear e4
      rw [show (1 : Int) + (i : Int) = ((1 + i : Nat) : Int) by omega, cut_to, mt] at s4
      refine fin kp3 s3 (by omega) x4 s4 n4 (fun z => ?_) (by simp; omega) (okT _)
      have := congrArg List.length z
      rw [List.length_take, List.length_nil] at this
      omega
    · refine ⟨_, rfl, _, rfl, p, n + 3, rfl, s3, by omega, fun H5 x hx s5 o5 => ?_⟩
      have kp5 : ∀ b o, b ≠ p → H b = some o → H5 b = some o := fun b o hb e => o5 b o hb (kp3 b o hb e)
      have ha5 := o5 a _ ap ha3
      refine ⟨sz (by simp), ?_⟩
      intro p6 n6
      generalize e6 : upd _ p6 _ = H6
      obtain ⟨x6, s6, o6⟩ := new_of e6 n6
      clear e6
      refine ⟨a, p6, _, _, rfl, rfl, x6 _ _ ha5, s6, sz (by simp; omega), ?_⟩
      intro p7 n7
      generalize e7 : upd _ p7 _ = H7
      obtain ⟨x7, s7, o7⟩ := new_of e7 n7
      clear e7
      have s7 : H7 p7 = some (.lst ((ws ++ [x]).map V.str)) := by rw [s7]; simp
      refine fin kp5 s5 (by omega) (x6.trans x7) s7 (ex_none x6 n7) (by simp) (by simp) (fun y hy => ?_)
      rcases List.mem_append.mp hy with z | z
      · exact hok y z
      · rw [List.mem_singleton.mp z]; exact hx
end

end Fc

set_option maxRecDepth 100000
set_option maxHeartbeats 4000000
namespace Fc
open PySem PySem.Spec PyProof.Rows L2 FcR
open Evl (Ex)
def sp_law (K : PySem.W.Frag) : Sp := fun vs H Q _ => ∃ (a : Addr) (ns : List Int), vs = [.ref a] ∧ ns.length ≤ 63 ∧ SqL K H a (ns.map V.int) ∧ ∀ H', Q (.bl true) H'
theorem cut_mem {xs : List V} {lo hi : Option Int} {x : V} (h : x ∈ cutV xs lo hi) : x ∈ xs := by
  unfold cutV at h
  exact List.mem_of_mem_drop (List.mem_of_mem_take h)

end Fc

set_option maxRecDepth 100000
set_option maxHeartbeats 4000000
namespace Fc
open PySem PySem.Spec PyProof.Rows L2 FcR
open Evl (Ex)


section
variable {P : Program} {w : World} {h : Heap} {K : PySem.W.Frag} {mg : Str → Option Value} {base : Heap}
abbrev N_law : List Str := ["_law_script", "_law_cell", "_law_source_here", "_law_words_here", "_law_turn", "_law_some"]
theorem sc_law : FnScope N_law ["_law_script"] (defScope sd_law) := ⟨rfl, rfl, rfl, by decide +kernel, rfl, by decide +kernel, by decide +kernel⟩
theorem okF_law (T : Tx w h K mg) : ∃ fd, FnOk P w K mg base (CX P w) 108 (He.fAd K ("law", none)) fd ["_law_script"] (sp_law K) ∧ Binds K fd ["_law_script"] [] ∧ PySem.W.keepIn K (.ref (He.fAd K ("law", none))) = true ∧ FunD K "law" "law" (defArgs sd_law) (defBody sd_law) (defScope sd_law) [] [] (He.fAd K ("law", none)) fd := by
  obtain ⟨fd, F⟩ := F_law T
  refine ⟨fd, ?_, F.bindsN (fun _ _ _ _ _ _ us hl => match us, hl with | [_], _ => rfl), F.kp, F⟩
  obtain ⟨fd_law_cell_at, G_law_cell_at, bi_law_cell_at, kp_law_cell_at⟩ := ok_law_cell_at (P := P) (base := base) T
  obtain ⟨fd_law_draw, G_law_draw, bi_law_draw, kp_law_draw⟩ := ok_law_draw (P := P) (base := base) T
  obtain ⟨fd_law_right, G_law_right, bi_law_right, kp_law_right⟩ := ok_law_right (P := P) (base := base) T
  obtain ⟨fd_law_source, G_law_source, bi_law_source, kp_law_source⟩ := ok_law_source (P := P) (base := base) T
  obtain ⟨fd_law_spoiled, G_law_spoiled, bi_law_spoiled, kp_law_spoiled⟩ := ok_law_spoiled (P := P) (base := base) T
  obtain ⟨fd_law_statement, G_law_statement, bi_law_statement, kp_law_statement⟩ := ok_stmB (P := P) (base := base) T 40
  obtain ⟨fd_law_words, G_law_words, bi_law_words, kp_law_words⟩ := ok_lwords (P := P) (base := base) T 100
  refine F.ok sc_law (fun vs H Q E h => ?_) (fun cdv A outer s H vs Q E hr h => ?_)
  · obtain ⟨a, ns, rfl, hl, hs, q⟩ := h
    rfl
  · obtain ⟨a, ns, rfl, hl, hs, q⟩ := h
    refine ⟨_, PSs.nox (pss_cons (ps_for PassesOwn.never rfl (pi_list (pe_op op_cat (pe_lst (pa_cons (pe_call G_law_cell_at (hr.mono (by decide)) rfl (g_law_cell_at T) kp_law_cell_at bi_law_cell_at .nil passF (pa_cons (pv 0) (pa_cons pe_int pa_nil))) pa_nil)) (pe_slice sl_list (pv 0) (po_some pe_int) (po_some pe_int)))) (pg_name (i := 1) sc_law.nd rfl (Or.inl rfl)) (pss_cons (ps_set (i := 2) sc_law.nd rfl (Or.inl rfl) (pe_call G_law_source (hr.mono (by decide)) rfl (g_law_source T) kp_law_source bi_law_source .nil passF (pa_cons (pv 1) pa_nil))) (pss_cons (ps_set (i := 3) sc_law.nd rfl (Or.inl rfl) (pe_call G_law_words (hr.mono (by decide)) rfl (g_law_words T) kp_law_words bi_law_words .nil passF (pa_cons (pe_call G_law_statement (hr.mono (by decide)) rfl (g_law_statement T) kp_law_statement bi_law_statement .nil passF (pa_cons (pv 2) (pa_cons (pe_op op_add pe_int (pe_call G_law_draw (hr.mono (by decide)) rfl (g_law_draw T) kp_law_draw bi_law_draw .nil passF (pa_cons (pv 2) (pa_cons pe_int pa_nil)))) (pa_cons pe_int (pa_cons pe_int (pa_cons pe_int pa_nil)))))) pa_nil))) (pss_one (ps_for PassesOwn.never rfl (pi_range1 rfl (fr_range T) (pa_cons pe_int pa_nil)) (pg_name (i := 4) sc_law.nd rfl (Or.inl rfl)) (pss_cons (ps_set (i := 5) sc_law.nd rfl (Or.inl rfl) (pe_call G_law_spoiled (hr.mono (by decide)) rfl (g_law_spoiled T) kp_law_spoiled bi_law_spoiled .nil passF (pa_cons (pv 2) (pa_cons (pv 3) pa_nil)))) (Evl.pss_cut (ps_if (pt_cmpR op_eq (pe_op op_mod (pe_callTy call_int1 rfl (fr_int T) b_int (pa_cons (pv 4) pa_nil)) pe_int) pe_int (nomark _)) (pss_one (ps_set (i := 5) sc_law.nd rfl (Or.inl rfl) (pe_call G_law_spoiled (hr.mono (by decide)) rfl (g_law_spoiled T) kp_law_spoiled bi_law_spoiled .nil passF (pa_cons (pv 2) (pa_cons (pv 5) pa_nil))))) pss_nil) (pss_one (ps_if (pt_not (pt_val (pe_call G_law_right (hr.mono (by decide)) rfl (g_law_right T) kp_law_right bi_law_right .nil passF (pa_cons (pv 5) pa_nil)))) (pss_one (ps_ret pe_bl)) pss_nil))))))))) (pss_one (ps_ret pe_bl))), ?_⟩
    refine ⟨_, rfl, a, ns, 0, rfl, hs, sz (by simp), ?_⟩
    intro p1 n1
    generalize e1 : upd _ p1 _ = H1
    obtain ⟨x1, s1, o1⟩ := new_of e1 n1
    clear e1
    have hs1 := Evl.ex_l x1 hs
    refine ⟨_, rfl, 1, rfl, 4, rfl, a, _, rfl, hs1, ?_⟩
    intro p2 n2
    generalize e2 : upd _ p2 _ = H2
    obtain ⟨x2, s2, o2⟩ := new_of e2 n2
    clear e2
    have hc2 : (cutV (ns.map V.int) (some 1) (some 4)).length ≤ 63 := Nat.le_trans (cutV_length ..) (by rw [List.length_map]; exact hl)
    refine ⟨p1, p2, _, _, rfl, rfl, x2 _ _ s1, s2, sz (by simp; omega), ?_⟩
    intro p3 n3
    generalize e3 : upd _ p3 _ = H3
    obtain ⟨x3, s3, o3⟩ := new_of e3 n3
    clear e3
    have isI : ∀ (i : Nat) (x : V), ([V.int (ns.getD 0 0)] ++ cutV (ns.map V.int) (some 1) (some 4))[i]? = some x → ∃ c, x = .int c := fun i x hx => by
      have hm := List.mem_of_getElem? hx
      rcases List.mem_append.mp hm with h1 | h1
      · exact ⟨_, List.mem_singleton.mp h1⟩
      · obtain ⟨c, _, e⟩ := List.mem_map.mp (cut_mem h1)
        exact ⟨c, e.symm⟩
    generalize [V.int (ns.getD 0 0)] ++ cutV (ns.map V.int) (some 1) (some 4) = cs at s3 isI
    refine ⟨p3, rfl, ⟨_, Evl.sq_of s3⟩, ?_⟩
    refine for_it (walk_list (xs := cs)) (fun i σ' H' => Ex H3 H' ∧ ∃ u1 u2 u3 u4 u5, σ' = [some (.ref a), u1, u2, u3, u4, u5]) ?_ ?_ ?_ ?_
    · exact ⟨Evl.Ex.refl _, _, _, _, _, _, rfl⟩
    · exact fun i σ' H' _ ⟨e, _⟩ => Evl.sq_of (e _ _ s3)
    rotate_left
    · rintro σ' H' ⟨e, u1, u2, u3, u4, u5, rfl⟩
      exact q _
    rintro i v σ' Ha Hb hi ⟨e, u1, u2, u3, u4, u5, rfl⟩ ⟨rfl, hv⟩
    obtain ⟨c, rfl⟩ := isI i v hv
    refine ⟨_, rfl, c, rfl, fun p4 H4 n4 x4 s4 o4 => ?_⟩
    have r4 : Gr (fun b => b = p4) hp0 H4 hp0 H4 := Gr.refl (fun b o z => by cases z)
    have h0 : ∀ {H' : Hp}, Ex hp0 H' := fun {H'} b o z => by cases z
    refine ⟨_, rfl, _, rfl, p4, 0, 25, rfl, s4, by decide, by decide, by decide, fun v H5 v0 v1 s5 o5 => ?_⟩
    obtain ⟨rm, hrm⟩ : ∃ rm : Nat, (1 : Int) + v = (rm : Int) := ⟨(1 + v).toNat, by omega⟩
    have g5 := r4.trans (gr_kp (F := hp0) h0 rfl o5)
    refine ⟨_, _, rfl, rfl, hp0, p4, 1, rm, 40, 0, 0, (by show [V.ref p4, V.int (1 + v), _, _, _] = _; rw [hrm] <;> rfl), Nat.le_refl _, by omega, by decide, by omega, by decide, by decide, g5.fh, rfl, s5, by omega, fun F7 H7 vd d g7 f7 s7 dvd sb => ?_⟩
    have g47 := g5.trans g7
    obtain ⟨gs, dep, wt, w1, w2, okk⟩ := sb
    have ok1 := okk 1 (by decide)
    refine ⟨F7, vd, d, 0, 1, 0, wt, rfl, g7.fh, dvd, ok1, by omega, by omega, by omega, fun H8 a8 x8 n8 l8 => ?_⟩
    have wo := words_ok ok1 (by omega) (by omega)
    have wl : (wordsD d).length ≤ 50 := by
      have := words_le_pre d
      rw [pre_len ok1] at this
      omega
    have wdo : ∀ x ∈ wordsD d, WdOk x := fun x hx => ⟨(wo x hx).2, by have := (wo x hx).1; omega⟩
    have wne := words_ne d
    generalize wordsD d = ws at l8 wl wdo wne
    have s8 : SrcB H8 p4 (1 + 8 * rm) := s7.kp fun o h => x8 _ _ h
    have a8p : a8 ≠ p4 := fun z => by obtain ⟨_, _, _, h, _⟩ := s7; rw [z, h] at n8; cases n8
    refine ⟨_, rfl, by decide, by decide, ?_⟩
    refine for_it (walk_range (lo := 0) (n := 12)) (fun i σ' H' => SrcB H' p4 (1 + 8 * rm + 8 * i) ∧ (∀ b o, b ≠ p4 → H8 b = some o → H' b = some o) ∧ ∃ (o4 o5 : Option V), σ' = [some (.ref a), some (.int c), some (.ref p4), some (.ref a8), o4, o5]) ?_ ?_ ?_ ?_
    · exact ⟨s8, fun b o _ e => e, _, _, rfl⟩
    · exact fun _ _ _ _ _ => True.intro
    rotate_left
    · rintro σ' H' ⟨s9, k9, o4, o5, rfl⟩
      refine ⟨fun b o hb => ?_, _, _, _, _, _, rfl⟩
      have hb' := e b o hb
      have b4 : b ≠ p4 := ne_of_none hb' n4
      exact k9 b o b4 (x8 _ _ (g47.kp b o (x4 b o hb') b4))
    rintro i vi σ' Hx H9 hi ⟨s9, k9, o4, o5, rfl⟩ ⟨rfl, hvi⟩
    have hi : i < 12 := hi
    have ev : vi = .int (i : Int) := by rw [hvi]; exact congrArg V.int (by omega)
    subst ev
    refine ⟨_, rfl, _, rfl, p4, a8, _, ws, rfl, s9, by omega, k9 a8 _ a8p l8, a8p, wne, by omega, wdo, fun H10 a10 ws10 h10 ap10 ne10 ln10 ok10 s10 k10 => ?_⟩
    refine ⟨fun σ' H' => ∃ (a11 : Addr) (ws11 : List Str), σ' = [some (.ref a), some (.int c), some (.ref p4), some (.ref a8), some (.int (i : Int)), some (.ref a11)] ∧ H' a11 = some (.lst (ws11.map V.str)) ∧ a11 ≠ p4 ∧ Wds ws11 ∧ SrcB H' p4 (1 + 8 * rm + 8 * i + 8) ∧ (∀ b o, b ≠ p4 → H8 b = some o → H' b = some o), ?_, ?_⟩
    · refine ⟨_, rfl, .inl ⟨_, rfl, _, _, rfl, rfl, (show (0 : Int) < 3 by decide), rfl, _, rfl, ite_of (fun h5 => ?_) (fun h5 => ?_)⟩⟩
      · refine ⟨_, rfl, _, rfl, p4, a10, _, ws10, rfl, s10, by omega, h10, ap10, ne10, by omega, ok10, fun H11 a11 ws11 h11 ap11 ne11 ln11 ok11 s11 k11 => ?_⟩
        exact ⟨a11, ws11, rfl, h11, ap11, ⟨ne11, by omega, ok11⟩, s11.up (by omega), fun b o hb e => k11 b o hb (k10 b o hb (k9 b o hb e))⟩
      · exact ⟨a10, ws10, rfl, h10, ap10, ⟨ne10, by omega, ok10⟩, s10.up (by omega), fun b o hb e => k10 b o hb (k9 b o hb e)⟩
    rintro σ' H11 ⟨a11, ws11, rfl, h11, ap11, wds, s11, k11⟩
    refine ⟨_, rfl, a11, ws11, rfl, h11, wds, fun H12 x12 => ⟨_, rfl, itF rfl ?_⟩⟩
    exact ⟨(s11.kp fun o h => x12 _ _ h).up (by omega), fun b o hb e => x12 _ _ (k11 b o hb e), _, _, rfl⟩
theorem ok_law (T : Tx w h K mg) : Ok P w K mg base 108 ("law", none) ["_law_script"] (sp_law K) := by
  obtain ⟨fd, a, b, c, _⟩ := okF_law (P := P) (base := base) T
  exact ⟨fd, a, b, c⟩
end

end Fc

namespace Fc
open PySem PySem.Spec PyProof.Rows L2
/-- a def that lets nothing out -/
theorem calm_fn {P : Program} {w : World} {K : PySem.W.Frag} {mg : Str → Option Value} {base : Heap} {k : Nat} {f : Addr} {fd : FuncData} {ps : List Str} {sp : Sp} (G : FnOk P w K mg base (L2.CX P w) k f fd ps sp) (hsp : ∀ vs H Q E, sp vs H Q E → sp vs H Q (fun _ _ _ => False)) : FnOk P w K mg base CX0 k f fd ps sp :=
  ⟨G.len, fun A outer s H args us vs Q E hr e b r h => codeAny_mono (G.run A outer s H args us vs Q (fun _ _ _ => False) hr e b r (hsp _ _ _ _ h)) fun r s' hq => by
    cases r with
    | error e =>
      obtain ⟨_, _, _, _, _, _, _, _, _, _, _, _, z⟩ := hq
      exact z.elim
    | ok fl => cases fl <;> exact hq⟩
end Fc
open PySem PySem.W PyProof.Rows in
set_option maxRecDepth 100000 in
set_option maxHeartbeats 0 in
theorem PySem.Challenge.cw_finallycopies_k71_wrong_texts_holds : PySem.Challenge.rw_finallycopies_k71_wrong_texts.Holds := by
  w_on; o_law
  refine HandSHeadRun.head_any (r := Fc.R) (q := view Fc.R.prog [57]) (H := Fc.hk) (ob := Fc.ob) (M := 20000) (loose := Fc.looseL) (d := HandSHeadRun.topDef Fc.R.prog 57) (kwd := []) Fc.ob_eq
    (by kernel_rfl) (fun s => by kernel_rfl) Fc.run (by kernel_rfl) (by kernel_rfl) (by kernel_rfl) (by rfl) (by first | assumption | decide +kernel) (by decide +kernel) ⟨rfl, rfl, rfl, rfl, rfl, by decide +kernel⟩ ?hw ?hc
  case hw => w_witness2
  case hc =>
    refine L2.walk_ofE (l := PySem.Challenge.rw_finallycopies_k71_wrong_texts) (n := 63) (k := 108) (x := "_law_script") (CX := L2.CX0) rfl (by decide) (by kernel_rfl) ⟨rfl, by decide, by decide⟩ ?F (fun _ _ _ _ z => z)
    intro w mg fa h Y G hmg0
    obtain ⟨K, KX, c⟩ := Y
    have hmg : mg ("law" : PySem.Str) = some (.ref fa) := by
      have e : (HandSHeadRun.topDef Fc.R.prog 57).name = ("law" : PySem.Str) := by kernel_rfl
      rw [← e]
      exact hmg0
    have T : Fc.Tx w h K mg := ⟨KX, G, c⟩
    obtain rfl : fa = He.ga K "law" := Value.ref.inj (Option.some.inj (hmg.symm.trans (Fc.g_law T)))
    obtain ⟨fd, F⟩ := Fc.F_law T
    have b := L2.FunD.bindsA (ps := ["_law_script"]) F fun _ _ _ _ _ _ us hl => match us, hl with | [_], _ => rfl
    refine ⟨K, fd, Fc.sp_law K, KX, fun s v => b s [v] rfl, fun H a ns hl _ hS => ⟨a, ns, rfl, hl, hS, fun _ => rfl⟩, fun base _ _ => ?_⟩
    obtain ⟨fd', G', _, _, F'⟩ := Fc.okF_law (P := (PySem.Challenge.rw_finallycopies_k71_wrong_texts).prog) (base := base) T
    obtain rfl : fd = fd' := by
      obtain ⟨_, _, _, _, _, _, _, _, _, _, _, l1, _⟩ := F.ex
      obtain ⟨_, _, _, _, _, _, _, _, _, _, _, l2, _⟩ := F'.ex
      have z := l1.symm.trans l2
      cases z
      rfl
    exact Fc.calm_fn G' (fun _ _ _ _ z => z)


