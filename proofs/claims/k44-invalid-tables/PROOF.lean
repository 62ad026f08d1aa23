import PyProof.Rows.All
import Wide.All
import OpenK.AllK
import Wide.FinOn
import KE.KDictItemsList
import HandS.ForMost
import PyProof.EqAt
import PyProof.EqKinds
import PyProof.EnumMake
import HandS.Exc
import HandS.Conv
import HandS.Evl
import HandS.IsInst
import HandS.Style
import HandS.TupAny
import HandS.Defaults
import HandS.HeadHook4
import HandS.Walk
import KE.KExcInit
import KE.KExcIs
import HandS.ExcOwn
import HandS.ExcInit
import HandS.ExcValue
import HandS.OwnEq
import HandS.MakeKw
import HandS.TryMany
import HandS.ExcField
import HandS.CallLocal
import HandS.Lambda
import HandS.Nested
import HandS.EndTab
import HandS.HeadWalk
import PyProof.ReprRoads
import HandS.Head0
import HandS.Head1
import HandS.Head2
import HandS.HeadEnd
import HandS.HeadHook1
import HandS.HeadHook2
import HandS.HeadHook3
import HandS.More
import PyProof.CallFns
import KE.KDictWalk
import KE.KDictDisplayH
import HandS.Iter
import HandS.Dict
import HandS.DictTup
import HandS.Small
import KE.LtData
import KE.SortData
import KE.KDictSum
import HandS.SetFor
import HandS.Strs
import PySem.Challenge.RW_finallycopies_k44_invalid_tables
set_option Elab.async false
set_option linter.all false
set_option maxRecDepth 100000
set_option maxHeartbeats 4000000
namespace FcE
open PySem PySem.W PySem.Calls PyProof.Rows PyProof.V PySem.Spec
/-- an enumerate object behind a pair that it gave out and that still lives at a -/
def EnB (h : Heap) (e it a : Addr) (f : Bool) (i : Int) (item : Value) : Prop :=
  h.get? e = some { cls := .type "enumerate", dict := none, data := .fields #[rawInt a, .bool f, .ref it, rawInt i, .none, item], slots := #[] }
section
variable {prog : Program} {w : World} {A : Around} {E : Value → Shared → Prop} {s : Shared}
theorem enB_next {e it l a : Addr} {f : Bool} {oa : Obj} {i : Nat} {items : Array Value} {x item : Value} {Q : Option Value → Shared → Prop}
    (he : EnB s.heap e it a f i item) (ha : s.heap.get? a = some oa) (hae : a ≠ e) (hai : a ≠ it) (hit : s.heap.IsListIter it l i) (hl : s.heap.IsList l items) (hx : items[i]? = some x) (hne : e ≠ it)
    (hQ : ∀ h', EnB h' e it a true ((i : Int) + 1) item → h'.IsListIter it l (i + 1) →
      h'.get? s.heap.objs.size = some { cls := .type "tuple", data := .seq #[.int i s.toks, x] } → h'.objs.size = s.heap.objs.size + 1 →
      (∀ b o, b ≠ e → b ≠ it → s.heap.get? b = some o → h'.get? b = some o) → Q (some (.ref s.heap.objs.size)) { s with heap := h', toks := s.toks + 1 }) :
    wpAny (model prog w) A (pyNext (.ref e)) Q E s := by
  obtain ⟨hp, g, d, tk, os⟩ := s
  have hT : Shared.TypeIs ⟨hp, g, d, tk, os⟩ (.ref e) "enumerate" := ⟨_, he, rfl⟩
  unfold pyNext
  refine wpAny_bind (wpAny_attempt (wpAny_callSpecial?_slot (name := Str.ofString "__next__") hT F.slot_enumerate_next
    (wpAny_call_entry F.slot_enumerate_next hT F.entry_enumerate_next ?_ (F.args_enumerate_next_1 _))))
  show wpAny _ _ (field (.ref e) 2 >>= _) _ _ _
  refine wpAny_bind (wpAny_field he rfl (x := .ref it) rfl ?_)
  refine wpAny_bind (wpAny_nextOf_list_item hit hl hx fun h1 hit1 hs1 => ?_)
  replace hs1 : Heap.SameBut it hp h1 := hs1
  have he1 : EnB h1 e it a f i item := (hs1.2 e hne).trans he
  show wpAny _ _ (field (.ref e) 3 >>= _) _ _ ⟨h1, g, d, tk, os⟩
  refine wpAny_bind (wpAny_field he1 rfl (x := rawInt i) rfl ?_)
  show wpAny _ _ (field (.ref e) 4 >>= _) _ _ ⟨h1, g, d, tk, os⟩
  refine wpAny_bind (wpAny_field he1 rfl (x := .none) rfl ?_)
  show wpAny _ _ (mkInt i >>= _) _ _ ⟨h1, g, d, tk, os⟩
  refine wpAny_bind (wpAny_mkInt ?_)
  show wpAny _ _ (setField (.ref e) 3 (rawInt ((i : Int) + 1)) >>= _) _ _ ⟨h1, g, d, tk + 1, os⟩
  refine wpAny_bind (wpAny_setField_rec he1 (by simp) fun h2 he2 hs2 => ?_)
  replace hs2 : Heap.SameBut e h1 h2 := hs2
  replace he2 : EnB h2 e it a f ((i : Int) + 1) item := he2
  show wpAny _ _ (setField (.ref e) 4 .none >>= _) _ _ ⟨h2, g, d, tk + 1, os⟩
  refine wpAny_bind (wpAny_setField_rec he2 (by simp) fun h3 he3 hs3 => ?_)
  replace hs3 : Heap.SameBut e h2 h3 := hs3
  replace he3 : EnB h3 e it a f ((i : Int) + 1) item := he3
  show wpAny _ _ (newTuple [.int i tk, x] >>= _) _ _ ⟨h3, g, d, tk + 1, os⟩
  refine wpAny_bind (wpAny_newTuple ?_)
  have he4 : EnB (h3.push { cls := .type "tuple", data := .seq #[.int i tk, x] }) e it a f ((i : Int) + 1) item := Heap.get?_push_of_some _ he3
  generalize hh4 : h3.push { cls := .type "tuple", data := .seq #[.int i tk, x] } = h4 at he4
  have hsz : h3.objs.size = hp.objs.size := by rw [hs3.1, hs2.1, hs1.1]
  have hel : e < hp.objs.size := Heap.lt_size he
  have ht4 : h4.get? hp.objs.size = some { cls := .type "tuple", data := .seq #[.int i tk, x] } := by rw [← hh4, ← hsz]; exact Heap.get?_push_size _ rfl
  have hz4 : h4.objs.size = hp.objs.size + 1 := by rw [← hh4, Heap.size_push, hsz]
  have hk4 : ∀ b o, b ≠ e → b ≠ it → hp.get? b = some o → h4.get? b = some o := fun b o hbe hbi hb => by
    rw [← hh4]; exact Heap.get?_push_of_some _ (hs3.extBut b o hbe (hs2.extBut b o hbe (hs1.extBut b o hbi hb)))
  have hit4 : h4.IsListIter it l (i + 1) := by
    rw [← hh4]; obtain ⟨o, ho, r⟩ := (hit1.extBut hs2.extBut (Ne.symm hne)).extBut hs3.extBut (Ne.symm hne); exact ⟨o, Heap.get?_push_of_some _ ho, r⟩
  show wpAny _ _ (Builtin.SmallTypes.ownedTupleIsFree (.ref e) >>= _) _ _ ⟨h4, g, d, tk + 1, os⟩
  rw [hsz]
  have ha4 : h4.get? a = some oa := hk4 a oa hae hai ha
  clear hh4 he3 hs3 he2 hs2 he1 hs1 hit1 hsz h3 h2 h1
  refine wpAny_bind ?_
  unfold Builtin.SmallTypes.ownedTupleIsFree
  refine wpAny_bind (wpAny_field he4 rfl (x := rawInt a) rfl ?_)
  show wpAny _ _ (loadIfAlive ((a : Int).toNat) >>= _) _ _ _
  rw [Int.toNat_natCast]
  refine wpAny_bind (kdx_alive ha4 ?_)
  simp only [Option.isNone_some, Bool.false_eq_true, if_false]
  refine wpAny_bind (wpAny_field he4 rfl (x := .bool f) rfl ?_)
  have fin : ∀ h5 : Heap, EnB h5 e it a true ((i : Int) + 1) item → Heap.SameBut e h4 h5 → Q (some (.ref hp.objs.size)) ⟨h5, g, d, tk + 1, os⟩ := fun h5 he5 hs5 =>
    hQ h5 he5 (hit4.extBut hs5.extBut (Ne.symm hne)) (by exact hs5.extBut _ _ (Nat.ne_of_gt hel) ht4) (by show h5.objs.size = hp.objs.size + 1; rw [hs5.1, hz4]) fun b o hbe hbi hb => hs5.extBut b o hbe (hk4 b o hbe hbi hb)
  cases f with
  | true =>
    rw [if_neg (show ¬ ((Value.bool true != Value.bool true) = true) from Bool.false_ne_true)]
    refine wpAny_pure ?_
    simp only [Bool.false_eq_true, if_false]
    exact wpAny_pure ⟨_, rfl, wpAny_pure (fin h4 he4 (Heap.SameBut.refl _ _))⟩
  | false =>
    rw [if_pos (show (Value.bool false != Value.bool true) = true from rfl)]
    refine wpAny_bind (wpAny_setField_rec he4 (by simp) fun h5 he5 hs5 => ?_)
    replace hs5 : Heap.SameBut e h4 h5 := hs5
    replace he5 : EnB h5 e it a true ((i : Int) + 1) item := he5
    refine wpAny_pure ?_
    simp only [Bool.false_eq_true, if_false]
    exact wpAny_pure ⟨_, rfl, wpAny_pure (fin h5 he5 hs5)⟩
theorem enB_done {e it l a : Addr} {f : Bool} {i : Nat} {items : Array Value} {item : Value} {Q : Option Value → Shared → Prop} (hh : A.handled = none)
    (he : EnB s.heap e it a f i item) (hit : s.heap.IsListIter it l i) (hl : s.heap.IsList l items) (hx : items[i]? = none)
    (hQ : ∀ h', Heap.ExtBut it s.heap h' → Q none { s with heap := h' }) : wpAny (model prog w) A (pyNext (.ref e)) Q E s := by
  have hT : s.TypeIs (.ref e) "enumerate" := ⟨_, he, rfl⟩
  unfold pyNext
  refine wpAny_bind (wpAny_attempt (wpAny_callSpecial?_slot (name := Str.ofString "__next__") hT F.slot_enumerate_next
    (wpAny_call_entry F.slot_enumerate_next hT F.entry_enumerate_next ?_ (F.args_enumerate_next_1 _))))
  show wpAny _ _ (field (.ref e) 2 >>= _) _ _ _
  refine wpAny_bind (wpAny_field he rfl (x := .ref it) rfl ?_)
  refine wpAny_bind (wpAny_nextOf_list_end hh hit hl hx fun h' x he' hx' => ?_)
  obtain ⟨o, ho, hc⟩ := hx'
  refine wpAny_bind (wpAny_isInstance (T := "StopIteration") (b := true) ⟨o, ho, hc⟩ isSubtype_stop ?_)
  exact wpAny_pure (hQ _ he')
end
/-- between two pairs: none given out, or the last one lives -/
def EnSt (h : Heap) (e it S : Addr) (i : Nat) : Prop :=
  (i = 0 ∧ ∃ old, IsEnum h e it 0 old) ∨ ∃ a f oa item, EnB h e it a f i item ∧ h.get? a = some oa ∧ a ≠ e ∧ a ≠ it ∧ a ≠ S
theorem EnSt.keep {h h' : Heap} {e it S : Addr} {i : Nat} (x : EnSt h e it S i) (hk : ∀ b o, b ≠ S → h.get? b = some o → h'.get? b = some o) (hS : e ≠ S) : EnSt h' e it S i := by
  rcases x with ⟨z, old, q⟩ | ⟨a, f, oa, item, q, r, n1, n2, n3⟩
  · exact .inl ⟨z, old, hk e _ hS q⟩
  · exact .inr ⟨a, f, oa, item, hk e _ hS q, hk a oa n3 r, n1, n2, n3⟩
/-- the pairs that were given: at as, above lo, in order -/
structure EnG (items : Array Value) (lo : Addr) (h : Heap) (as : List Addr) : Prop where
  above : ∀ a ∈ as, lo < a
  nodup : as.Nodup
  pairs : ∀ (j : Nat) (a : Addr), as[j]? = some a → ∃ t x, items[j]? = some x ∧ h.get? a = some { cls := .type "tuple", data := .seq #[.int j t, x] }
section
variable {prog : Program} {w : World} {A : Around} {E : Value → Shared → Prop} {s : Shared} {R : Result → Shared → Prop} {items : Array Value}
theorem en_item {e it l S : Addr} {i : Nat} {x : Value} {Q : Option Value → Shared → Prop} (hst : EnSt s.heap e it S i) (hS : S < s.heap.objs.size) (hit : s.heap.IsListIter it l i) (hl : s.heap.IsList l items) (hx : items[i]? = some x) (hne : e ≠ it)
    (hQ : ∀ h', EnSt h' e it S (i + 1) → h'.IsListIter it l (i + 1) → h'.get? s.heap.objs.size = some { cls := .type "tuple", data := .seq #[.int i s.toks, x] } → h'.objs.size = s.heap.objs.size + 1 →
      (∀ b o, b ≠ e → b ≠ it → s.heap.get? b = some o → h'.get? b = some o) → Q (some (.ref s.heap.objs.size)) { s with heap := h', toks := s.toks + 1 }) :
    wpAny (model prog w) A (pyNext (.ref e)) Q E s := by
  have itl : it < s.heap.objs.size := by obtain ⟨_, q, _⟩ := hit; exact Heap.lt_size q
  rcases hst with ⟨z, old, q⟩ | ⟨a, f, oa, item, q, r, n1, n2, n3⟩
  · subst z
    refine wpAny_pyNext_enum_item q hit hl hx hne fun h' ho h1 h2 h3 hk => hQ h' (.inr ⟨s.heap.objs.size, false, _, x, ?_, h2, Nat.ne_of_gt (Heap.lt_size q), Nat.ne_of_gt itl, Nat.ne_of_gt hS⟩) h1 h2 h3 hk
    exact ho
  · refine enB_next q r n1 n2 hit hl hx hne fun h' ho h1 h2 h3 hk => hQ h' (.inr ⟨a, true, oa, item, ?_, hk a oa n1 n2 r, n1, n2, n3⟩) h1 h2 h3 hk
    have z : ((i + 1 : Nat) : Int) = (i : Int) + 1 := by omega
    rw [z]
    exact ho
theorem en_done {e it l S : Addr} {i : Nat} {Q : Option Value → Shared → Prop} (hh : A.handled = none) (hst : EnSt s.heap e it S i) (hit : s.heap.IsListIter it l i) (hl : s.heap.IsList l items) (hx : items[i]? = none)
    (hQ : ∀ h', Heap.ExtBut it s.heap h' → Q none { s with heap := h' }) : wpAny (model prog w) A (pyNext (.ref e)) Q E s := by
  rcases hst with ⟨z, old, q⟩ | ⟨a, f, oa, item, q, r, n1, n2, n3⟩
  · subst z
    exact wpAny_pyNext_enum_end hh q hit hl hx hQ
  · exact enB_done hh q hit hl hx hQ
theorem en_loop {S e it l : Addr} (hh : A.handled = none) (hSe : e < S) (hSi : it < S) (hSl : l ≠ S) (hle : l ≠ e) (hli : l ≠ it) (hne : e ≠ it) (hn : items.size ≤ sizeLine) (res : Value) {h0 : Heap}
    (hR : ∀ h' tk acc c as, (∀ b o, b ≠ S → b ≠ e → b ≠ it → h0.get? b = some o → h'.get? b = some o) → h'.get? S = some { cls := .type "list", dict := none, data := .seq acc c, slots := #[] } → as.length = items.size → EnG items S h' as →
      acc.toList = as.map Value.ref → R (.ok (.ret res)) { s with heap := h', toks := tk }) :
    ∀ (k i : Nat) (h : Heap) (tk c : Nat) (acc : Array Value) (as : List Addr), items.size - i = k → i ≤ items.size → EnSt h e it S i → h.IsListIter it l i → h.IsList l items → (∀ b o, b ≠ S → b ≠ e → b ≠ it → h0.get? b = some o → h.get? b = some o) →
      h.get? S = some { cls := .type "list", dict := none, data := .seq acc c, slots := #[] } → acc.toList = as.map Value.ref → as.length = i → EnG items S h as →
      codeAny (model prog w) A (.builtin "list.extend.loop" ⟨[.ref S, .ref e, res], []⟩) R { s with heap := h, toks := tk } := by
  have nSe : S ≠ e := Nat.ne_of_gt hSe
  have nSi : S ≠ it := Nat.ne_of_gt hSi
  intro k
  induction k with
  | zero =>
    intro i h tk c acc as hk hi hst hit hl hkeep hS hacc hal hG
    have hin : i = items.size := by omega
    refine codeAny_builtin PySem.F.entry_extend_loop ?_
    rw [Around.under_plainId PySem.F.plain_extend_loop _]
    show wpAny _ A.in1 (pyNext (.ref e) >>= _) _ _ _
    refine wpAny_bind (en_done (s := { s with heap := h, toks := tk }) (A := A.in1) hh hst hit hl (Array.getElem?_eq_none (by omega)) fun h' he => ?_)
    refine wpAny_pure (hR h' tk acc c as (fun b o h1 h2 h3 z => he b o h3 (hkeep b o h1 h2 h3 z)) (he S _ nSi hS) (by omega) ⟨hG.above, hG.nodup, fun j a hj => ?_⟩ hacc)
    obtain ⟨t, x, e1, e2⟩ := hG.pairs j a hj
    exact ⟨t, x, e1, he a _ (Nat.ne_of_gt (Nat.lt_trans hSi (hG.above a (List.mem_of_getElem? hj)))) e2⟩
  | succ k ih =>
    intro i h tk c acc as hk hi hst hit hl hkeep hS hacc hal hG
    have hlt : i < items.size := by omega
    have hsz : acc.size = i := by rw [← Array.length_toList, hacc, List.length_map, hal]
    have hx : items[i]? = some items[i] := Array.getElem?_eq_getElem hlt
    have hSz : S < h.objs.size := Heap.lt_size hS
    refine codeAny_builtin PySem.F.entry_extend_loop ?_
    rw [Around.under_plainId PySem.F.plain_extend_loop _]
    show wpAny _ A.in1 (pyNext (.ref e) >>= _) _ _ _
    refine wpAny_bind (en_item (s := { s with heap := h, toks := tk }) (S := S) hst hSz hit hl hx hne fun h' hst' hit' ht hz hkp => ?_)
    dsimp only at ht hz hkp ⊢
    have hS' := hkp S _ nSe nSi hS
    have up : ∀ b o, b ≠ S → h'.get? b = some o → (h'.update S (Obj.mapSeq (·.push (Value.ref h.objs.size)))).get? b = some o := fun b o hb z => (Heap.get?_update_other _ _ (Ne.symm hb)).trans z
    have hl' : (h'.update S (Obj.mapSeq (·.push (Value.ref h.objs.size)))).IsList l items := hl.at fun o z => up l o hSl (hkp l o hle hli z)
    have hit2 : (h'.update S (Obj.mapSeq (·.push (Value.ref h.objs.size)))).IsListIter it l (i + 1) := hit'.at fun o z => up it o (Ne.symm nSi) z
    show wpAny _ A.in1 (updateSeq S (·.push (Value.ref h.objs.size)) >>= _) _ _ _
    refine wpAny_bind ?_
    refine wpAny_updateSeq hS' rfl (wpAny_pure ⟨plainId_quiet PySem.F.plain_extend_loop _, ih (i + 1) _ (tk + 1) _ (acc.push (Value.ref h.objs.size)) (as ++ [h.objs.size]) (by omega) hlt (hst'.keep up (Ne.symm nSe)) hit2 hl'
      (fun b o h1 h2 h3 z => up b o h1 (hkp b o h2 h3 (hkeep b o h1 h2 h3 z))) (Heap.get?_update_self _ hS' rfl) (by rw [Array.toList_push, hacc, List.map_append]; rfl) (by rw [List.length_append, hal]; rfl) ⟨?_, ?_, ?_⟩⟩) (by rw [hsz]; omega) (by show (acc.push (Value.ref h.objs.size)).size ≤ sizeLine + 1; rw [Array.size_push, hsz]; omega)
    · intro a ha
      rcases List.mem_append.mp ha with ha | ha
      · exact hG.above a ha
      · rw [List.mem_singleton.mp ha]; exact hSz
    · refine List.nodup_append.mpr ⟨hG.nodup, List.nodup_cons.mpr ⟨List.not_mem_nil, List.nodup_nil⟩, fun a ha b hb => ?_⟩
      rw [List.mem_singleton.mp hb]
      obtain ⟨j, hj⟩ := List.mem_iff_getElem?.mp ha
      obtain ⟨_, _, _, z⟩ := hG.pairs j a hj
      exact Nat.ne_of_lt (Heap.lt_size z)
    · intro j b hj
      rcases Nat.lt_trichotomy j as.length with h1 | h1 | h1
      · rw [List.getElem?_append_left h1] at hj
        obtain ⟨t, x, e1, e2⟩ := hG.pairs j b hj
        have hb := hG.above b (List.mem_of_getElem? hj)
        exact ⟨t, x, e1, up b _ (Nat.ne_of_gt hb) (hkp b _ (Nat.ne_of_gt (Nat.lt_trans hSe hb)) (Nat.ne_of_gt (Nat.lt_trans hSi hb)) e2)⟩
      · subst h1
        have hb : h.objs.size = b := by simpa using hj
        subst hb
        subst hal
        exact ⟨tk, _, hx, up _ _ (Nat.ne_of_gt hSz) ht⟩
      · have hnone : (as ++ [h.objs.size])[j]? = none := List.getElem?_eq_none (by rw [List.length_append, List.length_singleton]; omega)
        rw [hnone] at hj; cases hj
end
theorem nolen_enum : typeLookup (.type "enumerate") "__len__" = pure none := by rw [typeLookup_type, builtinLookup_eq_fast]; kernel_rfl
theorem nohint_enum : typeLookup (.type "enumerate") "__length_hint__" = pure none := by rw [typeLookup_type, builtinLookup_eq_fast]; kernel_rfl
section
variable {prog : Program} {w : World} {A : Around} {E : Value → Shared → Prop} {s : Shared} {items : Array Value}
theorem en_hint {r : Addr} {Q : Bool → Shared → Prop} (hT : s.TypeIs (.ref r) "enumerate") (h : Q true s) : wpAny (model prog w) A (Builtin.List.listLengthHint (.ref r)) Q E s := by
  unfold Builtin.List.listLengthHint
  refine wpAny_bind (wpAny_specialOf hT nolen_enum ?_)
  refine wpAny_ite_split (fun hab => absurd hab (by decide)) (fun _ => ?_)
  refine wpAny_ite_split (fun hab => absurd hab (by decide)) (fun _ => ?_)
  refine wpAny_bind (wpAny_specialOf hT nohint_enum ?_)
  exact wpAny_pure h
theorem en_extend {R : Result → Shared → Prop} {S e it l : Addr} (hh : A.handled = none) (hSe : e < S) (hSi : it < S) (hSl : l ≠ S) (hle : l ≠ e) (hli : l ≠ it) (hne : e ≠ it) (hst : IsEnum s.heap e it 0 .none) (hit : s.heap.IsListIter it l 0) (hl : s.heap.IsList l items)
    (res : Value) (c0 : Nat) (hS : s.heap.get? S = some { cls := .type "list", data := .seq #[] c0 })
    (hR : ∀ h' tk acc c as, (∀ b o, b ≠ S → b ≠ e → b ≠ it → s.heap.get? b = some o → h'.get? b = some o) → h'.get? S = some { cls := .type "list", dict := none, data := .seq acc c, slots := #[] } → as.length = items.size → EnG items S h' as →
      acc.toList = as.map Value.ref → R (.ok (.ret res)) { s with heap := h', toks := tk }) (hn : items.size ≤ sizeLine) :
    wpAny (model prog w) A.in1 (Builtin.List.listExtendWith (.ref S) (.ref e) res)
      (fun fin s' => match fin with | .done f => R (.ok f) s' | .again c' => c'.quiet = true ∧ codeAny (model prog w) A c' R s') (fun e s' => R (.error e) s') s := by
  have nSe : S ≠ e := Nat.ne_of_gt hSe
  have hT : s.TypeIs (.ref e) "enumerate" := ⟨_, hst, rfl⟩
  have key : ∀ (h : Heap) (c1 tk : Nat), (∀ b o, b ≠ S → s.heap.get? b = some o → h.get? b = some o) → h.get? S = some { cls := .type "list", data := .seq #[] c1 } →
      codeAny (model prog w) A (.builtin "list.extend.loop" ⟨[.ref S, .ref e, res], []⟩) R { s with heap := h, toks := tk } := by
    intro h c1 tk hk hS1
    exact en_loop (items := items) (s := s) (h0 := s.heap) hh hSe hSi hSl hle hli hne hn res hR items.size 0 h tk c1 #[] [] (Nat.sub_zero _) (Nat.zero_le _) (.inl ⟨rfl, .none, hk e _ (Ne.symm nSe) hst⟩)
      (hit.at fun o z => hk it o (Nat.ne_of_lt hSi) z) (hl.at fun o z => hk l o hSl z) (fun b o h1 _ _ z => hk b o h1 z) hS1 rfl rfl ⟨(fun _ z => nomatch z), List.nodup_nil, fun j a hj => by simp at hj⟩
  unfold Builtin.List.listExtendWith
  refine wpAny_bind (wpAny_typeOf (T := "enumerate") hT ?_)
  have h1 : Builtin.List.listSameRef (.ref S) (.ref e) = false := by simp [Builtin.List.listSameRef, nSe]
  have h2 : (Value.type "enumerate" == Value.type "list") = false := by decide
  have h3 : (Value.type "enumerate" == Value.type "tuple") = false := by decide
  simp only [h1, h2, h3, Bool.or_false, Bool.false_eq_true, if_false]
  refine wpAny_bind (wpAny_pyIter_enum hst ?_)
  refine wpAny_bind (wpAny_holding (en_hint hT ?_))
  refine wpAny_ite_split (fun _ => ?_) (fun _ => wpAny_pure ⟨plainId_quiet PySem.F.plain_extend_loop _, key _ c0 _ (fun b o _ z => z) hS⟩)
  refine wpAny_bind (wpAny_rule ?_)
  refine wpAny_bind ?_
  show wpAny _ _ (updateSeq S (·.push .none) >>= fun _ => updateSeq S (·.pop)) _ _ _
  refine wpAny_bind (wpAny_updateSeq hS rfl ?_)
  have hS2 := Heap.get?_update_self (Obj.mapSeq (·.push Value.none)) hS rfl
  refine wpAny_updateSeq (hz := by seq_fits) hS2 rfl ?_
  have hS3 := Heap.get?_update_self (Obj.mapSeq (·.pop)) hS2 rfl
  refine wpAny_pure ⟨plainId_quiet PySem.F.plain_extend_loop _, key _ _ _ (fun b o hb z => ?_) hS3⟩
  exact (Heap.get?_update_other _ _ (Ne.symm hb)).trans ((Heap.get?_update_other _ _ (Ne.symm hb)).trans z)
theorem en_call {Q : Value → Shared → Prop} {e it l : Addr} (hh : A.handled = none) (hle : l ≠ e) (hli : l ≠ it) (hne : e ≠ it) (hst : IsEnum s.heap e it 0 .none) (hit : s.heap.IsListIter it l 0) (hl : s.heap.IsList l items) (hn : items.size ≤ sizeLine)
    (hQ : ∀ h' tk acc c as, (∀ b o, b ≠ e → b ≠ it → s.heap.get? b = some o → h'.get? b = some o) → h'.get? s.heap.objs.size = some { cls := .type "list", dict := none, data := .seq acc c, slots := #[] } → as.length = items.size → EnG items s.heap.objs.size h' as →
      acc.toList = as.map Value.ref → Q (.ref s.heap.objs.size) { s with heap := h', toks := tk }) :
    wpAny (model prog w) A (call (.type "list") [.ref e]) Q E s := by
  refine callType_codes (Q₁ := fun obj s₁ => obj = .ref s.heap.objs.size ∧ s₁ = { s with heap := s.heap.push { cls := .type "list", data := .seq #[] } }) PySem.F.called_list (PySem.F.typeCall_list_1 _) PySem.F.entry_list_init
    (code_list_new _ ⟨rfl, rfl⟩) fun obj s₁ h₁ => ?_
  obtain ⟨rfl, rfl⟩ := h₁
  have up : ∀ b o, s.heap.get? b = some o → (s.heap.push { cls := .type "list", data := .seq #[] }).get? b = some o := fun b o z => Heap.get?_push_of_some _ z
  have hS : (s.heap.push { cls := .type "list", data := .seq #[] }).get? s.heap.objs.size = some { cls := .type "list", data := .seq #[] } := Heap.get?_push_size _ rfl
  have le : e < s.heap.objs.size := Heap.lt_size hst
  have li : it < s.heap.objs.size := by obtain ⟨_, q, _⟩ := hit; exact Heap.lt_size q
  have ll : l ≠ s.heap.objs.size := by obtain ⟨_, q, _⟩ := hl; exact Nat.ne_of_lt (Heap.lt_size q)
  refine ⟨⟨_, hS, rfl⟩, PySem.F.args_list_init_2 _ _, ?_⟩
  show wpAny _ _ (do let old ← Builtin.List.listItems (.ref s.heap.objs.size); Builtin.List.listUpdate (.ref s.heap.objs.size) (fun _ => #[]); letGo old.toList.reverse; Builtin.List.listExtendWith (.ref s.heap.objs.size) (.ref e) .none) _ _ _
  refine wpAny_bind ?_
  unfold Builtin.List.listItems
  refine wpAny_bind (wpAny_seqItems hS rfl (wpAny_pure ?_))
  show wpAny _ _ (updateSeq s.heap.objs.size (fun _ => #[]) >>= fun _ => letGo (#[] : Array Value).toList.reverse >>= fun _ => Builtin.List.listExtendWith (.ref s.heap.objs.size) (.ref e) .none) _ _ _
  refine wpAny_bind (wpAny_updateSeq hS rfl ?_)
  have hS2 := Heap.get?_update_self (Obj.mapSeq (fun _ => (#[] : Array Value))) hS rfl
  have oth : ∀ b o, b ≠ s.heap.objs.size → s.heap.get? b = some o → ((s.heap.push { cls := .type "list", data := .seq #[] }).update s.heap.objs.size (Obj.mapSeq (fun _ => (#[] : Array Value)))).get? b = some o :=
    fun b o hb z => (Heap.get?_update_other _ _ (Ne.symm hb)).trans (up b o z)
  refine wpAny_bind (wpAny_letGo ?_)
  refine en_extend (A := A.in1) hh le li ll hle hli hne (oth e _ (Nat.ne_of_lt le) hst) (hit.at fun o z => oth it o (Nat.ne_of_lt li) z) (hl.at fun o z => oth l o ll z) .none _ hS2 (fun h' tk acc c as hk h1 h2 h3 h4 => ?_) hn
  exact ⟨rfl, hQ h' tk acc c as (fun b o n1 n2 z => hk b o (Nat.ne_of_lt (Heap.lt_size z)) n1 n2 (oth b o (Nat.ne_of_lt (Heap.lt_size z)) z)) h1 h2 h3 h4⟩
end
end FcE
set_option maxRecDepth 100000
set_option maxHeartbeats 4000000
namespace FcR
open PySem PySem.Spec PyProof.Rows L2
theorem passF {P : Program} {w : World} {X : Cx} : Passes (CX P w) X (fun _ _ _ => False) := fun _ _ _ _ _ _ _ h => by
  obtain ⟨_, _, _, _, _, _, _, _, _, _, _, _, z⟩ := h
  exact z.elim
def gFld (K : PySem.W.Frag) (to : TE) (f : Str) : TG := fun v σ H Q => to σ H fun x H1 => ∃ a C dx fs, x = .ref a ∧ H1 a = some (.ins C dx fs) ∧ Cls K C ∧ NoAttr K C f ∧ fs.length < 1000 ∧ Q σ (upd H1 a (.ins C dx (putF f v fs)))
theorem pg_fld {X : Cx} {o : Expr} {f : Str} {pos : Pos} {to : TE} (ho : PE X o to) : PG X (.Attribute o f pos) (gFld X.K to f) := by
  refine ⟨fun pins s σ H v u Q I r h => ?_⟩
  have ea : assign (.Attribute o f pos) X.env u = (do
      let ov ← holding [u] (eval o X.env)
      standAt pos.atName
      holding [u, ov] (setAttr ov f u)
      release [u, ov] []) := rfl
  rw [ea]
  refine wpAny_bind (wpAny_holding (thn (ho.run pins s σ H _ I h) fun ov s1 ⟨x, H1, I1, r1, a, C, dx, fs, ex, e1, c, n, l, q⟩ => ?_))
  subst ex
  obtain rfl : ov = Value.ref a := r1
  refine wpAny_bind (wpAny_standAt (wpAny_bind (wpAny_holding ?_)))
  exact setattr_ok I1 e1 c n l r fun s3 I3 => wpAny_release ⟨σ, _, I3, q⟩
def putP : Hp → List Addr → Nat → List V → Hp
  | H, a :: as, j, x :: xs => putP (upd H a (.tup [.int (j : Int), x])) as (j + 1) xs
  | H, _, _, _ => H
theorem putP_off {b : Addr} : ∀ (as : List Addr) (xs : List V) (j : Nat) (H : Hp), b ∉ as → putP H as j xs b = H b
  | [], _, _, _, _ => rfl
  | _ :: _, [], _, _, _ => rfl
  | a :: as, x :: xs, j, H, h => by
    show putP (upd H a (.tup [.int (j : Int), x])) as (j + 1) xs b = H b
    rw [putP_off as xs _ _ (fun z => h (List.mem_cons_of_mem _ z)), upd_ne (fun z => h (by rw [z]; exact List.mem_cons_self))]
theorem putP_at : ∀ (as : List Addr) (xs : List V) (j : Nat) (H : Hp), as.length = xs.length → as.Nodup → ∀ (i : Nat) (a : Addr) (x : V), as[i]? = some a → xs[i]? = some x → putP H as j xs a = some (.tup [.int ((j + i : Nat) : Int), x])
  | [], _, _, _, _, _, i, a, x, h, _ => by simp at h
  | _ :: _, [], _, _, h, _, _, _, _, _, _ => by cases h
  | a0 :: as, x0 :: xs, j, H, h, hn, 0, a, x, h1, h2 => by
    have hn' := List.nodup_cons.mp hn
    simp at h1 h2
    subst h1 h2
    show putP (upd H a0 (.tup [.int (j : Int), x0])) as (j + 1) xs a0 = _
    rw [putP_off as xs _ _ hn'.1, upd_same] <;> rfl
  | a0 :: as, x0 :: xs, j, H, h, hn, i + 1, a, x, h1, h2 => by
    have ih := putP_at as xs (j + 1) (upd H a0 (.tup [.int (j : Int), x0])) (Nat.succ.inj h) (List.nodup_cons.mp hn).2 i a x (by simpa using h1) (by simpa using h2)
    have e : j + 1 + i = j + (i + 1) := by omega
    rw [e] at ih
    exact ih
def rEnumL (K : PySem.W.Frag) : V → Hp → VK → Prop := fun x H Q => ∃ (a : Addr) (xs : List V), x = .ref a ∧ SqL K H a xs ∧
  ∀ (H' : Hp) (p : Addr) (ts : List Addr), (∀ b o, H b = some o → H' b = some o) → H p = none → (∀ t ∈ ts, H t = none) → p ∉ ts → ts.Nodup → ts.length = xs.length → H' p = some (.lst (ts.map V.ref)) →
    (∀ (i : Nat) (t : Addr) (x : V), ts[i]? = some t → xs[i]? = some x → H' t = some (.tup [.int (i : Int), x])) → Q (.ref p) H'
def tListEnum (K : PySem.W.Frag) (te : TE) : TE := fun σ H Q => te σ H fun x H1 => rEnumL K x H1 Q
theorem vals_refs : ∀ as : List Addr, Vals (as.map V.ref) (as.map Value.ref)
  | [] => .nil
  | _ :: as => .cons rfl (vals_refs as)
section
variable {X : Cx} {e : Expr} {te : TE} {p p2 pos2 pos : Pos}
theorem enum_laid {pins : List (Addr × Obj)} {σ : L2.St} {H : Hp} {s : Shared} {h' : Heap} {tk : Nat} {xs : List V} {its : List Value} {acc : Array Value} {c : Nat} {as : List Addr} {S : Addr} (hge : s.heap.objs.size ≤ S) (I : Inv X pins σ H s) (hz : xs.length ≤ sizeLine) (rv : Vals xs its)
    (hk : ∀ b o, s.heap.get? b = some o → h'.get? b = some o) (hS : h'.get? S = some { cls := .type "list", dict := none, data := .seq acc c, slots := #[] }) (hl : as.length = xs.length) (hG : FcE.EnG its.toArray S h' as) (hacc : acc.toList = as.map Value.ref) :
    ∃ H' : Hp, (∀ b o, H b = some o → H' b = some o) ∧ H S = none ∧ (∀ t ∈ as, H t = none) ∧ S ∉ as ∧ H' S = some (.lst (as.map V.ref)) ∧
      (∀ (i : Nat) (t : Addr) (x : V), as[i]? = some t → xs[i]? = some x → H' t = some (.tup [.int (i : Int), x])) ∧ Inv X pins σ H' { s with heap := h', toks := tk } := by
  have hSn : S ∉ as := fun z => Nat.lt_irrefl _ (hG.above _ z)
  have new : ∀ t ∈ as, H t = none := fun t ht => I.hok.fresh (Nat.le_trans hge (Nat.le_of_lt (hG.above t ht)))
  have newS : H S = none := I.hok.fresh hge
  have atP : ∀ (i : Nat) (t : Addr) (x : V), as[i]? = some t → xs[i]? = some x → putP (upd H S (.lst (as.map V.ref))) as 0 xs t = some (.tup [.int (i : Int), x]) := fun i t x h1 h2 => by
    have z := putP_at as xs 0 (upd H S (.lst (as.map V.ref))) hl hG.nodup i t x h1 h2
    rw [Nat.zero_add] at z
    exact z
  have off : ∀ b, b ∉ as → b ≠ S → putP (upd H S (.lst (as.map V.ref))) as 0 xs b = H b := fun b h1 h2 => by rw [putP_off as xs _ _ h1, upd_ne h2]
  have low : ∀ b o, s.heap.get? b = some o → b ∉ as ∧ b ≠ S := fun b o z => ⟨fun y => absurd (Heap.lt_size z) (Nat.not_lt.mpr (Nat.le_trans hge (Nat.le_of_lt (hG.above b y)))), Nat.ne_of_lt (Nat.lt_of_lt_of_le (Heap.lt_size z) hge)⟩
  have kp : ∀ b u, H b = some u → (putP (upd H S (.lst (as.map V.ref))) as 0 xs) b = some u := fun b u z => by
    rw [off b (fun y => by rw [new b y] at z; cases z) (fun y => by rw [y, newS] at z; cases z)]
    exact z
  have eS : putP (upd H S (.lst (as.map V.ref))) as 0 xs S = some (.lst (as.map V.ref)) := by rw [putP_off as xs _ _ hSn, upd_same]
  refine ⟨putP (upd H S (.lst (as.map V.ref))) as 0 xs, kp, newS, new, hSn, eS, atP, ?_⟩
  refine I.call' (ch := []) rfl ⟨fun b o q _ _ _ => hk b o q, fun b o q _ _ _ => ⟨o.slots, hk b o q⟩, fun b o q n _ => ?_, fun b o q _ => ⟨o, hk b o q⟩, fun b ys q => kp b _ q, fun b o u q => kp b _ q, fun b ps q => ⟨#[], by rw [kp b _ q]; simp⟩⟩ (fun b u q => ?_) I.bare fun b z => by simp at z
  · obtain ⟨z1, z2⟩ := low b o q
    rw [off b z1 z2]
    exact n
  · by_cases hb : b ∈ as
    · obtain ⟨j, hj⟩ := List.mem_iff_getElem?.mp hb
      have jl : j < xs.length := by rw [← hl]; exact (List.getElem?_eq_some_iff.mp hj).1
      have hx : xs[j]? = some xs[j] := List.getElem?_eq_getElem jl
      rw [atP j b _ hj hx] at q
      cases q
      obtain ⟨t, x, f1, f2⟩ := hG.pairs j b hj
      obtain ⟨u, g1, g2⟩ := rv.get hx
      have ex : x = u := by
        have f1' : its[j]? = some x := by simpa using f1
        rw [g1] at f1'
        exact (Option.some.inj f1').symm
      exact ⟨by show 2 ≤ sizeLine; decide, [.int (j : Int) t, x], .cons ⟨t, rfl⟩ (.cons (by rw [ex]; exact g2) .nil), ⟨_, f2, rfl, _, rfl⟩⟩
    · by_cases hb2 : b = S
      · rw [hb2] at q ⊢
        rw [eS] at q
        cases q
        refine ⟨by rw [List.length_map]; omega, acc.toList, c, by rw [hacc]; exact vals_refs as, ?_⟩
        rw [Array.toArray_toList]
        exact hS
      · rw [off b hb hb2] at q
        exact (I.hok b u q).stay (fun d v _ y => hk d v y) (fun d y => kp d _ y) fun d ys y => kp d _ y
theorem pe_listEnum (hc : X.calm = true) (he : PE X e te) (hg : Gl X "list") (hm : X.mg "list" = none) (hv : bootBuiltins "list" = some (.type "list")) (hg2 : Gl X "enumerate") (hm2 : X.mg "enumerate" = none) (hv2 : bootBuiltins "enumerate" = some (.type "enumerate"))
    (hs : starEach [.Call (.Name "enumerate" p2) [e] [] pos2] X.env = (false, eval (.Call (.Name "enumerate" p2) [e] [] pos2) X.env) :: starEach [] X.env := by rfl) (hs2 : starEach [e] X.env = (false, eval e X.env) :: starEach [] X.env := by rfl) :
    PE X (.Call (.Name "list" p) [.Call (.Name "enumerate" p2) [e] [] pos2] [] pos) (tListEnum X.K te) := by
  refine ⟨fun pins s σ H Q I hq => ?_⟩
  refine wpAny_Call_Name_kw (ld_blt I hg hm hv ?_)
  refine PyProof.Rows.callWith_type1 ?_ hs rfl
  rw [hs]
  show wpAny _ _ (spliced ((false, eval (.Call (.Name "enumerate" p2) [e] [] pos2) X.env) :: backTo pos (starEach [] X.env))) _ _ s
  refine Calls.spliced_cons ?_
  refine wpAny_Call_Name_kw (ld_blt I hg2 hm2 hv2 ?_)
  refine PyProof.Rows.callWith_type1 ?_ hs2 rfl
  rw [hs2]
  show wpAny _ _ (spliced ((false, eval e X.env) :: backTo pos2 (starEach [] X.env))) _ _ s
  refine Calls.spliced_cons (thn (he.run pins s σ H _ I hq) fun u s1 ⟨x, H1, I1, rx, a, xs, ex, hL, q⟩ => ?_)
  subst ex
  obtain rfl : u = Value.ref a := rx
  refine Calls.spliced_nil ?_
  obtain ⟨its, rv, hl0, hz⟩ := I1.list hL
  have hl : s1.heap.IsList a its.toArray := hl0.isList
  have al : a < s1.heap.objs.size := by obtain ⟨_, y, _⟩ := hl; exact Heap.lt_size y
  refine call_enumerate_list hl fun h1 hE hI hsz hk => ?_
  refine Calls.spliced_nil ?_
  have hl1 : h1.IsList a its.toArray := hl.at fun o y => hk a o y
  have lx : xs.length = its.length := rv.length
  have hlen : its.toArray.size = xs.length := by simp [lx]
  refine FcE.en_call (items := its.toArray) (I1.ok.hd hc) (Nat.ne_of_lt (Nat.lt_succ_of_lt al)) (Nat.ne_of_lt al) (Nat.succ_ne_self _) hE hI hl1 (by rw [hlen]; exact hz) fun h' tk acc c as hkk hS hla hG hacc => ?_
  obtain ⟨H', k1, k2, k3, k4, k5, k6, J⟩ := enum_laid (tk := tk) (S := h1.objs.size) (by rw [hsz]; exact Nat.le_add_right _ _) I1 hz rv
    (fun b o y => hkk b o (Nat.ne_of_lt (Nat.lt_succ_of_lt (Heap.lt_size y))) (Nat.ne_of_lt (Heap.lt_size y)) (hk b o y)) hS (by rw [hla, hlen]) hG hacc
  exact ⟨.ref _, H', J, rfl, q H' _ as k1 k2 k3 k4 hG.nodup (by rw [hla, hlen]) k5 k6⟩
def rEqM (K : PySem.W.Frag) : R2 := fun x y H Q => ∃ d e, Dp K H x d ∧ Dp K H y e ∧ PyData.canLay0 d = true ∧ PyData.canLay0 e = true ∧ min d.depth e.depth ≤ 200 ∧ Q (.bl (PyData.eqv d e)) H
def rNeM (K : PySem.W.Frag) : R2 := fun x y H Q => ∃ d e, Dp K H x d ∧ Dp K H y e ∧ PyData.canLay0 d = true ∧ PyData.canLay0 e = true ∧ min d.depth e.depth ≤ 200 ∧ Q (.bl (!PyData.eqv d e)) H
theorem op_eqM {k : Nat} (hr : Room k X.A) : OpR X (compareOp .Eq) (rEqM X.K) := by
  intro pins s σ H x y v u Q I rx ry h
  obtain ⟨d, e, hd, he, sd, se, hm, q⟩ := h
  obtain ⟨as, r1⟩ := Dp.reads I d x v hd rx
  obtain ⟨bs, r2⟩ := Dp.reads I e y u he ry
  exact SeqAt.compareEq_reads r1 r2 sd se (by have := hr.un; omega) ⟨.bl _, H, I, rfl, q⟩
theorem op_neM {k : Nat} (hr : Room k X.A) : OpR X (compareOp .NotEq) (rNeM X.K) := by
  intro pins s σ H x y v u Q I rx ry h
  obtain ⟨d, e, hd, he, sd, se, hm, q⟩ := h
  obtain ⟨as, r1⟩ := Dp.reads I d x v hd rx
  obtain ⟨bs, r2⟩ := Dp.reads I e y u he ry
  exact SeqAt.compareNe_reads r1 r2 sd se (by have := hr.un; omega) ⟨.bl _, H, I, rfl, q⟩
end
end FcR
set_option maxRecDepth 100000
set_option maxHeartbeats 4000000
namespace Fc
open PySem PySem.Spec PyProof.Rows L2 FcR
open Evl (Ex)
theorem b_len : bootBuiltins "len" = some (.builtin "len") := by decide +kernel
theorem b_isinstance : bootBuiltins "isinstance" = some (.builtin "isinstance") := by decide +kernel
theorem b_all : bootBuiltins "all" = some (.builtin "all") := by decide +kernel
theorem b_list : bootBuiltins "list" = some (.type "list") := by decide +kernel
theorem b_tuple : bootBuiltins "tuple" = some (.type "tuple") := by decide +kernel
theorem b_int : bootBuiltins "int" = some (.type "int") := by decide +kernel
theorem b_bool : bootBuiltins "bool" = some (.type "bool") := by decide +kernel
theorem b_str : bootBuiltins "str" = some (.type "str") := by decide +kernel
theorem b_enumerate : bootBuiltins "enumerate" = some (.type "enumerate") := by decide +kernel
def Ok (P : Program) (w : World) (K : PySem.W.Frag) (mg : Str → Option Value) (base : Heap) (k : Nat) (at_ : Str × Option Str) (ps : List Str) (sp : Sp) : Prop :=
  ∃ fd, FnOk P w K mg base (CX P w) k (He.fAd K at_) fd ps sp ∧ Binds K fd ps [] ∧ PySem.W.keepIn K (.ref (He.fAd K at_)) = true
theorem Ok.mono {P : Program} {w : World} {K : PySem.W.Frag} {mg : Str → Option Value} {base : Heap} {j k : Nat} {at_ : Str × Option Str} {ps : List Str} {sp : Sp} (h : Ok P w K mg base j at_ ps sp) (e : j ≤ k) : Ok P w K mg base k at_ ps sp := by
  obtain ⟨fd, G, b, kp⟩ := h
  exact ⟨fd, G.mono e, b, kp⟩
theorem ite_of {c : Bool} {A B : Prop} (h1 : c = true → A) (h2 : c = false → B) : if c = true then A else B := by
  cases c with
  | true => rw [if_pos rfl]; exact h1 rfl
  | false => rw [if_neg Bool.false_ne_true]; exact h2 rfl
theorem itT {c : Bool} {A B : Prop} (hc : c = true) (h : A) : if c = true then A else B := by
  rw [if_pos hc]
  exact h
theorem itF {c : Bool} {A B : Prop} (hc : c = false) (h : B) : if c = true then A else B := by
  rw [hc, if_neg Bool.false_ne_true]
  exact h
theorem sz {n : Nat} (h : n ≤ 100000) : n ≤ sizeLine := Evl.sz_of h
theorem szl {n : Nat} (h : n < 100000) : n < sizeLine := Evl.sz_lt h
mutual
theorem dp_ex {K : PySem.W.Frag} {H H' : Hp} (e : Ex H H') : ∀ {d : PyData} {v : V}, Dp K H v d → Dp K H' v d
  | _, _, .non => .non
  | _, _, .bl b => .bl b
  | _, _, .int i => .int i
  | _, _, .str x => .str x
  | _, _, .lst h a => .lst (Evl.ex_l e h) (dpA_ex e a)
  | _, _, .tup h a => .tup (Evl.ex_t e h) (dpA_ex e a)
theorem dpA_ex {K : PySem.W.Frag} {H H' : Hp} (e : Ex H H') : ∀ {ds : List PyData} {vs : List V}, DpAll K H vs ds → DpAll K H' vs ds
  | _, _, .nil => .nil
  | _, _, .cons h a => .cons (dp_ex e h) (dpA_ex e a)
end
theorem dpA_len {K : PySem.W.Frag} {H : Hp} : ∀ {ds : List PyData} {vs : List V}, DpAll K H vs ds → vs.length = ds.length
  | _, _, .nil => rfl
  | _, _, .cons _ a => congrArg Nat.succ (dpA_len a)
theorem dpA_get {K : PySem.W.Frag} {H : Hp} : ∀ {ds : List PyData} {vs : List V}, DpAll K H vs ds → ∀ {i : Nat} {d : PyData}, ds[i]? = some d → ∃ v, vs[i]? = some v ∧ Dp K H v d
  | _, _, .nil, i, d, h => by simp at h
  | _, _, .cons h a, 0, d, e => by simp at e; subst e; exact ⟨_, rfl, h⟩
  | _, _, .cons h a, i + 1, d, e => by
    obtain ⟨v, e1, e2⟩ := dpA_get a (i := i) (d := d) (by simpa using e)
    exact ⟨v, by simpa using e1, e2⟩
theorem dpA_app {K : PySem.W.Frag} {H : Hp} : ∀ {ds es : List PyData} {vs ws : List V}, DpAll K H vs ds → DpAll K H ws es → DpAll K H (vs ++ ws) (ds ++ es)
  | _, _, _, _, .nil, b => b
  | _, _, _, _, .cons h a, b => .cons h (dpA_app a b)
theorem dpA_drop {K : PySem.W.Frag} {H : Hp} : ∀ {ds : List PyData} {vs : List V} (n : Nat), DpAll K H vs ds → DpAll K H (vs.drop n) (ds.drop n)
  | _, _, 0, a => a
  | _, _, _ + 1, .nil => .nil
  | _, _, n + 1, .cons _ a => dpA_drop n a
theorem dpA_take {K : PySem.W.Frag} {H : Hp} : ∀ {ds : List PyData} {vs : List V} (n : Nat), DpAll K H vs ds → DpAll K H (vs.take n) (ds.take n)
  | _, _, 0, _ => .nil
  | _, _, _ + 1, .nil => .nil
  | _, _, n + 1, .cons h a => .cons h (dpA_take n a)
theorem dp_tup {K : PySem.W.Frag} {H : Hp} {v : V} {ds : List PyData} (h : Dp K H v (.tuple ds)) : ∃ a xs, v = .ref a ∧ SqT K H a xs ∧ DpAll K H xs ds := by
  cases h with
  | tup h a => exact ⟨_, _, rfl, h, a⟩
theorem dp_str {K : PySem.W.Frag} {H : Hp} {v : V} {x : Str} (h : Dp K H v (.str x)) : v = .str x := by cases h; rfl
theorem dp_int {K : PySem.W.Frag} {H : Hp} {v : V} {x : Int} (h : Dp K H v (.int x)) : v = .int x := by cases h; rfl
theorem exu {F H : Hp} {p : Addr} {o : HO} (e : Ex F H) (hp : H p = none) : Ex F (upd H p o) := fun a u h => by
  rw [upd_ne (ne_of_none (e a u h) hp)]
  exact e a u h
/-- what F holds stays where something that F does not hold changes -/
theorem exm {F H : Hp} {p : Addr} {o : HO} (e : Ex F H) (hp : F p = none) : Ex F (upd H p o) := Evl.Ex.mut e hp
/-- a new object, told of a heap with a name of its own -/
theorem new_of {H H1 : Hp} {p : Addr} {o : HO} (e : upd H p o = H1) (n : H p = none) : Ex H H1 ∧ H1 p = some o ∧ ∀ b, b ≠ p → H1 b = H b := by
  subst e
  exact ⟨exu (Evl.Ex.refl _) n, upd_same, fun b hb => upd_ne hb⟩
theorem set_of {H H1 : Hp} {p : Addr} {o : HO} (e : upd H p o = H1) : H1 p = some o ∧ ∀ b, b ≠ p → H1 b = H b := by
  subst e
  exact ⟨upd_same, fun b hb => upd_ne hb⟩
theorem set_ex {F H H1 : Hp} {p : Addr} (x : Ex F H) (n : F p = none) (o : ∀ b, b ≠ p → H1 b = H b) : Ex F H1 := fun b u e => by
  rw [o b (ne_of_none e n)]
  exact x b u e
theorem ex_none {F H : Hp} {p : Addr} (x : Ex F H) (n : H p = none) : F p = none := by
  cases e : F p with
  | none => rfl
  | some u => rw [x _ _ e] at n; cases n
end Fc
set_option maxRecDepth 100000
set_option maxHeartbeats 4000000
namespace FcX
open PySem PySem.Spec PyProof.Rows PySem.HandSPX
section
variable {M : Model} {A : Around} {E : Value → Shared → Prop} {h : Heap} {g : Array GenState} {d : Drawn} {t : Nat} {os : OsState}
variable {nm q : Str} {C N : Addr} {bs bm bmB : List Value} {hdct : Bool} {sn : List Str} {sub : List Value} {ab : Bool} {col : Option Bool} {dd : Option Addr} {k0 k1 k2 k3 k5 : Option Value} {B newId initId : String}
theorem newcheck (F : ExcBaseFacts B newId initId bmB) (hT : ∀ X : String, bm.contains (.type X) = bmB.contains (.type X)) {us : List Value} {kw : List (Str × Value)} {Q : Unit → Shared → Prop}
    (hC : h.get? C = some (excClassObj nm q C N bs bm hdct sn sub ab col dd k0 k1 k2 k3 k5 newId)) (hq : Q () ⟨h, g, d, t, os⟩) : wpAny M A (checkBuiltinCall newId ⟨.ref C :: us, kw⟩) Q E ⟨h, g, d, t, os⟩ := by
  have hb : (Value.ref C :: bm).contains (.type B) = true := by rw [List.contains_cons, hT, F.hasB, Bool.or_true]
  have ns := F.noStar
  simp only [checkBuiltinCall, F.newKind, F.newSplit, F.newRow]
  repeat (first | refine wpAny_loadPart_at hC ?_ | (refine wpAny_isSubtype_exc hC ?_; rw [hb]) | refine wpAny_staticBase_exc hC ?_ | refine wpAny_madeBy_exc hC ?_ | simp only [bne_self_eq_false, Bool.false_eq_true, if_false] | wp_step)
  exact hq
end
section
variable {prog : Program} {w : World} {A : Around} {E : Value → Shared → Prop} {R : Result → Shared → Prop} {h : Heap} {g : Array GenState} {d : Drawn} {t : Nat} {os : OsState}
variable {nm q : Str} {C N : Addr} {bs bm bmB : List Value} {hdct : Bool} {sn : List Str} {sub : List Value} {ab : Bool} {col : Option Bool} {dd : Option Addr} {k0 k1 k2 k3 k5 : Option Value} {B newId initId : String}
theorem newK (F : ExcBaseFacts B newId initId bmB) (hT : ∀ X : String, bm.contains (.type X) = bmB.contains (.type X)) {us : List Value} {kw : List (Str × Value)}
    (hC : h.get? C = some (excClassObj nm q C N bs bm hdct sn sub ab col dd k0 k1 k2 k3 k5 newId))
    (hq : R (.ok (.ret (.ref (h.objs.size + 1)))) ⟨(h.push (W.kdv_tup us)).push (excO C h.objs.size), g, d, t, os⟩) (hz : us.length ≤ sizeLine) :
    codeAny (model prog w) A (.builtin newId ⟨.ref C :: us, kw⟩) R ⟨h, g, d, t, os⟩ := by
  have hends := F.ends
  have hcB : (Value.ref C :: bm).contains (.type B) = true := by rw [List.contains_cons, hT, F.hasB, Bool.or_true]
  have a1 : (Value.ref C :: bm).contains (.type "AttributeError") = false := by rw [List.contains_cons, hT, F.noAttr]; rfl
  have a2 : (Value.ref C :: bm).contains (.type "NameError") = false := by rw [List.contains_cons, hT, F.noName]; rfl
  refine codeAny_builtinAt F.entry ?_
  unfold Builtin.«BaseException.__new__»
  refine PySem.wpAt_bind ?_
  show PySem.wpAt _ _ _ (stack >>= _) _ _ _
  refine PySem.wpAt_bind (PySem.wpAt_stack fun p below => PySem.wpAt_of_wpAny ?_)
  wp_walk
  refine PySem.wpAt_of_wpAny ?_
  rw [F.owner]
  repeat (first | with_reducible refine wpAny_madeHere_exc F.canon hC ?_ | with_reducible refine wpAny_loadPart_at hC ?_ | (with_reducible refine wpAny_isSubtype_exc hC ?_; first | rw [hcB] | rw [a1] | rw [a2]) | wp_step)
  show R _ _
  rw [Heap.size_push]
  exact hq
theorem typeK (F : ExcBaseFacts B newId initId bmB) (hT : ∀ X : String, bm.contains (.type X) = bmB.contains (.type X)) {us : List Value} {kw : List (Str × Value)} {fI : Addr} {Q : Fin → Shared → Prop}
    (hC : h.get? C = some (excClassObj nm q C N bs bm hdct sn sub ab col dd k0 k1 k2 k3 k5 newId))
    (hi : W.Looks (model prog w) h (typeLookup (.ref C) "__init__") (some (.ref fI))) (hb : ∀ self, W.Looks (model prog w) h (bindSpecial (.ref fI) self) (.ref fI, [self])) (hz : us.length ≤ sizeLine)
    (hq : codeAny (model prog w) A (.call (.ref fI) ⟨.ref (h.objs.size + 1) :: us, kw⟩)
      (fun r s' => match r with | .ok (.ret v) => v = .none ∧ Q (.done (.ret (.ref (h.objs.size + 1)))) s' | .ok _ => False | .error e => E e s')
      ⟨(h.push (W.kdv_tup us)).push (excO C h.objs.size), g, d, t, os⟩) :
    wpAny (model prog w) A (Builtin.«type.__call__» ⟨.ref C :: us, kw⟩) Q E ⟨h, g, d, t, os⟩ := by
  repeat (first | with_reducible refine wpAny_loadPart_at hC ?_ | with_reducible refine wpAny_madeBy_exc hC ?_ | wp_step)
  refine codeAny_call_builtin_code (Code.quiet_builtin _ F.quiet) (newcheck F hT hC ?_)
  refine newK F hT hC ?_ hz
  show wpAny _ _ _ _ _ _
  have kp : ∀ b o, h.get? b = some o → ((h.push (W.kdv_tup us)).push (excO C h.objs.size)).get? b = some o := fun b o e => Heap.get?_push_of_some _ (Heap.get?_push_of_some _ e)
  have hC' := kp _ _ hC
  have he : ((h.push (W.kdv_tup us)).push (excO C h.objs.size)).get? (h.objs.size + 1) = some (excO C h.objs.size) := by heap_get
  have cc : (Value.ref C :: bm).contains (.ref C) = true := by simp
  have i1 := hi.keeps kp
  have b1 := (hb (.ref (h.objs.size + 1))).keeps kp
  unfold isInstance
  repeat (first | with_reducible refine wpAny_loadPart_at he ?_ | (with_reducible refine wpAny_isSubtype_exc hC' ?_; rw [cc]) | wp_step)
  show wpAny _ _ (typeLookup (.ref C) _) _ _ _
  refine i1.at ?_
  refine wpAny_holding (wpAny_bind (b1.at ?_))
  refine wpAny_bind (wpAny_call (codeAny_mono hq fun r s' z => ?_))
  rcases r with e | (v | _ | _ | _) <;> first | exact z | exact z.elim | skip
  obtain ⟨rfl, z⟩ := z
  first
    | exact wpAny_pure (wpAny_pure z)
    | (wp_walk; exact z)
theorem callK (F : ExcBaseFacts B newId initId bmB) (hT : ∀ X : String, bm.contains (.type X) = bmB.contains (.type X)) {us : List Value} {kw : List (Str × Value)} {fI : Addr}
    (hC : h.get? C = some (excClassObj nm q C N bs bm hdct sn sub ab col dd k0 k1 k2 k3 k5 newId))
    (hi : W.Looks (model prog w) h (typeLookup (.ref C) "__init__") (some (.ref fI))) (hb : ∀ self, W.Looks (model prog w) h (bindSpecial (.ref fI) self) (.ref fI, [self])) (hz : us.length ≤ sizeLine)
    (hq : codeAny (model prog w) (A.under (.builtin "type.__call__" ⟨.ref C :: us, kw⟩)) (.call (.ref fI) ⟨.ref (h.objs.size + 1) :: us, kw⟩) (W.InitBack (h.objs.size + 1) R)
      ⟨(h.push (W.kdv_tup us)).push (excO C h.objs.size), g, d, t, os⟩) :
    codeAny (model prog w) A (.call (.ref C) ⟨us, kw⟩) R ⟨h, g, d, t, os⟩ := by
  have f1 := tc_lookup
  have f2 := tc_bind (.ref C)
  have hy : (⟨h, g, d, t, os⟩ : Shared).TypeIs (.ref C) "type" := ⟨_, hC, rfl⟩
  refine codeAny_of_tree ?_
  show wpAny _ _ (callAny (.ref C) _) _ _ _
  repeat (any_goals (first | assumption | with_reducible refine wpAny_loadPart_at hC ?_ | wp_step))
  refine ⟨rfl, ?_⟩
  refine codeAny_call_builtin_at (Code.quiet_builtin _ (by decide +kernel)) entry_typeCall (wpAny_check_type_call_sub hC (typeK F hT hC hi hb hz ?_))
  refine codeAny_mono hq fun r s' z => ?_
  rcases r with e | (v | _ | _ | _) <;> exact z
end
end FcX
set_option maxRecDepth 100000
set_option maxHeartbeats 4000000
namespace FcX
open PySem PySem.Spec PyProof.Rows L2 FcR
abbrev aeT : List Value := [.type "ArithmeticError", .type "Exception", .type "BaseException", .type "object"]
structure XC (K : PySem.W.Frag) (C : Addr) : Prop where
  ini : PySem.W.excInitIn K C aeT "ArithmeticError.__new__" = true
  over : PySem.W.excOver K C aeT = true
  sa : PySem.W.findIn K (.ref C) "__setattr__" = some (some (.builtin "object.__setattr__"))
  ga : PySem.W.findIn K (.ref C) "__getattribute__" = some (some (.builtin "BaseException.__getattribute__"))
  gt : PySem.W.findIn K (.ref C) "__getattr__" = some none
  ex : PySem.W.subIn K (.ref C) (.type "BaseException") = some true
  ty : PySem.W.typeIn K (.ref C) = some (.type "type")
  kp : PySem.W.keepIn K (.ref C) = true
  hd : PySem.W.hasDictIn K C = true
  cl : PySem.W.findIn K (.ref C) "__class__" = some (some (.builtin "object.__class__"))
  cg : PySem.W.specialIn K (.builtin "object.__class__") "__get__" = some (some (.builtin "getset_descriptor.__get__"))
  ct : PySem.W.takesIn K (.builtin "object.__class__") = some true
  mo : PySem.W.mroIn K C (.type "object") = some true
def xcB (K : PySem.W.Frag) (C : Addr) : Bool := PySem.W.excInitIn K C aeT "ArithmeticError.__new__" && (PySem.W.excOver K C aeT && (
  decide (PySem.W.findIn K (.ref C) "__setattr__" = some (some (.builtin "object.__setattr__"))) && (decide (PySem.W.findIn K (.ref C) "__getattribute__" = some (some (.builtin "BaseException.__getattribute__"))) && (
  decide (PySem.W.findIn K (.ref C) "__getattr__" = some none) && (decide (PySem.W.subIn K (.ref C) (.type "BaseException") = some true) && (decide (PySem.W.typeIn K (.ref C) = some (.type "type")) && (PySem.W.keepIn K (.ref C) && (PySem.W.hasDictIn K C && (
  decide (PySem.W.findIn K (.ref C) "__class__" = some (some (.builtin "object.__class__"))) && (decide (PySem.W.specialIn K (.builtin "object.__class__") "__get__" = some (some (.builtin "getset_descriptor.__get__"))) && (
  decide (PySem.W.takesIn K (.builtin "object.__class__") = some true) && decide (PySem.W.mroIn K C (.type "object") = some true))))))))))))
theorem xcB_ok {K : PySem.W.Frag} {C : Addr} (h : xcB K C = true) : XC K C := by
  unfold xcB at h
  simp only [Bool.and_eq_true, decide_eq_true_eq] at h
  obtain ⟨h1, h2, h3, h4, h5, h6, h7, h8, h9, h10, h11, h12, h13⟩ := h
  exact ⟨h1, h2, h3, h4, h5, h6, h7, h8, h9, h10, h11, h12, h13⟩
/-- its __init__, and the field f that it stores -/
structure XI (K : PySem.W.Frag) (C fI : Addr) (f : Str) : Prop where
  ini : PySem.W.findIn K (.ref C) "__init__" = some (some (.ref fI))
  fn : PySem.W.typeIn K (.ref fI) = some (.type "function")
  tk : PySem.W.takerIn K C f = some none
  no : PySem.W.findIn K (.ref C) f = some none
def xiB (K : PySem.W.Frag) (C fI : Addr) (f : Str) : Bool := decide (PySem.W.findIn K (.ref C) "__init__" = some (some (.ref fI))) && (decide (PySem.W.typeIn K (.ref fI) = some (.type "function")) && (decide (PySem.W.takerIn K C f = some none) && decide (PySem.W.findIn K (.ref C) f = some none)))
theorem xiB_ok {K : PySem.W.Frag} {C fI : Addr} {f : Str} (h : xiB K C fI f = true) : XI K C fI f := by
  unfold xiB at h
  simp only [Bool.and_eq_true, decide_eq_true_eq] at h
  obtain ⟨h1, h2, h3, h4⟩ := h
  exact ⟨h1, h2, h3, h4⟩
section
variable {X : Cx} {pins : List (Addr × Obj)} {σ : L2.St} {H : Hp} {s : Shared} {a C fI : Addr} {f : Str} {y : V} {u : Value} {A : Around} {E : Value → Shared → Prop}
/-- the first field of an exception that is being made -/
theorem xst {Q : Unit → Shared → Prop} (T : XC X.K C) (ht : PySem.W.takerIn X.K C f = some none) (I : Inv X pins σ H s) (e : H a = some (exo a C none)) (ry : RelV y u)
    (h : ∀ dx s', H dx = none → dx ≠ a → Inv X pins σ (upd (upd H dx (exd dx [(f, y)])) a (exo a C (some dx))) s' → Q () s') : wpAny (model X.prog X.w) A (setAttr (.ref a) f u) Q E s := by
  obtain ⟨t1, ho⟩ := exo_at I.hok e
  obtain ⟨hp, g, d, t, os⟩ := s
  obtain ⟨cd, hc, hcd⟩ := PySem.W.any_some T.hd
  have hlt := Heap.lt_size ho
  have hne : hp.objs.size ≠ a := Nat.ne_of_gt hlt
  refine PySem.W.set_plain I.kIn (ox := PySem.W.excObj C t1 none .none) (od := none) ⟨ho, rfl, rfl, trivial⟩ T.sa ?_
  refine PySem.W.osa_openX (od := none) (ox := PySem.W.excObj C t1 none .none) F.store_ArithmeticError I.kIn ⟨ho, rfl, rfl, trivial⟩ T.over ht fun b => ?_
  refine wpAny_bind (wpAny_pure (wpAny_bind (PySem.W.instanceDict_exc (c2 := .none) ho (PySem.W.looks_clsIn I.kIn hc) hcd ?_)))
  show wpAny _ _ (Builtin.ObjectAttr.storeInDict hp.objs.size _ f u) _ _ _
  refine PySem.HandSPX.store_in_new ?_ fun h' tk' hn' sb => ?_
  · exact ⟨_, #[], _, (Heap.get?_update_ne _ _ _ _ hne).trans (Heap.get?_push_at rfl rfl), rfl, fun e he => absurd he (by simp), fun _ => rfl⟩
  · have ho1 : (hp.push (PySem.W.dictOf [] 0)).get? a = some (PySem.W.excObj C t1 none .none) := Heap.get?_push_of_some _ ho
    have hx : h'.get? a = some (PySem.W.excObj C t1 (some hp.objs.size) .none) := (sb.2 a hne.symm).trans (Heap.get?_update_self _ ho1 rfl)
    have k : ∀ b o, b ≠ a → hp.get? b = some o → h'.get? b = some o := fun b o hb q =>
      (sb.2 b (Nat.ne_of_lt (Heap.lt_size q))).trans ((Heap.get?_update_ne _ _ _ _ hb).trans (Heap.get?_push_of_some _ q))
    have hnd : H hp.objs.size = none := I.hok.fresh (Nat.le_refl _)
    have nd : ∀ {b : Addr} {o : Obj}, hp.get? b = some o → b ≠ hp.objs.size := fun q => Nat.ne_of_lt (Heap.lt_size q)
    have na : ∀ {b : Addr}, H b = none → b ≠ a := fun n z => by rw [z, e] at n; cases n
    have U : Un X.fs [] H (upd (upd H hp.objs.size (exd hp.objs.size [(f, y)])) a (exo a C (some hp.objs.size))) hp h' := {
      keep := fun b o q n _ _ => k b o (na n) q
      slot := fun b o q n _ _ => ⟨o.slots, k b o (na n) q⟩
      free := fun b o q n _ => by rw [upd_ne (na n), upd_ne (nd q)]; exact n
      there := fun b o q _ => by
        by_cases hb : b = a
        · exact ⟨_, by rw [hb]; exact hx⟩
        · exact ⟨o, k b o hb q⟩
      tups := fun b xs q => by rw [upd_ne (at_ne e q exo_tup), upd_ne (ne_of_none q hnd)]; exact q
      frzs := fun b o v q => by rw [upd_ne (at_ne e q exo_frz), upd_ne (ne_of_none q hnd)]; exact q
      tbls := fun b ps q => ⟨#[], by rw [upd_ne (at_ne e q exo_tbl), upd_ne (ne_of_none q hnd), q]; simp⟩ }
    refine h hp.objs.size _ hnd hne (I.un (t' := tk') U fun b o q => ?_)
    by_cases hb : b = a
    · subst hb
      rw [upd_same] at q
      cases q
      exact exo_ok hx
    · rw [upd_ne hb] at q
      by_cases hd : b = hp.objs.size
      · subst hd
        rw [upd_same] at q
        cases q
        exact exd_ok hn' (relO_put (fs := []) ry fun g => True.intro)
      · rw [upd_ne hd] at q
        refine (I.hok b o q).stay (fun c v hc z => k c v ?_ z) (fun c hc => ?_) (fun c xs hc => ?_)
        · rcases hc with hc | hc
          · rw [hc]
            exact hb
          · exact at_ne e hc exo_own
        · rw [upd_ne (at_ne e hc exo_own), upd_ne (ne_of_none hc hnd)]
          exact hc
        · rw [upd_ne (at_ne e hc exo_tup), upd_ne (ne_of_none hc hnd)]
          exact hc
end
/-- self.f = e, in the __init__ of such a class -/
def tXst (K : PySem.W.Frag) (f : Str) (to te : TE) : TS := fun D σ H => te σ H fun y H1 => to σ H1 fun x H2 => ∃ a C : Addr, x = .ref a ∧ XC K C ∧ PySem.W.takerIn K C f = some none ∧ H2 a = some (exo a C none) ∧
  ∀ dx, H2 dx = none → dx ≠ a → D.nx σ (upd (upd H2 dx (exd dx [(f, y)])) a (exo a C (some dx)))
theorem ps_xst {X : Cx} {o e : Expr} {to te : TE} {f : Str} {p pos : Pos} (ho : PE X o to) (he : PE X e te) (hs : swapsWith e (some (.Attribute o f p)) pos.line X.env = pure false := by rfl) : PS X (.Assign [.Attribute o f p] e pos) (tXst X.K f to te) := by
  refine ⟨fun pins s σ H D I h => ?_⟩
  refine plainObj_wpAny_Assign_Attribute (thn (he.run pins s σ H _ I h) fun v s1 ⟨y, H1, I1, r1, q1⟩ => thn (ho.run pins s1 σ H1 _ I1 q1) fun u s2 ⟨x, H2, I2, r2, a, C, ex, T, ht, ea, q⟩ => ?_) hs
  subst ex
  obtain rfl : u = Value.ref a := r2
  exact xst T ht I2 ea r1 fun dx s' n ne J => ⟨σ, _, J, q dx n ne⟩
/-- what such an __init__ promises -/
def spX (K : PySem.W.Frag) (C : Addr) (f : Str) : Sp := fun vs H Q _ => ∃ (a : Addr) (y : V), vs = [.ref a, y] ∧ H a = some (exo a C none) ∧ ∀ dx, H dx = none → dx ≠ a → Q .non (upd (upd H dx (exd dx [(f, y)])) a (exo a C (some dx)))
/-- a made exception as a value -/
def XV (H : Hp) (C : Addr) (f : Str) (y : V) (a : Addr) : Prop := ∃ d, H a = some (exo a C (some d)) ∧ H d = some (exd d [(f, y)])
theorem XV.ex {H H' : Hp} {C : Addr} {f : Str} {y : V} {a : Addr} (h : XV H C f y a) (e : Evl.Ex H H') : XV H' C f y a := by
  obtain ⟨d, h1, h2⟩ := h
  exact ⟨d, e _ _ h1, e _ _ h2⟩
section
variable {X : Cx} {CX : CXT} {k : Nat} {C fI : Addr} {fd : FuncData} {f n x : Str} {p pos kpos : Pos} {e : Expr} {es : List Expr} {ta : TA} {te : TE}
/-- f(k = v, ..), keywords alone: g puts them in the parameters' order -/
def tCallW (sp : Sp) (g : List V → List V) (n : Nat) (E : XK) (tk : TA) : TE := fun σ H Q => tk σ H fun zs H1 => zs.length = n ∧ sp (g zs) H1 Q E
theorem pe_callW {ps ks : List Str} {sp : Sp} {E : XK} {g : List Value → List Value} {gV : List V → List V} {kws : List Keyword} {tk : TA} {fI : Addr} (G : FnOk X.prog X.w X.K X.mg X.base CX k fI fd ps sp) (hr : Room k X.A) (hg : Gl X x) (hm : X.mg x = some (.ref fI)) (hk : PySem.W.keepIn X.K (.ref fI) = true)
    (hb : ∀ (s : Shared) (ws : List Value), ws.length = ks.length → BindsTo s fd ⟨[], ks.zip ws⟩ (ps.zip (g ws))) (hrel : ∀ {zs : List V} {ws : List Value}, Vals zs ws → zs.length = ks.length → Vals (gV zs) (g ws)) (hx : Passes CX X E) (hkw : PK X kws tk)
    (hall : (backToKw pos (keywordEach kws X.env)).all (·.1.isSome) = true := by rfl) (hks : (backToKw pos (keywordEach kws X.env)).filterMap (·.1) = ks := by rfl) (hdb : (x == ("__debug__" : Str)) = false := by decide)
    (hpl : ((backTo pos (starEach [] X.env)).any (·.1) || (backToKw pos (keywordEach kws X.env)).any (·.1.isNone)) = false := by rfl) :
    PE X (.Call (.Name x p) [] kws pos) (tCallW sp gV ks.length E tk) := by
  refine ⟨fun pins s σ H Q I h => ?_⟩
  refine wpAny_Call_Name_kw (ld_glob I hg hm ?_ hdb)
  refine PySem.W.callWith_KW0 (h₀ := X.base) I.ok.mod.kin hk hall (thn (hkw.run pos pins s σ H _ I h) fun ws s1 ⟨zs, H1, I1, r, l, q⟩ => ⟨I1.kIn, ?_⟩) hpl
  rw [hks]
  refine wpAny_call (codeAny_mono (G.run X.A X.stack s1 H1 ⟨[], ks.zip ws⟩ (g ws) (gV zs) Q E hr I1.env0 (hb s1 ws (r.length.symm.trans l)) (hrel r l) q) fun r s' hq => ?_)
  cases r with
  | error e => exact hx pins σ H1 s1 e s' I1 hq
  | ok fl =>
    cases fl with
    | ret u => exact I1.after hq
    | next => exact False.elim hq
    | brk => exact False.elim hq
    | cont => exact False.elim hq
end
/-- a binding of a def without defaults -/
theorem bindsX {K : PySem.W.Frag} {x qual : Str} {params : Arguments} {body : List Stmt} {scope : Scope} {kws : List (Str × V)} {f : Addr} {fd : FuncData} {args : Args} {binds : List (Str × Value)} (F : FunD K x qual params body scope [] kws f fd)
    (h : ∀ (kV doc pm : Value) (an : Option Addr) (cdv ct : Value), bindArgs (PySem.W.fnOf x qual params body scope .none kV doc pm an cdv ct) args = pure binds) (s : Shared) : BindsTo s fd args binds := by
  obtain ⟨oc, od, dV, kV, doc, pm, an, cdv, ct, osl, rfl, lk, hcd, hD, hK⟩ := F.ex
  rcases hD with ⟨_, rfl⟩ | ⟨e, _⟩
  · exact .of_eq (h kV doc pm an cdv ct)
  · exact absurd rfl e
/-- isinstance between the classes of the package, and against built-in ones -/
def xkB (K : PySem.W.Frag) (ns : List Str) : Bool := ns.all fun c => ns.all (fun d => decide (PySem.W.kitOne K (.ref (He.ga K c)) (.ref (He.ga K d)) = some (c == d || d == "CopyError"))) &&
  (decide (PySem.W.kitOne K (.ref (He.ga K c)) (.type "ArithmeticError") = some true) && decide (PySem.W.kitAny K (.ref (He.ga K c)) [.type "ValueError", .type "TypeError", .type "LookupError"] = some false))
theorem xk_own {K : PySem.W.Frag} {ns : List Str} (h : xkB K ns = true) {c d : Str} (hc : c ∈ ns) (hd : d ∈ ns) : PySem.W.kitOne K (.ref (He.ga K c)) (.ref (He.ga K d)) = some (c == d || d == "CopyError") := by
  have z := List.all_eq_true.mp h c hc
  simp only [Bool.and_eq_true, List.all_eq_true, decide_eq_true_eq] at z
  exact z.1 d hd
end FcX
set_option maxRecDepth 100000
set_option maxHeartbeats 4000000
namespace Fc
open PySem PySem.Spec PyProof.Rows L2 FcR
open Evl (Ex)
def frz (F H : Hp) (L : List Addr) : Hp := fun b => if b ∈ L then H b else F b
theorem frz_in {F H : Hp} {L : List Addr} {b : Addr} (h : b ∈ L) : frz F H L b = H b := if_pos h
theorem frz_out {F H : Hp} {L : List Addr} {b : Addr} (h : b ∉ L) : frz F H L b = F b := if_neg h
theorem frz_ex {F H : Hp} {L : List Addr} (h : ∀ b ∈ L, F b = none) : Ex F (frz F H L) := fun b o e => by
  rw [frz_out (fun z => by rw [h b z] at e; cases e)]
  exact e
theorem frz_le {F H : Hp} {L : List Addr} (e : Ex F H) : Ex (frz F H L) H := fun b o h => by
  by_cases z : b ∈ L
  · rw [frz_in z] at h; exact h
  · rw [frz_out z] at h; exact e b o h
/-- what grows: F to F', H to H', where M alone of what H tracked may change -/
structure Gr (M : Addr → Prop) (F H F' H' : Hp) : Prop where
  ff : Ex F F'
  fh : Ex F' H'
  nw : ∀ b, H b ≠ none → F b = none → ¬ M b → F' b = none
  kp : ∀ b o, H b = some o → ¬ M b → H' b = some o
theorem Gr.refl {M : Addr → Prop} {F H : Hp} (x : Ex F H) : Gr M F H F H := ⟨Evl.Ex.refl _, x, fun _ _ e _ => e, fun _ _ e _ => e⟩
theorem Gr.trans {M : Addr → Prop} {F H F1 H1 F2 H2 : Hp} (a : Gr M F H F1 H1) (b : Gr M F1 H1 F2 H2) : Gr M F H F2 H2 :=
  ⟨a.ff.trans b.ff, b.fh, fun c h1 h2 h3 => b.nw c (fun z => by
    cases e : H c with
    | none => exact h1 e
    | some o => rw [a.kp c o e h3] at z; cases z) (a.nw c h1 h2 h3) h3, fun c o e h => b.kp c o (a.kp c o e h) h⟩
theorem Gr.new {M : Addr → Prop} {F H H1 : Hp} (x : Ex F H) (e : Ex H H1) : Gr M F H F H1 := ⟨Evl.Ex.refl _, x.trans e, fun _ _ h _ => h, fun b o h _ => e b o h⟩
theorem Gr.set {M : Addr → Prop} {F H H1 : Hp} {p : Addr} (x : Ex F H) (hp : M p) (hf : F p = none) (o : ∀ b, b ≠ p → H1 b = H b) : Gr M F H F H1 :=
  ⟨Evl.Ex.refl _, set_ex x hf o, fun _ _ h _ => h, fun b u e hb => by rw [o b (fun z => hb (z ▸ hp))]; exact e⟩
theorem Gr.frz {M : Addr → Prop} {F H H1 : Hp} {p : Addr} {u : HO} (x : Ex F H) (n : H p = none) (s : H1 p = some u) (o : ∀ b, b ≠ p → H1 b = H b) : Gr M F H (upd F p u) H1 := by
  refine ⟨exu (Evl.Ex.refl _) (ex_none x n), fun b w e => ?_, fun b h1 h2 _ => ?_, fun b w e _ => ?_⟩
  · by_cases z : b = p
    · rw [z, upd_same] at e
      cases e
      rw [z]
      exact s
    · rw [upd_ne z] at e
      rw [o b z]
      exact x b w e
  · rw [upd_ne (fun z => h1 (by rw [z]; exact n))]
    exact h2
  · rw [o b (ne_of_none e n)]
    exact e
theorem Gr.mono {M M' : Addr → Prop} {F H F' H' : Hp} (g : Gr M F H F' H') (h : ∀ b, M b → M' b) : Gr M' F H F' H' :=
  ⟨g.ff, g.fh, fun b h1 h2 h3 => g.nw b h1 h2 fun z => h3 (h b z), fun b o e hb => g.kp b o e fun z => hb (h b z)⟩
/-- what is not M keeps what H held -/
theorem Gr.ex {F H F' H' : Hp} (g : Gr (fun _ => False) F H F' H') : Ex H H' := fun b o e => g.kp b o e id
/-- what a call changes of what is new does not count -/
theorem Gr.hide {M M' : Addr → Prop} {F H F1 H1 F2 H2 : Hp} (a : Gr M F H F1 H1) (b : Gr M' F1 H1 F2 H2) (h : ∀ x, M' x → H x = none ∨ M x) : Gr M F H F2 H2 := by
  have hn : ∀ x, H x ≠ none → ¬ M x → ¬ M' x := fun x h1 h2 h3 => (h x h3).elim h1 h2
  refine ⟨a.ff.trans b.ff, b.fh, fun x h1 h2 h3 => b.nw x (fun z => ?_) (a.nw x h1 h2 h3) (hn x h1 h3), fun x o e h1 => b.kp x o (a.kp x o e h1) (hn x (by rw [e]; exact fun z => nomatch z) h1)⟩
  cases e : H x with
  | none => exact h1 e
  | some o => rw [a.kp x o e h3] at z; cases z
theorem Gr.frzAt {M : Addr → Prop} {F H F1 H1 : Hp} {p : Addr} {o : HO} (g : Gr M F H F1 H1) (hp : H p = none) (h1 : H1 p = some o) (hf : F1 p = none) : Gr M F H (upd F1 p o) H1 := by
  refine ⟨exu g.ff hf, fun b u e => ?_, fun b a1 a2 a3 => ?_, g.kp⟩
  · by_cases z : b = p
    · rw [z, upd_same] at e; cases e; rw [z]; exact h1
    · rw [upd_ne z] at e; exact g.fh b u e
  · rw [upd_ne (fun z => a1 (by rw [z]; exact hp))]
    exact g.nw b a1 a2 a3
structure Rg (M : Addr → Prop) (F0 H F R H' : Hp) : Prop where
  g : Gr M F0 H F H'
  rh : Ex R H'
  dj : ∀ b o, R b = some o → F b = none
  rn : ∀ b o, R b = some o → H b = none ∧ ¬ M b
def hp0 : Hp := fun _ => none
section
variable {M : Addr → Prop} {F0 H F R H' : Hp}
theorem Rg.start (g : Gr M F0 H F H') : Rg M F0 H F hp0 H' := ⟨g, fun b o e => (by cases e), fun b o e => (by cases e), fun b o e => (by cases e)⟩
/-- a new address is new to all -/
theorem Rg.fresh (x : Rg M F0 H F R H') {p : Addr} (n : H' p = none) : F p = none ∧ R p = none ∧ (¬ M p → H p = none) := by
  refine ⟨ex_none x.g.fh n, ex_none x.rh n, fun hm => ?_⟩
  cases e : H p with
  | none => rfl
  | some o => rw [x.g.kp p o e hm] at n; cases n
/-- a call that changes nothing of the region -/
theorem Rg.call {M' : Addr → Prop} {F2 H2 : Hp} (x : Rg M F0 H F R H') (c : Gr M' F H' F2 H2) (hM : ∀ b, M' b → M b) : Rg M F0 H F2 R H2 := by
  refine ⟨x.g.trans (c.mono hM), fun b o h => c.kp b o (x.rh b o h) fun z => (x.rn b o h).2 (hM b z), fun b o h => ?_, x.rn⟩
  exact c.nw b (by rw [x.rh b o h]; exact fun z => nomatch z) (x.dj b o h) fun z => (x.rn b o h).2 (hM b z)
/-- a call that may change M' of the region R1, the rest R staying -/
theorem Rg.only (x : Rg M F0 H F R H') {R' : Hp} (e : Ex R' R) : Rg M F0 H F R' H' := ⟨x.g, e.trans x.rh, fun b o h => x.dj b o (e b o h), fun b o h => x.rn b o (e b o h)⟩
/-- F with R -/
def joinH (F R : Hp) : Hp := fun b => match R b with
  | some o => some o
  | none => F b
theorem joinH_f (dj : ∀ b o, R b = some o → F b = none) : Ex F (joinH F R) := fun b o h => by
  unfold joinH
  cases e : R b with
  | none => exact h
  | some u => rw [dj b u e] at h; cases h
/-- the region is done: it is frozen -/
theorem Rg.done (x : Rg M F0 H F R H') : Gr M F0 H (joinH F R) H' := by
  refine ⟨x.g.ff.trans (joinH_f x.dj), fun b o h => ?_, fun b h1 h2 h3 => ?_, x.g.kp⟩
  · unfold joinH at h
    cases e : R b with
    | none => rw [e] at h; exact x.g.fh b o h
    | some u => rw [e] at h; cases h; exact x.rh b _ e
  · unfold joinH
    cases e : R b with
    | none => exact x.g.nw b h1 h2 h3
    | some u => exact absurd (x.rn b u e).1 h1
/-- a part of the region is frozen -/
theorem Rg.part (x : Rg M F0 H F R H') {R1 R2 : Hp} (e1 : Ex R1 R) (e2 : Ex R2 R) (d : ∀ b o, R1 b = some o → R2 b = none) : Rg M F0 H (joinH F R2) R1 H' := by
  refine ⟨(x.only e2).done, e1.trans x.rh, fun b o h => ?_, fun b o h => x.rn b o (e1 b o h)⟩
  unfold joinH
  rw [d b o h]
  exact x.dj b o (e1 b o h)
end
end Fc
set_option maxRecDepth 100000
set_option maxHeartbeats 4000000
namespace FcO
open PySem PySem.Spec PyProof.Rows L2
section
variable {X : Cx} {CX : CXT} {C f : Addr} {fd : FuncData} {ps : List Str} {sp : Sp} {E : XK} {k : Nat}
/-- a def called somewhere below the running body -/
theorem run_sub {A : Around} (F : FnOk X.prog X.w X.K X.mg X.base CX k f fd ps sp) (sb : Sub X k A) (hb : Binds X.K fd ps []) (hx : Passes CX X E) {pins : List (Addr × Obj)} {σ : L2.St} {H : Hp} {s : Shared} {us : List Value} {vs : List V} {Q : VK} (I : Inv X pins σ H s) (r : Vals vs us) (h : sp vs H Q E) :
    wpAny (model X.prog X.w) A (call (.ref f) us) (EP X pins σ Q) X.xe s := by
  have e0 : Env0 X.prog X.w X.K X.mg X.base A X.stack s H := by
    have e := I.env0
    exact ⟨by rw [sb.fr]; exact e.frames, e.mod, e.bs, e.bsz, e.funs, e.frf, e.hok, e.bare⟩
  have hl := F.len _ _ _ _ h
  refine wpAny_call (codeAny_mono (F.run A X.stack s H ⟨us, []⟩ us vs _ E sb.room e0 (by
    have := hb s us I.kIn (by rw [List.append_nil, ← r.length]; exact hl)
    rw [List.append_nil] at this
    exact this) r h) fun r s' hq => ?_)
  cases r with
  | error e => exact hx pins σ H s e s' I hq
  | ok fl =>
    cases fl with
    | ret w => exact I.after hq
    | next => exact False.elim hq
    | brk => exact False.elim hq
    | cont => exact False.elim hq
/-- callSpecial? of an instance whose class has its own method -/
theorem special_own {M : Model} {A : Around} {E : Value → Shared → Prop} {s : Shared} {K : PySem.W.Frag} {x C f : Addr} {ox : Obj} {od : Option Obj} {name : Str} {args : List Value} {Q : Option Value → Shared → Prop} (X : K.In s.heap) (I : PySem.W.InstAt s.heap x ox C od) (hs : PySem.W.findIn K (.ref C) name = some (some (.ref f))) (hf : PySem.W.isFn K (.ref f) = true)
    (h : wpAny M A (call (.ref f) (.ref x :: args)) (fun v => Q (some v)) E s) : wpAny M A (callSpecial? (.ref x) name args) Q E s := by
  simp only [callSpecial?]
  refine wpAny_bind (wpAny_bind (I.type.here ((PySem.W.looks_findIn X hs).here ?_)))
  refine wpAny_holding (wpAny_bind ((PySem.W.bind_fn X _ (beq_iff_eq.mp hf)).here ?_))
  exact wpAny_bind (wpAny_mono h (fun v s' h' => wpAny_pure h') fun _ _ h' => h')
abbrev rLenO (C : Addr) (sp : Sp) (E : XK) : List V → Hp → VK → Prop := fun xs H Q => ∃ (a dx : Addr) (fs : List (Str × V)), xs = [.ref a] ∧ H a = some (.ins C dx fs) ∧ sp [.ref a] H (fun v H' => ∃ n : Nat, v = .int (n : Int) ∧ (n : Int) < 2 ^ 63 ∧ Q (.int (n : Int)) H') E
theorem call_lenO (F : FnOk X.prog X.w X.K X.mg X.base CX k f fd ps sp) (hr : Room (k + 1) X.A) (hm : Meth X.K C "__len__" f) (hb : Binds X.K fd ps []) (hx : Passes CX X E) : CallR X (.builtin "len") (rLenO C sp E) := by
  intro pins s σ H xs us Q I r h
  obtain ⟨a, dx, fs, rfl, ha, q⟩ := h
  obtain ⟨u, rfl, ru⟩ := vals1 r
  obtain rfl : u = Value.ref a := ru
  obtain ⟨mA, J, _⟩ := ins_get I.hok ha
  obtain ⟨od, J, _⟩ := J.look
  refine Calls.call_function_entry kind_len plain_len entry_len (args_len1 _) ?_
  unfold Builtin.«len»
  refine wpAny_bind (m := oneArg "len" _) (wpAny_pure ?_)
  refine wpAny_bind (m := callSpecial? (.ref a) (PySem.Str.ofString "__len__")) (special_own I.kIn J hm.at_ hm.fn (wpAny_mono (run_sub F ⟨hr.in1, rfl⟩ hb hx I r q) (fun v s1 hv => ?_) fun _ _ e => e))
  obtain ⟨z, H1, I1, rz, n, rfl, hn, q1⟩ := hv
  obtain ⟨t, rfl⟩ : ∃ t, v = Value.int (n : Int) t := rz
  refine wpAny_bind (wpAny_holding (wpAny_pure ?_))
  refine wpAny_bind (wpAny_letGo ?_)
  show wpAny _ _ (if ((n : Nat) : Int) < 0 then _ else _) _ _ _
  rw [if_neg (by omega)]
  show wpAny _ _ (if ((n : Nat) : Int) ≥ 2 ^ 63 then _ else _) _ _ _
  rw [if_neg (by omega)]
  exact wpAny_bind (wpAny_mkInt (wpAny_pure ⟨_, rfl, ⟨.int (n : Int), H1, I1.tok _, ⟨_, rfl⟩, q1⟩⟩))
end
end FcO
namespace FcO
open PySem PySem.Spec PyProof.Rows L2
def eqB (K : PySem.W.Frag) (C : Addr) : Bool :=
  (decide (PySem.W.findIn K (.ref C) "__ne__" = some (some (.builtin "object.__ne__"))) && decide (PySem.W.findIn K (.ref C) "__class__" = some (some (.builtin "object.__class__")))) &&
  ((decide (PySem.W.specialIn K (.builtin "object.__class__") "__get__" = some (some (.builtin "getset_descriptor.__get__"))) && decide (PySem.W.takesIn K (.builtin "object.__class__") = some true)) &&
  ((decide (PySem.W.mroIn K C (.type "object") = some true) && decide (PySem.W.kitOne K (.ref C) (.ref C) = some true)) &&
   ((["NoneType", "bool", "int", "str", "list", "tuple", "dict"] : List String).all fun T => decide (PySem.W.kitOne K (.type T) (.ref C) = some false))))
section
variable {X : Cx} {CX : CXT} {C f : Addr} {fd : FuncData} {ps : List Str} {sp : Sp} {E : XK} {k : Nat}
end
end FcO
namespace FcO
open PySem PySem.Spec PyProof.Rows L2
section
variable {X : Cx} {CX : CXT} {C f : Addr} {fd : FuncData} {ps ks : List Str} {sp : Sp} {E : XK} {k : Nat} {x : Str} {p pos : Pos} {kws : List Keyword} {tk : TA} {g : List Value → List Value} {gV : List V → List V}
end
end FcO
set_option maxRecDepth 100000
set_option maxHeartbeats 4000000
namespace FcX
open PySem PySem.Spec PyProof.Rows L2 FcR
def tMkR (C : Addr) (f : Str) (ta : TA) : L2.St → Hp → XK → Prop := fun σ H Q => ta σ H fun vs H1 => ∃ y, vs = [y] ∧ ∀ d, H1 d = none → Q (.ref C) (some d) (upd H1 d (.xd [(f, y)]))
theorem del_made {H : Hp} {a dx : Addr} {u1 u2 u3 o : HO} (h1 : H a = none) (h3 : dx ≠ a) : upd (del (upd (upd (upd H a u1) dx u2) a u3) a) dx o = upd H dx o := by
  funext b
  by_cases hb : b = dx
  · rw [hb, upd_same, upd_same]
  · rw [upd_ne hb, upd_ne hb]
    by_cases ha : b = a
    · rw [ha, del_same, h1]
    · rw [del_ne ha, upd_ne ha, upd_ne hb, upd_ne ha]
section
variable {X : Cx} {CX : CXT} {k : Nat} {C fI : Addr} {fd : FuncData} {f n x : Str} {p pos : Pos} {e : Expr} {te : TE}
theorem pmk_X (T : XC X.K C) (N : XI X.K C fI f) (G : FnOk X.prog X.w X.K X.mg X.base CX k fI fd ["self", n] (spX X.K C f)) (hr : Room (k + 1) X.A) (hb : Binds X.K fd ["self", n] []) (hx : Passes CX X (fun _ _ _ => False)) (hg : Gl X x) (hm : X.mg x = some (.ref C)) (ha : PE X e te)
    (hdb : (x == ("__debug__" : Str)) = false := by decide) (he : starEach [e] X.env = (false, eval e X.env) :: starEach [] X.env := by rfl) : PMk X (.Call (.Name x p) [e] [] pos) (tMkR C f (tCons te tNil)) := by
  intro pins s0 σ H0 Q I0 h
  refine wpAny_Call_Name_kw (ld_glob I0 hg hm ?_ hdb)
  refine PySem.W.callWith_K (h₀ := X.base) I0.ok.mod.kin T.kp (thn ((pa_cons (hs := he) ha pa_nil).run pos pins s0 σ H0 _ I0 h) fun us s1 ⟨vs, H, I, r1, y, ev, q⟩ => ⟨I.kIn, ?_⟩) he (by rfl)
  subst ev
  cases r1 with
  | @cons _ v _ _ r r2 =>
  cases r2
  show wpAny _ _ (call (.ref C) [v]) _ _ _
  obtain ⟨hp, g, dr, tk, os⟩ := s1
  obtain ⟨nm, N', qn, bs, bm, hdct, sn, sub, ab, col, dd, k0, k1, k2, k3, k5, hC, hT⟩ := PySem.W.excInit_of I.kIn T.ini
  have hsz : hp.objs.size ≤ hp.objs.size + 1 := Nat.le_succ _
  have hn : H (hp.objs.size + 1) = none := I.hok.fresh hsz
  have kk : ∀ b o, hp.get? b = some o → ((hp.push (PySem.W.kdv_tup [v])).push (PySem.HandSPX.excO C hp.objs.size)).get? b = some o := fun b o e => Heap.get?_push_of_some _ (Heap.get?_push_of_some _ e)
  have hget : ((hp.push (PySem.W.kdv_tup [v])).push (PySem.HandSPX.excO C hp.objs.size)).get? (hp.objs.size + 1) = some (PySem.HandSPX.excO C hp.objs.size) := by heap_get
  have I2 : Inv X pins σ (upd H (hp.objs.size + 1) (exo (hp.objs.size + 1) C none)) ⟨(hp.push (PySem.W.kdv_tup [v])).push (PySem.HandSPX.excO C hp.objs.size), g, dr, tk, os⟩ :=
    I.laid (t' := tk) (a := hp.objs.size + 1) (o := exo (hp.objs.size + 1) C none) (h' := (hp.push (PySem.W.kdv_tup [v])).push (PySem.HandSPX.excO C hp.objs.size)) kk hsz (exo_ok hget)
  have hq : spX X.K C f [.ref (hp.objs.size + 1), y] (upd H (hp.objs.size + 1) (exo (hp.objs.size + 1) C none)) (fun z H2 => z = .non ∧ ∃ (d : Addr) (fs : List (Str × V)), H2 (hp.objs.size + 1) = some (exo (hp.objs.size + 1) C (some d)) ∧ H2 d = some (exd d fs) ∧ H d = none ∧ Q (.ref C) (some d) (upd (del H2 (hp.objs.size + 1)) d (.xd fs))) (fun _ _ _ => False) :=
    ⟨hp.objs.size + 1, y, rfl, upd_same, fun dx h1 h2 => ⟨rfl, dx, [(f, y)], upd_same, by rw [upd_ne h2, upd_same], by rw [upd_ne h2] at h1; exact h1, by
      rw [del_made hn h2]
      exact q dx (by rw [upd_ne h2] at h1; exact h1)⟩⟩
  refine wpAny_call (callK F.excBase_ArithmeticError hT hC (PySem.W.looks_findIn I.kIn N.ini) (fun self => PySem.W.bind_fn I.kIn self N.fn) (by rw [sizeLine_eq]; show 1 ≤ _; decide)
    (codeAny_mono (G.run _ X.stack _ _ ⟨Value.ref (hp.objs.size + 1) :: [v], []⟩ [Value.ref (hp.objs.size + 1), v] [V.ref (hp.objs.size + 1), y] _ (fun _ _ _ => False) (hr.make C [v] []) (I2.env0.make C [v] []) (hb _ [Value.ref (hp.objs.size + 1), v] I2.kIn rfl) (.cons (show RelV (V.ref (hp.objs.size + 1)) (Value.ref (hp.objs.size + 1)) from rfl) (.cons r .nil)) hq) fun r s' hq' => ?_))
  cases r with
  | error er => exact hx pins σ _ _ er s' I2 hq'
  | ok fl =>
    cases fl with
    | ret u =>
      obtain ⟨v3, H2, os2, bare2, un2, hok2, rv, ev, d, fs, ea, ed, hd1, q2⟩ := hq'
      subst ev
      obtain ⟨h2, g2, d2, t2, os'⟩ := s'
      exact ⟨rv, mk_end (raises_own T.ex T.ty) I hsz kk un2 hok2 os2 bare2 ea ed hd1 q2⟩
    | next => exact False.elim hq'
    | brk => exact False.elim hq'
    | cont => exact False.elim hq'
end
end FcX
set_option maxRecDepth 100000
set_option maxHeartbeats 4000000
namespace FcX
open PySem PySem.Spec PyProof.Rows L2 FcR
def xhB (K : PySem.W.Frag) (ns : List Str) : Bool := ns.all fun c => ns.all fun d => decide (PySem.W.exmOne K (.ref (He.ga K c)) (.ref (He.ga K d)) = some (c == d || d == "CopyError"))
theorem xh_own {K : PySem.W.Frag} {ns : List Str} (h : xhB K ns = true) {c d : Str} (hc : c ∈ ns) (hd : d ∈ ns) : PySem.W.exmOne K (.ref (He.ga K c)) (.ref (He.ga K d)) = some (c == d || d == "CopyError") := by
  have z := List.all_eq_true.mp h c hc
  simp only [List.all_eq_true, decide_eq_true_eq] at z
  exact z d hd
theorem XC.xf {K : PySem.W.Frag} {C : Addr} (T : XC K C) : XfC K C := ⟨T.ga, T.gt, T.ex, T.hd⟩
abbrev Cl := Value × Option Nat × (Addr → Value → Option Addr → TS)
def wMix (K : PySem.W.Frag) (Wout : WX) (D : Ends) : List Cl → WX
  | [] => Wout
  | (c, none, ts) :: r => fun cls d σ H => ∃ b, PySem.W.exmOne K cls c = some b ∧ (b = true → ∀ a, H a = none → ts a cls d D σ H) ∧ (b = false → wMix K Wout D r cls d σ H)
  | (c, some i, ts) :: r => fun cls d σ H => ∃ b, PySem.W.exmOne K cls c = some b ∧ (b = true → ∀ a, H a = none → ts a cls d { nx := fun σ' H' => D.nx (σ'.set i none) H', rt := D.rt, bk := fun σ' H' => D.bk (σ'.set i none) H', ct := fun σ' H' => D.ct (σ'.set i none) H' } (σ.set i (some (.ref a))) H) ∧ (b = false → wMix K Wout D r cls d σ H)
inductive HdsM (X : Cx) : List ExceptHandler → List Cl → Prop
  | nil : HdsM X [] []
  | cons {x : Str} {c : Value} {ts : Addr → Value → Option Addr → TS} {b₀ : Stmt} {suite : List Stmt} {np pos' : Pos} {hds : List ExceptHandler} {l : List Cl} (hc : Names X x c)
      (hsu : ∀ (a : Addr) (oe : Obj) (cls : Value) (d : Option Addr) (pn : List (Addr × Obj)), Zc cls d oe → (∃ vs, oe.data = .fields vs) → PSs (X.suite a ((a, oe) :: pn)) (b₀ :: suite) (ts a cls d)) (r : HdsM X hds l) :
      HdsM X (.ExceptHandler (some (.Name x np)) none (b₀ :: suite) pos' :: hds) ((c, none, ts) :: l)
  | as {x n : Str} {i : Nat} {c : Value} {ts : Addr → Value → Option Addr → TS} {b₀ : Stmt} {suite : List Stmt} {np pos' : Pos} {hds : List ExceptHandler} {l : List Cl} (hi : X.N[i]? = some n) (hln : X.env.kindOf n = some .local) (hc : Names X x c)
      (hsu : ∀ (a : Addr) (oe : Obj) (cls : Value) (d : Option Addr) (pn : List (Addr × Obj)), Zc cls d oe → (∃ vs, oe.data = .fields vs) → PSs (X.suite a ((a, oe) :: pn)) (b₀ :: suite) (ts a cls d)) (r : HdsM X hds l) :
      HdsM X (.ExceptHandler (some (.Name x np)) (some n) (b₀ :: suite) pos' :: hds) ((c, some i, ts) :: l)
section
variable {X : Cx} {body : List Stmt} {h₀ : ExceptHandler} {hds : List ExceptHandler} {l : List Cl} {pos : Pos} {tb : WX → TS} {Wout : WX}
theorem ps_try_mix (hs : X.stack = X.env :: X.outer) (hf : X.env.frame = some X.env.locals) (hN : X.N.Nodup) (tk : Takes X Wout)
    (hb : ∀ (W : WX) (pn : List (Addr × Obj)) (xe : Value → Shared → Prop), Takes (X.tr pn xe) W → PassesOwn (model X.prog X.w) X.A X.env xe → PSs (X.tr pn xe) body (tb W))
    (hh : HdsM X (h₀ :: hds) l) : PS X (.Try body (h₀ :: hds) [] [] pos) (fun D σ H => tb (wMix X.K Wout D l) D σ H) := by
  refine ⟨fun pins s σ H D I h => ?_⟩
  have ok := I.ok
  have hfr : X.A.frames = some (X.env :: X.outer) := by rw [ok.frames, hs]
  refine wpAny_Try_except ?_
  refine wpAny_mono ((hb (wMix X.K Wout D l) (X.pn ++ pins) (fun e s₁ => wpAny (model X.prog X.w) X.A (noteFrame e X.env) (fun _ s₂ => wpAny (model X.prog X.w) X.A (setFlight e none) (fun _ s₃ =>
    wpAny (model X.prog X.w) X.A (handleBy e X.env (h₀ :: hds)) (SP X pins D) X.xe s₃) X.xe s₂) X.xe s₁) (fun u s' xx => ?_) PassesOwn.looking).run [] s σ H D (I.toTry _) h) (fun f s1 hsp => ?_) (fun e s1 he => he)
  · obtain ⟨a, B, sI, pins', σ', H', cls, d, rfl, J', nb, up, sky, na, os, ag, w⟩ := xx
    have J : Inv X pins σ' H' sI := J'.ofTry ok
    have sky' : Sky B (X.env :: X.outer) a (Zc cls d) X.env.locals s'.heap := by rw [← hs]; exact sky
    show wpAny (model X.prog X.w) X.A (noteFrame (.ref a) X.env) _ _ _
    refine Sky.land Zc.steady hfr hf sky' fun h3 fl3 up3 => ?_
    have J3 : Inv X pins σ' H' { s' with heap := h3 } := J.landed nb fl3.1 (up.trans up3) os ag
    obtain ⟨oe3, vs3, he3, hz3, hd3⟩ := fl3.there
    have notFr : ∀ {h : Heap} {o : Obj} {vs : Array Value}, h.FunFrames B (X.env :: X.outer) → h.get? a = some o → o.data = .fields vs → a ∉ frs (X.env :: X.outer) := fun {h o vs} ff e dd hm => by
      obtain ⟨_, o', e', hnf⟩ := ff.mem hm
      rw [e] at e'; cases e'
      exact hnf _ dd
    have nfr := notFr fl3.2.2.1 he3 hd3
    have nL : a ≠ X.env.locals := fun z => nfr (List.mem_filterMap.mpr ⟨X.env, List.mem_cons_self, by rw [hf, z]⟩)
    have nF : a ∉ X.fs := fun hm => by
      obtain ⟨e, he, q⟩ := List.mem_filterMap.mp hm
      exact nfr (List.mem_filterMap.mpr ⟨e, List.mem_cons_of_mem _ he, q⟩)
    have S3 := J3.suite he3 hd3 na nL nF
    have LT : PySem.W.Looks (model X.prog X.w) h3 (typeOf (.ref a)) cls := fun A Q E s k q => wpAny_typeOf_ref (k _ _ he3) (by rw [hz3.1]; exact q)
    have test : ∀ {x : Str} {c : Value} {np : Pos} {Q : Value → Shared → Prop} {E : Value → Shared → Prop}, Names X x c → Q c { s' with heap := h3 } → wpAny (model X.prog X.w) (X.A.mark (some (.ref a))) (eval (.Name x np) X.env) Q E { s' with heap := h3 } := fun {x c np Q E} hc q => by
      obtain ⟨hg, hdbg, hm | ⟨hm, hv, hnn⟩⟩ := hc
      · exact ld_glob (X := X.suite a ((a, oe3) :: (X.pn ++ pins))) S3 hg hm q hdbg
      · exact ld_blt (X := X.suite a ((a, oe3) :: (X.pn ++ pins))) S3 hg hm hv q hnn hdbg
    have go : ∀ {hds' : List ExceptHandler} {l' : List Cl}, HdsM X hds' l' → wMix X.K Wout D l' cls d σ' H' →
        wpAny (model X.prog X.w) X.A (handleBy (.ref a) X.env hds') (SP X pins D) X.xe { s' with heap := h3 } := by
      intro hds' l' hk
      induction hk with
      | nil =>
        intro w
        refine wpAny_handleBy_nil ?_
        obtain ⟨k1, k2, k3, oe, vs, T, oT, ts', he, hz, hd, h1, hr⟩ := id fl3
        unfold PySem.passOn
        refine wpAny_bind (wpAny_field he hd h1 ?_)
        rw [if_neg (show ¬ ((Value.ref T == Value.none) = true) from by simp)]
        have fin : wpAny (model X.prog X.w) X.A (setFlight (.ref a) X.env.frame) (fun _ s4 => wpAny (model X.prog X.w) X.A (throw (.ref a) : Sem Flow) (SP X pins D) X.xe s4) X.xe { s' with heap := h3 } := by
          rw [hf]
          refine HandSPX.setFlight_upZ fl3 fun h4 hh4 up4 => wpAny_throw (tk _ _ ?_)
          exact ⟨a, B, sI, pins, σ', H', cls, d, rfl, J, nb, (up.trans up3).trans up4, .inr (.inr (by rw [hs]; exact hh4)), na, os, ag, w⟩
        first
          | exact wpAny_bind (wpAny_pure (wpAny_bind fin))
          | exact wpAny_bind fin
      | @cons x c ts b₀ suite np pos' hds2 l2 hc hsu r ih =>
        intro w
        obtain ⟨b, hb1, hyes, hno⟩ := w
        refine wpAny_handleBy_cons (codeAny_handlers_test ?_) (by intro q; cases q)
        have LM := PySem.W.exm_one (M := model X.prog X.w) (J3.kIn) LT hb1
        refine test hc (LM.here ?_)
        cases b with
        | true =>
          refine codeAny_handlers_suite ?_
          refine HandSPX.lands_againZ fl3 fun h4 fl4 up4 => ?_
          have J4 : Inv X pins σ' H' { s' with heap := h4 } := J.landed nb fl4.1 ((up.trans up3).trans up4) os ag
          obtain ⟨oe4, vs4, he4, hz4, hd4⟩ := fl4.there
          have S4 := J4.suite he4 hd4 na nL nF
          refine wpAny_mono ((hsu a oe4 cls d (X.pn ++ pins) hz4 ⟨_, hd4⟩).run [] _ _ H' _ S4 (hyes rfl a na)) (fun f s6 hsp => ?_) (fun _ _ z => False.elim z)
          cases f with
          | next =>
            obtain ⟨σ6, H6, S6, q6⟩ := hsp
            exact ⟨_, _, S6.unsuite ok, q6⟩
          | brk =>
            obtain ⟨σ6, H6, S6, q6⟩ := hsp
            exact ⟨_, _, S6.unsuite ok, q6⟩
          | cont =>
            obtain ⟨σ6, H6, S6, q6⟩ := hsp
            exact ⟨_, _, S6.unsuite ok, q6⟩
          | ret u =>
            obtain ⟨v6, σ6, H6, S6, r6, q6⟩ := hsp
            exact ⟨_, _, _, S6.unsuite ok, r6, q6⟩
        | false =>
          show wpAny _ X.A (handleBy (.ref a) X.env hds2) _ _ _
          exact ih (hno rfl)
      | @as x n i c ts b₀ suite np pos' hds2 l2 hi hln hc hsu r ih =>
        intro w
        obtain ⟨b, hb1, hyes, hno⟩ := w
        have hloc : Loc X.env.scope n := .inl hln
        refine wpAny_handleBy_cons (codeAny_handlers_test ?_) (by intro q; cases q)
        have LM := PySem.W.exm_one (M := model X.prog X.w) (J3.kIn) LT hb1
        refine test hc (LM.here ?_)
        cases b with
        | true =>
          refine codeAny_handlers_suite_as ?_
          refine HandSPX.lands_againZ fl3 fun h4 fl4 up4 => ?_
          have J4 : Inv X pins σ' H' { s' with heap := h4 } := J.landed nb fl4.1 ((up.trans up3).trans up4) os ag
          obtain ⟨oe4, vs4, he4, hz4, hd4⟩ := fl4.there
          have S4 := J4.suite he4 hd4 na nL nF
          refine store_ok (X := X.suite a ((a, oe4) :: (X.pn ++ pins))) (v := .ref a) S4 hN hi hloc rfl (fun s5 S5 => ?_) (.inr hln)
          refine wpAny_mono ((hsu a oe4 cls d (X.pn ++ pins) hz4 ⟨_, hd4⟩).run [] s5 _ H' _ S5 (hyes rfl a na)) (fun f s6 hsp => ?_) (fun _ _ z => False.elim z)
          have end_ : ∀ {σ6 : L2.St} {H6 : Hp} {Q : Shared → Prop}, Inv (X.suite a ((a, oe4) :: (X.pn ++ pins))) [] σ6 H6 s6 → (∀ s7, Inv X pins (σ6.set i none) H6 s7 → Q s7) →
              wpAny (model X.prog X.w) X.A (do bindName X.env n .none; unbindBehindTheSuite X.env n pos') (fun _ s7 => Q s7) X.xe s6 := fun {σ6 H6 Q} S6 hq => gone_ok (S6.unsuite ok) hN hi hln hq
          cases f with
          | next =>
            obtain ⟨σ6, H6, S6, q6⟩ := hsp
            exact end_ S6 fun s7 J7 => ⟨_, _, J7, q6⟩
          | brk =>
            obtain ⟨σ6, H6, S6, q6⟩ := hsp
            exact end_ S6 fun s7 J7 => ⟨_, _, J7, q6⟩
          | cont =>
            obtain ⟨σ6, H6, S6, q6⟩ := hsp
            exact end_ S6 fun s7 J7 => ⟨_, _, J7, q6⟩
          | ret u =>
            obtain ⟨v6, σ6, H6, S6, r6, q6⟩ := hsp
            exact end_ S6 fun s7 J7 => ⟨_, _, _, J7, r6, q6⟩
        | false =>
          show wpAny _ X.A (handleBy (.ref a) X.env hds2) _ _ _
          exact ih (hno rfl)
    exact go hh w
  · cases f with
    | next =>
      obtain ⟨σ', H', J', q⟩ := hsp
      exact wpAny_execs_nil ⟨σ', H', J'.ofTry ok, q⟩
    | brk =>
      obtain ⟨σ', H', J', q⟩ := hsp
      exact ⟨σ', H', J'.ofTry ok, q⟩
    | cont =>
      obtain ⟨σ', H', J', q⟩ := hsp
      exact ⟨σ', H', J'.ofTry ok, q⟩
    | ret u =>
      obtain ⟨v, σ', H', J', r, q⟩ := hsp
      exact ⟨v, σ', H', J'.ofTry ok, r, q⟩
end
section
variable {X : Cx} {k i : Nat} {x : Str} {p pos : Pos} {e : Expr} {es : List Expr} {t : TA} {W : WX}
end
end FcX
set_option maxRecDepth 100000
set_option maxHeartbeats 4000000
namespace FcX
open PySem PySem.Spec PyProof.Rows L2 FcR
section
variable {X : Cx} {k : Nat} {f C : Addr} {S : Sp → Prop} {W : WX} {x m : Str} {p pos apos : Pos} {e o : Expr} {es : List Expr} {ta : TE} {t : TA}
end
end FcX
set_option maxRecDepth 100000
set_option maxHeartbeats 4000000
namespace FcL
open PySem PySem.Spec PyProof.Rows L2 FcR FcX LamX NdefX
structure FnG (P : Program) (w : World) (K : PySem.W.Frag) (mg : Str → Option Value) (base : Heap) (k : Nat) (f : Addr) (fd : FuncData) (ps : List Str) (sp : Sp) : Prop where
  len : ∀ vs H Q E, sp vs H Q E → vs.length = ps.length
  run : ∀ (A : Around) (outer : List Env) (s : Shared) (H : Hp) (args : Args) (us : List Value) (vs : List V) (Q : VK) (E : XK), A.guards = some [] → Room k A → Env0 P w K mg base A outer s H → BindsTo s fd args (ps.zip us) → Vals vs us → sp vs H Q E →
    codeAny (model P w) A (.call (.ref f) args) (CR (L2.CX P w) outer P w H s Q E) s
theorem FnG.of {P : Program} {w : World} {K : PySem.W.Frag} {mg : Str → Option Value} {base : Heap} {k : Nat} {f : Addr} {fd : FuncData} {ps : List Str} {sp : Sp} (F : FnOk P w K mg base (L2.CX P w) k f fd ps sp) : FnG P w K mg base k f fd ps sp :=
  ⟨F.len, fun A outer s H args us vs Q E _ hr e0 b r h => F.run A outer s H args us vs Q E hr e0 b r h⟩
theorem FnG.mono {P : Program} {w : World} {K : PySem.W.Frag} {mg : Str → Option Value} {base : Heap} {j k : Nat} {f : Addr} {fd : FuncData} {ps : List Str} {sp : Sp} (F : FnG P w K mg base j f fd ps sp) (h : j ≤ k) : FnG P w K mg base k f fd ps sp :=
  ⟨F.len, fun A outer s H args us vs Q E hg hr => F.run A outer s H args us vs Q E hg (hr.mono h)⟩
def OkG (P : Program) (w : World) (K : PySem.W.Frag) (mg : Str → Option Value) (base : Heap) (k : Nat) (at_ : Str × Option Str) (ps : List Str) (sp : Sp) : Prop :=
  ∃ fd, FnG P w K mg base k (He.fAd K at_) fd ps sp ∧ Binds K fd ps [] ∧ PySem.W.keepIn K (.ref (He.fAd K at_)) = true
section
variable {P : Program} {w : World} {K : PySem.W.Frag} {mg : Str → Option Value} {base : Heap} {x qual : Str} {params : Arguments} {body : List Stmt} {scope : Scope} {dvs : List V} {kws : List (Str × V)} {fd : FuncData} {at_ : Str × Option Str}
/-- such a def: its body knows the guards, and its code object -/
theorem okG {N ps : List Str} {k : Nat} {sp : Sp} (F : FunD K x qual params body scope dvs kws (He.fAd K at_) fd) (S : FnScope N ps scope) (len : ∀ vs H Q E, sp vs H Q E → vs.length = ps.length)
    (hbody : ∀ (cdv : Value) (A : Around) (outer : List Env) (s : Shared) (H : Hp) (vs : List V) (Q : VK) (E : XK), A.guards = some [] → cdv = .ref (He.codeOf K at_) → Room k (A.deeper (envOfC qual scope s.heap.objs.size (He.fAd K at_) cdv)) → sp vs H Q E →
      ∃ t, PSs (cxOf (L2.CX P w) P w K mg base N qual scope (He.fAd K at_) cdv A outer s H E) body t ∧ t { nx := fun _ H' => Q .non H', rt := Q } (start N vs) H) : FnG P w K mg base (k + 1) (He.fAd K at_) fd ps sp := by
  obtain ⟨oc, od, dV, kV, doc, pm, an, cdv, ct, osl, rfl, lk, hcd, _, _⟩ := F.ex
  obtain ⟨c, rfl⟩ := He.codeIn_ref hcd
  refine ⟨len, fun A outer s H args us vs Q E hg hr e0 hb r hsp => run_ofS lk hcd S hr e0 hb r (len _ _ _ _ hsp) fun hr' => ?_⟩
  exact hbody (.ref c) A outer s H vs Q E hg (by rw [He.codeOf_eq lk rfl]) hr' hsp
end
section
variable {X : Cx} {k : Nat} {f : Addr} {fd : FuncData} {ps : List Str} {sp : Sp} {x : Str} {p pos : Pos} {e : Expr} {es : List Expr} {t : TA}
theorem run_fnG {pins : List (Addr × Obj)} {σ : L2.St} {H : Hp} {s : Shared} {Q : VK} {us : List Value} {vs : List V} {base' : Heap} (F : FnG X.prog X.w X.K X.mg base' k f fd ps sp) (hg : X.A.guards = some []) (hr : Room k X.A) (hb : Binds X.K fd ps [])
    (e0 : Env0 X.prog X.w X.K X.mg base' X.A X.stack s H) (I : Inv X pins σ H s) (r : Vals vs us) (h : sp vs H Q (fun _ _ _ => False)) : wpAny (model X.prog X.w) X.A (call (.ref f) us) (EP X pins σ Q) X.xe s := by
  have hl : us.length = ps.length := by rw [← r.length]; exact F.len _ _ _ _ h
  have b := hb s us I.kIn (by rw [List.append_nil]; exact hl)
  rw [List.append_nil] at b
  refine wpAny_call (codeAny_mono (F.run X.A X.stack s H ⟨us, []⟩ us vs Q _ hg hr e0 b r h) fun r s' h' => ?_)
  cases r with
  | error e =>
    obtain ⟨_, _, _, _, _, _, _, _, _, _, _, _, z⟩ := h'
    exact z.elim
  | ok fl =>
    cases fl with
    | ret u => exact I.after h'
    | next => exact False.elim h'
    | brk => exact False.elim h'
    | cont => exact False.elim h'
/-- f(..), f such a def -/
theorem pe_callGd (F : FnG X.prog X.w X.K X.mg X.base k f fd ps sp) (hgd : X.A.guards = some []) (hr : Room k X.A) (hg : Gl X x) (hm : X.mg x = some (.ref f)) (hk : PySem.W.keepIn X.K (.ref f) = true) (hb : Binds X.K fd ps [])
    (ha : PA X (e :: es) t) (hdb : (x == ("__debug__" : Str)) = false := by decide) (he : starEach (e :: es) X.env = (false, eval e X.env) :: starEach es X.env := by rfl) (hpl : (backTo pos (starEach es X.env)).any (·.1) = false := by rfl) :
    PE X (.Call (.Name x p) (e :: es) [] pos) (tCall sp [] (fun _ _ _ => False) t) := by
  refine ⟨fun pins s σ H Q I h => ?_⟩
  refine wpAny_Call_Name_kw (ld_glob I hg hm ?_ hdb)
  refine PySem.W.callWith_K (h₀ := X.base) I.ok.mod.kin hk (thn (ha.run pos pins s σ H _ I h) fun us s1 ⟨vs, H1, I1, r, q⟩ => ⟨I1.kIn, ?_⟩) he hpl
  have q : sp (vs ++ []) H1 Q (fun _ _ _ => False) := q
  rw [List.append_nil] at q
  exact run_fnG F hgd hr hb I1.env0 I1 r q
end
def tabsN (K : PySem.W.Frag) (tf : List He.Defn) : Bool := decide (tf.map fun p => (He.cT K p).2).Nodup
def lamQ (p : He.Defn) : Str := (p.1 ++ ".<locals>.") ++ "<lambda>"
def tabT (K : PySem.W.Frag) (tf : List He.Defn) : List (Addr × Str) := tf.map fun p => ((He.cT K p).2, lamQ p)
theorem tabT_m {K : PySem.W.Frag} {tf : List He.Defn} {i : Nat} {p : He.Defn} (h : tf[i]? = some p) : ((He.cT K p).2, lamQ p) ∈ tabT K tf := List.mem_map.mpr ⟨p, List.mem_of_getElem? h, rfl⟩
theorem tabT_u {K : PySem.W.Frag} {tf : List He.Defn} (nd : tabsN K tf = true) {i : Nat} {p : He.Defn} (h : tf[i]? = some p) : ∀ q ∈ tabT K tf, q.1 = (He.cT K p).2 → q.2 = lamQ p := fun q hq e => by
  obtain ⟨p', hp', rfl⟩ := List.mem_map.mp hq
  obtain ⟨j, hj⟩ := List.mem_iff_getElem?.mp hp'
  have nd := of_decide_eq_true nd
  have e1 : (tf.map fun p => (He.cT K p).2)[i]? = some (He.cT K p).2 := by rw [List.getElem?_map, h] <;> rfl
  have e2 : (tf.map fun p => (He.cT K p).2)[j]? = some (He.cT K p).2 := by rw [List.getElem?_map, hj, ← e] <;> rfl
  have ij := (List.getElem?_inj (List.getElem?_eq_some_iff.mp e1).1 nd).mp (e1.trans e2.symm)
  rw [← ij, h] at hj
  rw [Option.some.inj hj]
def TabG (K : PySem.W.Frag) (base : Heap) (mg : Str → Option Value) (tf : List He.Defn) : Prop := ∀ p ∈ tf, TabB base mg (He.cT K p).1 (He.cT K p).2
theorem law_callG {P : Program} {w : World} {K : PySem.W.Frag} {mg mb : Str → Option Value} {k : Nat} {fa a : Addr} {cs : List (Addr × Addr)} {fd : FuncData} {x : Str} {sp : Sp} {s₁ : Shared} {vs : List Value} {ns : List Int}
    (KX : K.In s₁.heap) (hns : s₁.heap.Ns mainGlobals mg) (hb : s₁.heap.Ns builtinsNs mb) (hbb : ∀ x : Str, x ≠ "__name__" → mb x = bootBuiltins x) (hlim : s₁.heap.NoLimit) (hg : s₁.gens = #[])
    (hT : ∀ p ∈ cs, s₁.heap.get? p.2 = some { cls := .none, data := .fields #[] }) (nT : ∀ p ∈ cs, K.lookup p.2 = none) (C : ∀ p ∈ cs, PySem.W.CodeHd s₁.heap p.1 p.2)
    (hbm : ∃ (bm : Addr) (ob : Obj), mg "__builtins__" = some (.ref bm) ∧ bm ≠ builtinsNs ∧ s₁.heap.get? bm = some ob ∧ ob.cls = .type "module" ∧ ob.dict = some builtinsNs ∧ ob.data = .plain)
    (ha : s₁.heap.get? a = some { cls := .type "list", data := .seq vs.toArray }) (hi : IntsAre vs ns) (hl : ns.length ≤ sizeLine) (hr : Room k callerA)
    (F : ∀ base : Heap, K.In base → (∀ p ∈ cs, TabB base mg p.1 p.2) → FnG P w K mg base k fa fd [x] sp) (hbind : ∀ (s : Shared) (u : Value), BindsTo s fd ⟨[u], []⟩ [(x, u)])
    (hsp : ∀ H : Hp, (∀ p ∈ cs, H p.2 = some (.tbl #[])) → SqL K H a (ns.map V.int) → sp [.ref a] H (fun v _ => v = .bl true) fun _ _ _ => False) :
    codeAny (model P w) callerA (.call (.ref fa) ⟨[.ref a], []⟩) (fun r s' => r = .ok (.ret (.bool true)) ∧ OldK s₁.heap s'.heap ∧ s'.os = s₁.os ∧ AllBare s'.gens) s₁ := by
  classical
  let oa : Obj := { cls := .type "list", data := .seq vs.toArray }
  let Tb : Addr → Prop := fun b => ∃ p ∈ cs, p.2 = b
  let Sc : Addr → Prop := fun b => b = a ∧ K.lookup a = none
  let H : Hp := fun b => if Tb b then some (.tbl #[]) else if Sc b then some (.frz oa (.lst (ns.map V.int))) else none
  have tT : ∀ b, Tb b → s₁.heap.get? b = some { cls := .none, data := .fields #[] } := fun b ⟨p, hp, e⟩ => e ▸ hT p hp
  have nTa : ¬ Tb a := fun z => by
    have q := tT a z
    rw [ha] at q
    have z' : Data.seq vs.toArray _ = Data.fields #[] := congrArg Obj.data (Option.some.inj q)
    cases z'
  have hTb : ∀ b, Tb b → H b = some (.tbl #[]) := fun b z => if_pos z
  have hSc : K.lookup a = none → H a = some (.frz oa (.lst (ns.map V.int))) := fun z => (if_neg nTa).trans (if_pos ⟨rfl, z⟩)
  have inv : ∀ b, H b = none ∨ (Tb b ∧ H b = some (.tbl #[])) ∨ (Sc b ∧ H b = some (.frz oa (.lst (ns.map V.int)))) := fun b => by
    by_cases h1 : Tb b
    · exact .inr (.inl ⟨h1, hTb b h1⟩)
    · by_cases h2 : Sc b
      · exact .inr (.inr ⟨h2, (if_neg h1).trans (if_pos h2)⟩)
      · exact .inl ((if_neg h1).trans (if_neg h2))
  have none_of : ∀ {b : Addr} {o : Obj}, s₁.heap.get? b = some o → (∀ vs n, o.data ≠ .seq vs n) → o.data ≠ .fields #[] → H b = none := fun {b o} e n1 n2 => by
    rcases inv b with z | ⟨z, _⟩ | ⟨z, _⟩
    · exact z
    · rw [tT b z] at e
      cases e
      exact absurd rfl n2
    · rw [z.1, ha] at e
      cases e
      exact absurd rfl (n1 _ _)
  have rv := vals_ints hi
  have lenV := hi.length
  have hok : HOk P w H s₁.heap := fun b o e => by
    rcases inv b with z | ⟨z, q⟩ | ⟨z, q⟩
    · rw [z] at e
      cases e
    · rw [q] at e
      cases e
      exact tT b z
    · rw [q] at e
      cases e
      rw [z.1]
      exact ⟨ha, by rw [List.length_map]; exact hl, vs, _, rv, ha⟩
  have hS : SqL K H a (ns.map V.int) := by
    cases q : K.lookup a with
    | none => exact .inl (.inr ⟨oa, hSc q⟩)
    | some o =>
      have e := KX a o q
      rw [ha] at e
      cases e
      exact .inr ⟨_, vs.toArray, _, q, rfl, rfl, rfl, by rw [List.size_toArray, lenV]; exact hl, by simpa using rv⟩
  have up : ∀ {b : Addr} {o : Obj}, s₁.heap.get? b = some o → H b = none → (hidT s₁.heap H).get? b = some o := fun e n => hidT_get e n
  have nsK : ∀ {b : Addr} {m : Str → Option Value}, s₁.heap.Ns b m → (hidT s₁.heap H).Ns b m := fun {b m} ⟨o, es, ep, e, d, r⟩ => ⟨o, es, ep, up e (none_of e (fun _ _ z => by rw [d] at z; cases z) fun z => by rw [d] at z; cases z), d, r⟩
  have hKb : K.In (hidT s₁.heap H) := fun b o e => up (KX b o e) (by
    rcases inv b with z | ⟨⟨p, hp, z⟩, _⟩ | ⟨z, _⟩
    · exact z
    · rw [← z, nT p hp] at e
      cases e
    · rw [z.1, z.2] at e
      cases e)
  have hM : L2.Mod K mg (hidT s₁.heap H) := ⟨hKb, nsK hns, ⟨mb, nsK hb, hbb⟩, let ⟨mc, h1, h2⟩ := hlim; ⟨mc, nsK h1, h2⟩⟩
  have TB : ∀ p ∈ cs, TabB (hidT s₁.heap H) mg p.1 p.2 := fun p hp => by
    have notP : ∀ {b : Addr} {o : Obj}, s₁.heap.get? b = some o → o.data ≠ .fields #[] → b ≠ p.2 := fun {b o} e n z => by
      rw [z, hT p hp] at e
      cases e
      exact n rfl
    obtain ⟨og, eg, pg, e1, d1, _⟩ := id hns
    obtain ⟨bm, ob, b1, b2, b3, b4, b5, b6⟩ := hbm
    refine ⟨?_, ⟨bm, ob, b1, b2, fun z => ?_, notP b3 (by rw [b6]; exact fun z => by cases z), up b3 (none_of b3 (fun _ _ z => by rw [b6] at z; cases z) fun z => by rw [b6] at z; cases z), b4, b5, b6⟩, notP e1 fun z => by rw [d1] at z; cases z⟩
    · obtain ⟨o, us, file, tf, flags, tg, inF, text, tt, e1, r1, r2, r3, r4, r5, r6, r7, r8, hne⟩ := C p hp
      refine ⟨o, us, file, tf, flags, tg, inF, text, tt, up e1 (none_of e1 (fun _ _ z => by rw [r2] at z; cases z) fun z => ?_), r1, r2, r3, r4, r5, r6, r7, r8, hne⟩
      rw [r2] at z
      cases z
      simp at r3
    · rw [z, e1] at b3
      cases b3
      rw [d1] at b6
      cases b6
  have e0 : Env0 P w K mg (hidT s₁.heap H) callerA [] s₁ H := ⟨rfl, hM, fun b o e => of_hidT e, Nat.le_of_eq (hidT_size _ _), trivial, fun b hb => absurd (show b ∈ ([] : List Addr) from hb) (by simp), hok, .of_eq hg⟩
  refine codeAny_mono ((F _ hKb TB).run callerA [] s₁ H ⟨[.ref a], []⟩ [.ref a] [.ref a] _ _ rfl hr e0 (hbind s₁ (.ref a)) (.cons rfl .nil) (hsp H (fun p hp => hTb p.2 ⟨p, hp, rfl⟩) hS)) fun r s' h => ?_
  cases r with
  | error e =>
    obtain ⟨_, _, _, _, _, _, _, _, _, _, _, _, z⟩ := h
    exact z.elim
  | ok fl =>
    cases fl with
    | next => exact False.elim h
    | brk => exact False.elim h
    | cont => exact False.elim h
    | ret u =>
      obtain ⟨v, H', os, bare, un, hok', r', rfl⟩ := h
      obtain rfl : u = Value.bool true := r'
      have stays : ∀ b o, ¬ Tb b → s₁.heap.get? b = some o → s'.heap.get? b = some o := fun b o nb e => by
        rcases inv b with z | ⟨z, _⟩ | ⟨z, q⟩
        · exact un.keep b o e z (fun z => absurd (show b ∈ ([] : List Addr) from z) (by simp)) (by simp)
        · exact absurd z nb
        · obtain ⟨e2, _⟩ := hok' b _ (un.frzs b _ _ q)
          rw [z.1, ha] at e
          cases e
          exact e2
      have grown : ∀ p ∈ cs, ∃ more : Array Value, s'.heap.get? p.2 = some { cls := .none, data := .fields more } := fun p hp => by
        obtain ⟨more, z⟩ := un.tbls p.2 #[] (hTb p.2 ⟨p, hp, rfl⟩)
        exact ⟨_, hok' p.2 _ z⟩
      refine ⟨rfl, ⟨fun b o e => ?_, fun b o e => ?_⟩, os, bare⟩
      all_goals by_cases z : Tb b
      · obtain ⟨p, hp, rfl⟩ := z
        obtain ⟨more, hm⟩ := grown p hp
        rw [hT p hp] at e
        cases e
        exact .inr (.inl ⟨((C p hp).tab (hT p hp)).isCodeTable, rfl, #[], more, rfl, by rw [Array.empty_append]; exact hm⟩)
      · exact .inl (stays b o z e)
      · obtain ⟨p, hp, rfl⟩ := z
        obtain ⟨more, hm⟩ := grown p hp
        exact ⟨_, hm⟩
      · exact ⟨o, stays b o z e⟩
theorem walk_ofG {l : PySem.W.OpenLaw} {n k : Nat} {q : Program} {loose : List Str} {XP : (Str → Option Value) → Heap → Prop} {YP : World → Heap → Prop} {d : DefRec} {x : Str} (hn : l.most = some n) (hn2 : n ≤ sizeLine) (hdf : d.params.defaults = []) (hr : Room k callerA)
    (F : ∀ (w : World) (mg : Str → Option Value) (fa : Addr) (h : Heap), YP w h → h.Ns mainGlobals mg → mg d.name = some (.ref fa) → ∃ (K : PySem.W.Frag) (cs : List (Addr × Addr)) (fd : FuncData) (sp : Sp), K.In h ∧
      (∀ p ∈ cs, h.get? p.2 = some { cls := .none, data := .fields #[] }) ∧ (∀ p ∈ cs, K.lookup p.2 = none) ∧ (∀ p ∈ cs, PySem.W.CodeHd h p.1 p.2) ∧ (∀ (s : Shared) (u : Value), BindsTo s fd ⟨[u], []⟩ [(x, u)]) ∧
      (∀ (H : Hp) (a : Addr) (ns : List Int), ns.length ≤ n → (∀ p ∈ cs, H p.2 = some (.tbl #[])) → SqL K H a (ns.map V.int) → sp [.ref a] H (fun v _ => v = .bl true) fun _ _ _ => False) ∧
      ∀ base : Heap, K.In base → (∀ p ∈ cs, TabB base mg p.1 p.2) → FnG l.prog w K mg base k fa fd [x] sp) :
    PySem.W.WalkO q loose XP YP l.row.toRowW d [] (fun f vs => PySem.call f vs) := by
  refine Att.attach_callB hn hdf fun w s₀ s₁ mg mb fa o pm cd doc a vs ns G Y ho hd hcd hmg hobj hints hlen hbits hg => ?_
  obtain ⟨K, cs, fd, sp, KX, hT, nT, C, hb, hsp, hF⟩ := F w mg fa _ Y G.T.g hmg
  exact law_callG KX G.T.g G.T.b G.T.builtins G.T.nolimit hg hT nT C G.T.bmain hobj hints (Nat.le_trans hlen hn2) hr hF hb fun H hH hS => hsp H a ns hlen hH hS
end FcL
set_option maxRecDepth 100000
set_option maxHeartbeats 0
namespace Fc
open PySem PySem.Spec PyProof.Rows L2
def topS (i : Nat) : Stmt := PySem.Challenge.pw_finallycopies_k44_invalid_tables.main.body.getD i (.Pass ⟨0, 0, 0, 0⟩)
abbrev sd_wall : Stmt := topS 0
def d_wall : He.DefD := ⟨("_wall", none), "_wall", "_wall", defArgs sd_wall, defBody sd_wall, defScope sd_wall, [], []⟩
abbrev sd_InvalidCode___init__ : Stmt := inClass (topS 3) 0
def d_InvalidCode___init__ : He.DefD := ⟨("InvalidCode", some "__init__"), "__init__", "InvalidCode.__init__", defArgs sd_InvalidCode___init__, defBody sd_InvalidCode___init__, defScope sd_InvalidCode___init__, [], []⟩
abbrev sd_InvalidNumber___init__ : Stmt := inClass (topS 4) 0
def d_InvalidNumber___init__ : He.DefD := ⟨("InvalidNumber", some "__init__"), "__init__", "InvalidNumber.__init__", defArgs sd_InvalidNumber___init__, defBody sd_InvalidNumber___init__, defScope sd_InvalidNumber___init__, [], []⟩
abbrev sd_InvalidAnswers___init__ : Stmt := inClass (topS 5) 0
def d_InvalidAnswers___init__ : He.DefD := ⟨("InvalidAnswers", some "__init__"), "__init__", "InvalidAnswers.__init__", defArgs sd_InvalidAnswers___init__, defBody sd_InvalidAnswers___init__, defScope sd_InvalidAnswers___init__, [], []⟩
abbrev sd_InvalidTable___init__ : Stmt := inClass (topS 6) 0
def d_InvalidTable___init__ : He.DefD := ⟨("InvalidTable", some "__init__"), "__init__", "InvalidTable.__init__", defArgs sd_InvalidTable___init__, defBody sd_InvalidTable___init__, defScope sd_InvalidTable___init__, [], []⟩
abbrev sd_LimitExceeded___init__ : Stmt := inClass (topS 7) 0
def d_LimitExceeded___init__ : He.DefD := ⟨("LimitExceeded", some "__init__"), "__init__", "LimitExceeded.__init__", defArgs sd_LimitExceeded___init__, defBody sd_LimitExceeded___init__, defScope sd_LimitExceeded___init__, [], []⟩
abbrev sd_is_integer : Stmt := topS 9
def d_is_integer : He.DefD := ⟨("is_integer", none), "is_integer", "is_integer", defArgs sd_is_integer, defBody sd_is_integer, defScope sd_is_integer, [], []⟩
abbrev sd_is_between : Stmt := topS 10
def d_is_between : He.DefD := ⟨("is_between", none), "is_between", "is_between", defArgs sd_is_between, defBody sd_is_between, defScope sd_is_between, [], []⟩
abbrev sd_comes_first : Stmt := topS 14
def d_comes_first : He.DefD := ⟨("comes_first", none), "comes_first", "comes_first", defArgs sd_comes_first, defBody sd_comes_first, defScope sd_comes_first, [], []⟩
abbrev sd_keep_first : Stmt := topS 15
def d_keep_first : He.DefD := ⟨("keep_first", none), "keep_first", "keep_first", defArgs sd_keep_first, defBody sd_keep_first, defScope sd_keep_first, [], []⟩
abbrev sd_first_shortest : Stmt := topS 16
def d_first_shortest : He.DefD := ⟨("first_shortest", none), "first_shortest", "first_shortest", defArgs sd_first_shortest, defBody sd_first_shortest, defScope sd_first_shortest, [], []⟩
abbrev sd_left_by_leaf : Stmt := topS 17
def d_left_by_leaf : He.DefD := ⟨("left_by_leaf", none), "left_by_leaf", "left_by_leaf", defArgs sd_left_by_leaf, defBody sd_left_by_leaf, defScope sd_left_by_leaf, [], []⟩
abbrev sd_left_by_if : Stmt := topS 18
def d_left_by_if : He.DefD := ⟨("left_by_if", none), "left_by_if", "left_by_if", defArgs sd_left_by_if, defBody sd_left_by_if, defScope sd_left_by_if, [], []⟩
abbrev sd_left_by_while : Stmt := topS 19
def d_left_by_while : He.DefD := ⟨("left_by_while", none), "left_by_while", "left_by_while", defArgs sd_left_by_while, defBody sd_left_by_while, defScope sd_left_by_while, [], []⟩
abbrev sd_left_by_seq : Stmt := topS 20
def d_left_by_seq : He.DefD := ⟨("left_by_seq", none), "left_by_seq", "left_by_seq", defArgs sd_left_by_seq, defBody sd_left_by_seq, defScope sd_left_by_seq, [], []⟩
abbrev sd_left_by_try : Stmt := topS 21
def d_left_by_try : He.DefD := ⟨("left_by_try", none), "left_by_try", "left_by_try", defArgs sd_left_by_try, defBody sd_left_by_try, defScope sd_left_by_try, [], []⟩
abbrev sd_left_by_final : Stmt := topS 22
def d_left_by_final : He.DefD := ⟨("left_by_final", none), "left_by_final", "left_by_final", defArgs sd_left_by_final, defBody sd_left_by_final, defScope sd_left_by_final, [], []⟩
abbrev sd_shortest_answers : Stmt := topS 23
def d_shortest_answers : He.DefD := ⟨("shortest_answers", none), "shortest_answers", "shortest_answers", defArgs sd_shortest_answers, defBody sd_shortest_answers, defScope sd_shortest_answers, [], []⟩
abbrev sd_all_ways : Stmt := topS 24
def d_all_ways : He.DefD := ⟨("all_ways", none), "all_ways", "all_ways", defArgs sd_all_ways, defBody sd_all_ways, defScope sd_all_ways, [], []⟩
abbrev sd_begin_parts : Stmt := topS 25
def d_begin_parts : He.DefD := ⟨("begin_parts", none), "begin_parts", "begin_parts", defArgs sd_begin_parts, defBody sd_begin_parts, defScope sd_begin_parts, [], []⟩
abbrev sd_begin_answers : Stmt := topS 26
def d_begin_answers : He.DefD := ⟨("begin_answers", none), "begin_answers", "begin_answers", defArgs sd_begin_answers, defBody sd_begin_answers, defScope sd_begin_answers, [], []⟩
abbrev sd_all_place_answers : Stmt := topS 27
def d_all_place_answers : He.DefD := ⟨("all_place_answers", none), "all_place_answers", "all_place_answers", defArgs sd_all_place_answers, defBody sd_all_place_answers, defScope sd_all_place_answers, [], []⟩
abbrev sd_reached : Stmt := topS 28
def d_reached : He.DefD := ⟨("reached", none), "reached", "reached", defArgs sd_reached, defBody sd_reached, defScope sd_reached, [], []⟩
abbrev sd_outer_way : Stmt := topS 32
def d_outer_way : He.DefD := ⟨("outer_way", none), "outer_way", "outer_way", defArgs sd_outer_way, defBody sd_outer_way, defScope sd_outer_way, [], []⟩
abbrev sd_follower : Stmt := topS 33
def d_follower : He.DefD := ⟨("follower", none), "follower", "follower", defArgs sd_follower, defBody sd_follower, defScope sd_follower, [], []⟩
abbrev sd_Flow___init__ : Stmt := inClass (topS 34) 0
def d_Flow___init__ : He.DefD := ⟨("Flow", some "__init__"), "__init__", "Flow.__init__", defArgs sd_Flow___init__, defBody sd_Flow___init__, defScope sd_Flow___init__, [], []⟩
abbrev sd_Flow_can_end : Stmt := inClass (topS 34) 1
def d_Flow_can_end : He.DefD := ⟨("Flow", some "can_end"), "can_end", "Flow.can_end", defArgs sd_Flow_can_end, defBody sd_Flow_can_end, defScope sd_Flow_can_end, [], []⟩
abbrev sd_Flow_block_entry : Stmt := inClass (topS 34) 2
def d_Flow_block_entry : He.DefD := ⟨("Flow", some "block_entry"), "block_entry", "Flow.block_entry", defArgs sd_Flow_block_entry, defBody sd_Flow_block_entry, defScope sd_Flow_block_entry, [], []⟩
abbrev sd_Flow_route : Stmt := inClass (topS 34) 3
def d_Flow_route : He.DefD := ⟨("Flow", some "route"), "route", "Flow.route", defArgs sd_Flow_route, defBody sd_Flow_route, defScope sd_Flow_route, [], []⟩
abbrev sd_Flow_behind : Stmt := inClass (topS 34) 4
def d_Flow_behind : He.DefD := ⟨("Flow", some "behind"), "behind", "Flow.behind", defArgs sd_Flow_behind, defBody sd_Flow_behind, defScope sd_Flow_behind, [], []⟩
abbrev sd_Flow_routes : Stmt := inClass (topS 34) 5
def d_Flow_routes : He.DefD := ⟨("Flow", some "routes"), "routes", "Flow.routes", defArgs sd_Flow_routes, defBody sd_Flow_routes, defScope sd_Flow_routes, [], []⟩
abbrev sd_Flow_needed : Stmt := inClass (topS 34) 6
def d_Flow_needed : He.DefD := ⟨("Flow", some "needed"), "needed", "Flow.needed", defArgs sd_Flow_needed, defBody sd_Flow_needed, defScope sd_Flow_needed, [], []⟩
abbrev sd_Flow_needed_behind : Stmt := inClass (topS 34) 7
def d_Flow_needed_behind : He.DefD := ⟨("Flow", some "needed_behind"), "needed_behind", "Flow.needed_behind", defArgs sd_Flow_needed_behind, defBody sd_Flow_needed_behind, defScope sd_Flow_needed_behind, [], []⟩
abbrev sd_joined : Stmt := topS 36
def d_joined : He.DefD := ⟨("joined", none), "joined", "joined", defArgs sd_joined, defBody sd_joined, defScope sd_joined, [], []⟩
abbrev sd_Counter___init__ : Stmt := inClass (topS 37) 0
def d_Counter___init__ : He.DefD := ⟨("Counter", some "__init__"), "__init__", "Counter.__init__", defArgs sd_Counter___init__, defBody sd_Counter___init__, defScope sd_Counter___init__, [], []⟩
abbrev sd_Counter_choices : Stmt := inClass (topS 37) 1
def d_Counter_choices : He.DefD := ⟨("Counter", some "choices"), "choices", "Counter.choices", defArgs sd_Counter_choices, defBody sd_Counter_choices, defScope sd_Counter_choices, [], []⟩
abbrev sd_Counter_many_for : Stmt := inClass (topS 37) 2
def d_Counter_many_for : He.DefD := ⟨("Counter", some "many_for"), "many_for", "Counter.many_for", defArgs sd_Counter_many_for, defBody sd_Counter_many_for, defScope sd_Counter_many_for, [], []⟩
abbrev sd_Counter_copies : Stmt := inClass (topS 37) 3
def d_Counter_copies : He.DefD := ⟨("Counter", some "copies"), "copies", "Counter.copies", defArgs sd_Counter_copies, defBody sd_Counter_copies, defScope sd_Counter_copies, [], []⟩
abbrev sd_is_name : Stmt := topS 47
def d_is_name : He.DefD := ⟨("is_name", none), "is_name", "is_name", defArgs sd_is_name, defBody sd_is_name, defScope sd_is_name, [], []⟩
abbrev sd_is_statement : Stmt := topS 48
def d_is_statement : He.DefD := ⟨("is_statement", none), "is_statement", "is_statement", defArgs sd_is_statement, defBody sd_is_statement, defScope sd_is_statement, [], []⟩
abbrev sd_parts_in : Stmt := topS 49
def d_parts_in : He.DefD := ⟨("parts_in", none), "parts_in", "parts_in", defArgs sd_parts_in, defBody sd_parts_in, defScope sd_parts_in, [], []⟩
abbrev sd_Code___init__ : Stmt := inClass (topS 50) 0
def d_Code___init__ : He.DefD := ⟨("Code", some "__init__"), "__init__", "Code.__init__", defArgs sd_Code___init__, defBody sd_Code___init__, defScope sd_Code___init__, [], []⟩
abbrev sd_Code_check : Stmt := inClass (topS 50) 1
def d_Code_check : He.DefD := ⟨("Code", some "check"), "check", "Code.check", defArgs sd_Code_check, defBody sd_Code_check, defScope sd_Code_check, [], []⟩
abbrev sd_Code_keep : Stmt := inClass (topS 50) 2
def d_Code_keep : He.DefD := ⟨("Code", some "keep"), "keep", "Code.keep", defArgs sd_Code_keep, defBody sd_Code_keep, defScope sd_Code_keep, [], []⟩
abbrev sd_Code___eq__ : Stmt := inClass (topS 50) 3
def d_Code___eq__ : He.DefD := ⟨("Code", some "__eq__"), "__eq__", "Code.__eq__", defArgs sd_Code___eq__, defBody sd_Code___eq__, defScope sd_Code___eq__, [], []⟩
abbrev sd_Code___len__ : Stmt := inClass (topS 50) 4
def d_Code___len__ : He.DefD := ⟨("Code", some "__len__"), "__len__", "Code.__len__", defArgs sd_Code___len__, defBody sd_Code___len__, defScope sd_Code___len__, [], []⟩
abbrev sd_Code___getitem__ : Stmt := inClass (topS 50) 5
def d_Code___getitem__ : He.DefD := ⟨("Code", some "__getitem__"), "__getitem__", "Code.__getitem__", defArgs sd_Code___getitem__, defBody sd_Code___getitem__, defScope sd_Code___getitem__, [], []⟩
abbrev sd_Code___iter__ : Stmt := inClass (topS 50) 6
def d_Code___iter__ : He.DefD := ⟨("Code", some "__iter__"), "__iter__", "Code.__iter__", defArgs sd_Code___iter__, defBody sd_Code___iter__, defScope sd_Code___iter__, [], []⟩
abbrev sd_Code_check_number : Stmt := inClass (topS 50) 7
def d_Code_check_number : He.DefD := ⟨("Code", some "check_number"), "check_number", "Code.check_number", defArgs sd_Code_check_number, defBody sd_Code_check_number, defScope sd_Code_check_number, [], []⟩
abbrev sd_Code_is_place : Stmt := inClass (topS 50) 8
def d_Code_is_place : He.DefD := ⟨("Code", some "is_place"), "is_place", "Code.is_place", defArgs sd_Code_is_place, defBody sd_Code_is_place, defScope sd_Code_is_place, [], []⟩
abbrev sd_Code_check_place : Stmt := inClass (topS 50) 9
def d_Code_check_place : He.DefD := ⟨("Code", some "check_place"), "check_place", "Code.check_place", defArgs sd_Code_check_place, defBody sd_Code_check_place, defScope sd_Code_check_place, [], []⟩
abbrev sd_Code_kind : Stmt := inClass (topS 50) 10
def d_Code_kind : He.DefD := ⟨("Code", some "kind"), "kind", "Code.kind", defArgs sd_Code_kind, defBody sd_Code_kind, defScope sd_Code_kind, [], []⟩
abbrev sd_Code_parent : Stmt := inClass (topS 50) 11
def d_Code_parent : He.DefD := ⟨("Code", some "parent"), "parent", "Code.parent", defArgs sd_Code_parent, defBody sd_Code_parent, defScope sd_Code_parent, [], []⟩
abbrev sd_Code_parts : Stmt := inClass (topS 50) 12
def d_Code_parts : He.DefD := ⟨("Code", some "parts"), "parts", "Code.parts", defArgs sd_Code_parts, defBody sd_Code_parts, defScope sd_Code_parts, [], []⟩
abbrev sd_Code_places : Stmt := inClass (topS 50) 13
def d_Code_places : He.DefD := ⟨("Code", some "places"), "places", "Code.places", defArgs sd_Code_places, defBody sd_Code_places, defScope sd_Code_places, [], []⟩
abbrev sd_Code_entry : Stmt := inClass (topS 50) 14
def d_Code_entry : He.DefD := ⟨("Code", some "entry"), "entry", "Code.entry", defArgs sd_Code_entry, defBody sd_Code_entry, defScope sd_Code_entry, [], []⟩
abbrev sd_Code_entry_of : Stmt := inClass (topS 50) 15
def d_Code_entry_of : He.DefD := ⟨("Code", some "entry_of"), "entry_of", "Code.entry_of", defArgs sd_Code_entry_of, defBody sd_Code_entry_of, defScope sd_Code_entry_of, [], []⟩
abbrev sd_Code_layers : Stmt := inClass (topS 50) 16
def d_Code_layers : He.DefD := ⟨("Code", some "layers"), "layers", "Code.layers", defArgs sd_Code_layers, defBody sd_Code_layers, defScope sd_Code_layers, [], []⟩
abbrev sd_Code_layers_of : Stmt := inClass (topS 50) 17
def d_Code_layers_of : He.DefD := ⟨("Code", some "layers_of"), "layers_of", "Code.layers_of", defArgs sd_Code_layers_of, defBody sd_Code_layers_of, defScope sd_Code_layers_of, [], []⟩
abbrev sd_Lowered___init__ : Stmt := inClass (topS 53) 0
def d_Lowered___init__ : He.DefD := ⟨("Lowered", some "__init__"), "__init__", "Lowered.__init__", defArgs sd_Lowered___init__, defBody sd_Lowered___init__, defScope sd_Lowered___init__, [], []⟩
abbrev sd_Lowered_code : Stmt := inClass (topS 53) 1
def d_Lowered_code : He.DefD := ⟨("Lowered", some "code"), "code", "Lowered.code", defArgs sd_Lowered_code, defBody sd_Lowered_code, defScope sd_Lowered_code, [], []⟩
abbrev sd_Lowered_total : Stmt := inClass (topS 53) 2
def d_Lowered_total : He.DefD := ⟨("Lowered", some "total"), "total", "Lowered.total", defArgs sd_Lowered_total, defBody sd_Lowered_total, defScope sd_Lowered_total, [], []⟩
abbrev sd_Lowered_start : Stmt := inClass (topS 53) 3
def d_Lowered_start : He.DefD := ⟨("Lowered", some "start"), "start", "Lowered.start", defArgs sd_Lowered_start, defBody sd_Lowered_start, defScope sd_Lowered_start, [], []⟩
abbrev sd_Lowered_check : Stmt := inClass (topS 53) 4
def d_Lowered_check : He.DefD := ⟨("Lowered", some "check"), "check", "Lowered.check", defArgs sd_Lowered_check, defBody sd_Lowered_check, defScope sd_Lowered_check, [], []⟩
abbrev sd_Lowered_place : Stmt := inClass (topS 53) 5
def d_Lowered_place : He.DefD := ⟨("Lowered", some "place"), "place", "Lowered.place", defArgs sd_Lowered_place, defBody sd_Lowered_place, defScope sd_Lowered_place, [], []⟩
abbrev sd_Lowered_known : Stmt := inClass (topS 53) 6
def d_Lowered_known : He.DefD := ⟨("Lowered", some "known"), "known", "Lowered.known", defArgs sd_Lowered_known, defBody sd_Lowered_known, defScope sd_Lowered_known, [], []⟩
abbrev sd_Lowered_chosen : Stmt := inClass (topS 53) 7
def d_Lowered_chosen : He.DefD := ⟨("Lowered", some "chosen"), "chosen", "Lowered.chosen", defArgs sd_Lowered_chosen, defBody sd_Lowered_chosen, defScope sd_Lowered_chosen, [], []⟩
abbrev sd_Lowered_address : Stmt := inClass (topS 53) 8
def d_Lowered_address : He.DefD := ⟨("Lowered", some "address"), "address", "Lowered.address", defArgs sd_Lowered_address, defBody sd_Lowered_address, defScope sd_Lowered_address, [], []⟩
abbrev sd_Lowered_follow : Stmt := inClass (topS 53) 9
def d_Lowered_follow : He.DefD := ⟨("Lowered", some "follow"), "follow", "Lowered.follow", defArgs sd_Lowered_follow, defBody sd_Lowered_follow, defScope sd_Lowered_follow, [], []⟩
abbrev sd_Lowered_after : Stmt := inClass (topS 53) 10
def d_Lowered_after : He.DefD := ⟨("Lowered", some "after"), "after", "Lowered.after", defArgs sd_Lowered_after, defBody sd_Lowered_after, defScope sd_Lowered_after, [], []⟩
abbrev sd_Lowered_row : Stmt := inClass (topS 53) 11
def d_Lowered_row : He.DefD := ⟨("Lowered", some "row"), "row", "Lowered.row", defArgs sd_Lowered_row, defBody sd_Lowered_row, defScope sd_Lowered_row, [], []⟩
abbrev sd_Lowered_walk : Stmt := inClass (topS 53) 12
def d_Lowered_walk : He.DefD := ⟨("Lowered", some "walk"), "walk", "Lowered.walk", defArgs sd_Lowered_walk, defBody sd_Lowered_walk, defScope sd_Lowered_walk, [], []⟩
abbrev sd_Lowered_trace : Stmt := inClass (topS 53) 13
def d_Lowered_trace : He.DefD := ⟨("Lowered", some "trace"), "trace", "Lowered.trace", defArgs sd_Lowered_trace, defBody sd_Lowered_trace, defScope sd_Lowered_trace, [], []⟩
abbrev sd_Lowered_address_after : Stmt := inClass (topS 53) 14
def d_Lowered_address_after : He.DefD := ⟨("Lowered", some "address_after"), "address_after", "Lowered.address_after", defArgs sd_Lowered_address_after, defBody sd_Lowered_address_after, defScope sd_Lowered_address_after, [], []⟩
abbrev sd_Lowered_answers_to : Stmt := inClass (topS 53) 15
def d_Lowered_answers_to : He.DefD := ⟨("Lowered", some "answers_to"), "answers_to", "Lowered.answers_to", defArgs sd_Lowered_answers_to, defBody sd_Lowered_answers_to, defScope sd_Lowered_answers_to, [], []⟩
abbrev sd_Lowered_before : Stmt := inClass (topS 53) 16
def d_Lowered_before : He.DefD := ⟨("Lowered", some "before"), "before", "Lowered.before", defArgs sd_Lowered_before, defBody sd_Lowered_before, defScope sd_Lowered_before, [], []⟩
abbrev sd_renumbered : Stmt := topS 59
def d_renumbered : He.DefD := ⟨("renumbered", none), "renumbered", "renumbered", defArgs sd_renumbered, defBody sd_renumbered, defScope sd_renumbered, [], []⟩
abbrev sd_ordered : Stmt := topS 60
def d_ordered : He.DefD := ⟨("ordered", none), "ordered", "ordered", defArgs sd_ordered, defBody sd_ordered, defScope sd_ordered, [], []⟩
abbrev sd_is_item : Stmt := topS 61
def d_is_item : He.DefD := ⟨("is_item", none), "is_item", "is_item", defArgs sd_is_item, defBody sd_is_item, defScope sd_is_item, [], []⟩
abbrev sd_is_row : Stmt := topS 62
def d_is_row : He.DefD := ⟨("is_row", none), "is_row", "is_row", defArgs sd_is_row, defBody sd_is_row, defScope sd_is_row, [], []⟩
abbrev sd_check_rows : Stmt := topS 63
def d_check_rows : He.DefD := ⟨("check_rows", none), "check_rows", "check_rows", defArgs sd_check_rows, defBody sd_check_rows, defScope sd_check_rows, [], []⟩
abbrev sd_Comparison___init__ : Stmt := inClass (topS 64) 0
def d_Comparison___init__ : He.DefD := ⟨("Comparison", some "__init__"), "__init__", "Comparison.__init__", defArgs sd_Comparison___init__, defBody sd_Comparison___init__, defScope sd_Comparison___init__, [], []⟩
abbrev sd_Comparison_note : Stmt := inClass (topS 64) 1
def d_Comparison_note : He.DefD := ⟨("Comparison", some "note"), "note", "Comparison.note", defArgs sd_Comparison_note, defBody sd_Comparison_note, defScope sd_Comparison_note, [], []⟩
abbrev sd_Comparison_go_on : Stmt := inClass (topS 64) 2
def d_Comparison_go_on : He.DefD := ⟨("Comparison", some "go_on"), "go_on", "Comparison.go_on", defArgs sd_Comparison_go_on, defBody sd_Comparison_go_on, defScope sd_Comparison_go_on, [], []⟩
abbrev sd_Comparison_first_difference : Stmt := inClass (topS 64) 3
def d_Comparison_first_difference : He.DefD := ⟨("Comparison", some "first_difference"), "first_difference", "Comparison.first_difference", defArgs sd_Comparison_first_difference, defBody sd_Comparison_first_difference, defScope sd_Comparison_first_difference, [], []⟩
abbrev sd_check_table : Stmt := topS 65
def d_check_table : He.DefD := ⟨("check_table", none), "check_table", "check_table", defArgs sd_check_table, defBody sd_check_table, defScope sd_check_table, [], []⟩
abbrev sd_classes_of : Stmt := topS 66
def d_classes_of : He.DefD := ⟨("classes_of", none), "classes_of", "classes_of", defArgs sd_classes_of, defBody sd_classes_of, defScope sd_classes_of, [], []⟩
abbrev sd_merged : Stmt := topS 67
def d_merged : He.DefD := ⟨("merged", none), "merged", "merged", defArgs sd_merged, defBody sd_merged, defScope sd_merged, [], []⟩
abbrev sd_law_cell_at : Stmt := topS 69
def d_law_cell_at : He.DefD := ⟨("_law_cell_at", none), "_law_cell_at", "_law_cell_at", defArgs sd_law_cell_at, defBody sd_law_cell_at, defScope sd_law_cell_at, [], []⟩
abbrev sd_law_source : Stmt := topS 70
def d_law_source : He.DefD := ⟨("_law_source", none), "_law_source", "_law_source", defArgs sd_law_source, defBody sd_law_source, defScope sd_law_source, [], []⟩
abbrev sd_law_draw : Stmt := topS 71
def d_law_draw : He.DefD := ⟨("_law_draw", none), "_law_draw", "_law_draw", defArgs sd_law_draw, defBody sd_law_draw, defScope sd_law_draw, [], []⟩
abbrev sd_law_choice : Stmt := topS 72
def d_law_choice : He.DefD := ⟨("_law_choice", none), "_law_choice", "_law_choice", defArgs sd_law_choice, defBody sd_law_choice, defScope sd_law_choice, [], []⟩
abbrev sd_law_name : Stmt := topS 73
def d_law_name : He.DefD := ⟨("_law_name", none), "_law_name", "_law_name", defArgs sd_law_name, defBody sd_law_name, defScope sd_law_name, [], []⟩
abbrev sd_law_leaf : Stmt := topS 74
def d_law_leaf : He.DefD := ⟨("_law_leaf", none), "_law_leaf", "_law_leaf", defArgs sd_law_leaf, defBody sd_law_leaf, defScope sd_law_leaf, [], []⟩
abbrev sd_law_statement : Stmt := topS 75
def d_law_statement : He.DefD := ⟨("_law_statement", none), "_law_statement", "_law_statement", defArgs sd_law_statement, defBody sd_law_statement, defScope sd_law_statement, [], []⟩
abbrev sd_law_said : Stmt := topS 76
def d_law_said : He.DefD := ⟨("_law_said", none), "_law_said", "_law_said", defArgs sd_law_said, defBody sd_law_said, defScope sd_law_said, [], []⟩
abbrev sd_law_refused : Stmt := topS 77
def d_law_refused : He.DefD := ⟨("_law_refused", none), "_law_refused", "_law_refused", defArgs sd_law_refused, defBody sd_law_refused, defScope sd_law_refused, [], []⟩
abbrev sd_law_row : Stmt := topS 78
def d_law_row : He.DefD := ⟨("_law_row", none), "_law_row", "_law_row", defArgs sd_law_row, defBody sd_law_row, defScope sd_law_row, [], []⟩
abbrev sd_law_odd_item : Stmt := topS 79
def d_law_odd_item : He.DefD := ⟨("_law_odd_item", none), "_law_odd_item", "_law_odd_item", defArgs sd_law_odd_item, defBody sd_law_odd_item, defScope sd_law_odd_item, [], []⟩
abbrev sd_law_odd_row : Stmt := topS 80
def d_law_odd_row : He.DefD := ⟨("_law_odd_row", none), "_law_odd_row", "_law_odd_row", defArgs sd_law_odd_row, defBody sd_law_odd_row, defScope sd_law_odd_row, [], []⟩
abbrev sd_law : Stmt := topS 81
def d_law : He.DefD := ⟨("law", none), "law", "law", defArgs sd_law, defBody sd_law, defScope sd_law, [], []⟩
def fnL0 : List He.DefD := [d_wall, d_InvalidCode___init__, d_InvalidNumber___init__, d_InvalidAnswers___init__, d_InvalidTable___init__, d_LimitExceeded___init__, d_is_integer, d_is_between, d_comes_first, d_keep_first, d_first_shortest, d_left_by_leaf, d_left_by_if, d_left_by_while, d_left_by_seq, d_left_by_try, d_left_by_final, d_shortest_answers, d_all_ways, d_begin_parts, d_begin_answers, d_all_place_answers, d_reached, d_outer_way, d_follower, d_Flow___init__, d_Flow_can_end, d_Flow_block_entry, d_Flow_route, d_Flow_behind]
def fnL1 : List He.DefD := [d_Flow_routes, d_Flow_needed, d_Flow_needed_behind, d_joined, d_Counter___init__, d_Counter_choices, d_Counter_many_for, d_Counter_copies, d_is_name, d_is_statement, d_parts_in, d_Code___init__, d_Code_check, d_Code_keep, d_Code___eq__, d_Code___len__, d_Code___getitem__, d_Code___iter__, d_Code_check_number, d_Code_is_place, d_Code_check_place, d_Code_kind, d_Code_parent, d_Code_parts, d_Code_places, d_Code_entry, d_Code_entry_of, d_Code_layers, d_Code_layers_of, d_Lowered___init__]
def fnL2 : List He.DefD := [d_Lowered_code, d_Lowered_total, d_Lowered_start, d_Lowered_check, d_Lowered_place, d_Lowered_known, d_Lowered_chosen, d_Lowered_address, d_Lowered_follow, d_Lowered_after, d_Lowered_row, d_Lowered_walk, d_Lowered_trace, d_Lowered_address_after, d_Lowered_answers_to, d_Lowered_before, d_renumbered, d_ordered, d_is_item, d_is_row, d_check_rows, d_Comparison___init__, d_Comparison_note, d_Comparison_go_on, d_Comparison_first_difference, d_check_table, d_classes_of, d_merged, d_law_cell_at, d_law_source]
def fnL3 : List He.DefD := [d_law_draw, d_law_choice, d_law_name, d_law_leaf, d_law_statement, d_law_said, d_law_refused, d_law_row, d_law_odd_item, d_law_odd_row, d_law]
def fnL : List He.DefD := fnL0 ++ fnL1 ++ fnL2 ++ fnL3
def faL0 : List He.Fa := [.glo "_wall", .glo "CopyError", .glo "InvalidCode", .glo "InvalidNumber", .glo "InvalidAnswers", .glo "InvalidTable", .glo "LimitExceeded", .glo "is_integer", .glo "is_between", .glo "NORMAL_ways", .glo "RAISE", .glo "comes_first", .glo "keep_first", .glo "first_shortest", .glo "left_by_leaf", .glo "left_by_if", .glo "left_by_while", .glo "left_by_seq", .glo "left_by_try", .glo "left_by_final", .glo "shortest_answers", .glo "all_ways", .glo "begin_parts", .glo "begin_answers", .glo "all_place_answers", .glo "reached", .glo "NORMAL_routes", .glo "ENDS_routes", .glo "outer_way", .glo "follower"]
def faL1 : List He.Fa := [.glo "Flow", .glo "joined", .glo "Counter", .glo "SIZES", .glo "NAMED", .glo "JUMPS", .glo "is_name", .glo "is_statement", .glo "parts_in", .glo "Code", .glo "ASKING_lowered", .glo "Lowered", .glo "ENDS_tables", .glo "ASKING_tables", .glo "renumbered", .glo "ordered", .glo "is_item", .glo "is_row", .glo "check_rows", .glo "Comparison", .glo "check_table", .glo "classes_of", .glo "merged", .glo "_law_cell_at", .glo "_law_source", .glo "_law_draw", .glo "_law_choice", .glo "_law_name", .glo "_law_leaf", .glo "_law_statement"]
def faL2 : List He.Fa := [.glo "_law_said", .glo "_law_refused", .glo "_law_row", .glo "_law_odd_item", .glo "_law_odd_row", .glo "law", .free "ArithmeticError", .free "TypeError", .free "all", .free "bool", .free "dict", .free "enumerate", .free "int", .free "isinstance", .free "len", .free "list", .free "min", .free "range", .free "reversed", .free "set", .free "sorted", .free "str", .free "sum", .free "tuple", .free "zip", .int "MOST_STATEMENTS" 400, .int "MOST_DEEP" 100, .int "MOST_BLOCKS" 25, .int "MOST_LETTERS" 8, .str "LETTERS" "abcdefghijklmnopqrstuvwxyz"]
def faL3 : List He.Fa := [.int "MOST_ROWS" 200, .int "MOST_PAIRS" 300, .cls "Flow", .mkr "Flow", .noat "Flow" "different", .noat "Flow" "needs", .noat "Flow" "source", .noat "Flow" "ways", .meth "Flow" "can_end", .meth "Flow" "block_entry", .meth "Flow" "route", .meth "Flow" "behind", .meth "Flow" "routes", .meth "Flow" "needed", .meth "Flow" "needed_behind", .cls "Counter", .mkr "Counter", .noat "Counter" "flow", .noat "Counter" "memo", .meth "Counter" "choices", .meth "Counter" "many_for", .meth "Counter" "copies", .cls "Code", .mkr "Code", .noat "Code" "children", .noat "Code" "kinds", .noat "Code" "labels", .noat "Code" "parents", .noat "Code" "statements", .meth "Code" "check"]
def faL4 : List He.Fa := [.meth "Code" "keep", .meth "Code" "__eq__", .meth "Code" "__len__", .meth "Code" "__getitem__", .meth "Code" "__iter__", .meth "Code" "check_number", .meth "Code" "is_place", .meth "Code" "check_place", .meth "Code" "kind", .meth "Code" "parent", .meth "Code" "parts", .meth "Code" "places", .meth "Code" "entry", .meth "Code" "entry_of", .meth "Code" "layers", .meth "Code" "layers_of", .cls "Lowered", .mkr "Lowered", .noat "Lowered" "counter", .noat "Lowered" "firsts", .noat "Lowered" "flow", .noat "Lowered" "rows", .noat "Lowered" "size", .noat "Lowered" "source", .meth "Lowered" "code", .meth "Lowered" "total", .meth "Lowered" "start", .meth "Lowered" "check", .meth "Lowered" "place", .meth "Lowered" "known"]
def faL5 : List He.Fa := [.meth "Lowered" "chosen", .meth "Lowered" "address", .meth "Lowered" "follow", .meth "Lowered" "after", .meth "Lowered" "row", .meth "Lowered" "walk", .meth "Lowered" "trace", .meth "Lowered" "address_after", .meth "Lowered" "answers_to", .meth "Lowered" "before", .cls "Comparison", .mkr "Comparison", .noat "Comparison" "lowered", .noat "Comparison" "met", .noat "Comparison" "rows", .meth "Comparison" "note", .meth "Comparison" "go_on", .meth "Comparison" "first_difference"]
def faL : List He.Fa := faL0 ++ faL1 ++ faL2 ++ faL3 ++ faL4 ++ faL5
def tabL : List He.Tab := [(fun K => He.ga K "ENDS_routes", ["normal", "return", "raise"]), (fun K => He.ga K "SIZES", ["do", "call", "if", "while", "seq", "break", "continue", "return", "raise", "try", "final"])]
def tfL : List He.Defn := [("_law_refused", none), ("law", none)]
def xN : List PySem.Str := ["CopyError", "InvalidCode", "InvalidNumber", "InvalidAnswers", "InvalidTable", "LimitExceeded"]
def exB (K : PySem.W.Frag) : Bool := (He.tupB K "NORMAL_ways" [.str "normal"]) && (He.tupB K "RAISE" [.str "raise"]) && (He.tupB K "NORMAL_routes" [.str "normal"]) && (He.tupB K "NAMED" [.str "do", .str "call", .str "if", .str "while"]) && (He.tupB K "JUMPS" [.str "break", .str "continue"]) && (He.tupB K "ASKING_lowered" [.str "call", .str "if", .str "while"]) && (He.tupB K "ENDS_tables" [.str "end", .str "return", .str "raise"]) && (He.tupB K "ASKING_tables" [.str "call", .str "if", .str "while"]) && (He.valsB K (He.ga K "ENDS_routes") [("normal", .str "end"), ("return", .str "return"), ("raise", .str "raise")]) && (He.valsB K (He.ga K "SIZES") [("do", .int 2), ("call", .int 2), ("if", .int 4), ("while", .int 3), ("seq", .int 2), ("break", .int 2), ("continue", .int 2), ("return", .int 1), ("raise", .int 1), ("try", .int 3), ("final", .int 3)]) && (FcX.xcB K (He.ga K "CopyError") && PySem.W.excIn K (He.ga K "CopyError") FcX.aeT "ArithmeticError.__new__") && (FcX.xcB K (He.ga K "InvalidCode") && FcX.xiB K (He.ga K "InvalidCode") (He.fAd K ("InvalidCode", some "__init__")) "number") && (FcX.xcB K (He.ga K "InvalidNumber") && FcX.xiB K (He.ga K "InvalidNumber") (He.fAd K ("InvalidNumber", some "__init__")) "number") && (FcX.xcB K (He.ga K "InvalidAnswers") && FcX.xiB K (He.ga K "InvalidAnswers") (He.fAd K ("InvalidAnswers", some "__init__")) "at") && (FcX.xcB K (He.ga K "InvalidTable") && FcX.xiB K (He.ga K "InvalidTable") (He.fAd K ("InvalidTable", some "__init__")) "at") && (FcX.xcB K (He.ga K "LimitExceeded") && FcX.xiB K (He.ga K "LimitExceeded") (He.fAd K ("LimitExceeded", some "__init__")) "limit") && (FcX.xkB K xN) && (FcO.eqB K (He.ga K "Code")) && (FcX.xhB K xN) && (FcL.tabsN K tfL)
def looseL0 : List PySem.Str := ["_wall", "CopyError", "InvalidCode", "InvalidNumber", "InvalidAnswers", "InvalidTable", "LimitExceeded", "is_integer", "is_between", "NORMAL_ways", "RAISE", "comes_first", "keep_first", "first_shortest", "left_by_leaf", "left_by_if", "left_by_while", "left_by_seq", "left_by_try", "left_by_final", "shortest_answers", "all_ways", "begin_parts", "begin_answers", "all_place_answers", "reached", "NORMAL_routes", "ENDS_routes", "outer_way", "follower"]
def looseL1 : List PySem.Str := ["Flow", "joined", "Counter", "SIZES", "NAMED", "JUMPS", "is_name", "is_statement", "parts_in", "Code", "ASKING_lowered", "Lowered", "ENDS_tables", "ASKING_tables", "renumbered", "ordered", "is_item", "is_row", "check_rows", "Comparison", "check_table", "classes_of", "merged", "_law_cell_at", "_law_source", "_law_draw", "_law_choice", "_law_name", "_law_leaf", "_law_statement"]
def looseL2 : List PySem.Str := ["_law_said", "_law_refused", "_law_row", "_law_odd_item", "_law_odd_row", "MOST_STATEMENTS", "MOST_DEEP", "MOST_BLOCKS", "MOST_LETTERS", "LETTERS", "MOST_ROWS", "MOST_PAIRS"]
def looseL : List PySem.Str := looseL0 ++ looseL1 ++ looseL2
abbrev R : PySem.W.OpenRow := PySem.W.OpenLaw.row PySem.Challenge.rw_finallycopies_k44_invalid_tables
abbrev hk : PySem.W.Hook := He.hookX 4 faL fnL tabL tfL exB
def ob (s : PySem.W.SharedT) : He.AlX := He.obsX 4 faL fnL tabL tfL exB (HandSHeadRun.getT s)
theorem ob_eq (s : PySem.W.SharedT) : ob s = hk.obs s.abs := He.obsX_eq (HandSHeadRun.getT_eq s)
theorem map3 {α β γ δ : Type} {o : Option α} {f : α → β} {g : α → γ} {h : α → δ} {a : β} {b : γ} {c : δ} (h1 : o.map f = some a) (h2 : o.map g = some b) (h3 : o.map h = some c) : o.map (fun s => (f s, g s, h s)) = some (a, b, c) := by
  cases o with
  | none => cases h1
  | some x => cases h1; cases h2; cases h3; rfl
theorem mapP {α β γ : Type} {o : Option α} {h : α → β × γ} {c : β × γ} (h1 : o.map (fun s => (h s).1) = some c.1) (h2 : o.map (fun s => (h s).2) = some c.2) : o.map h = some c := by
  cases o with
  | none => cases h1
  | some x =>
    have e1 : (h x).1 = c.1 := Option.some.inj h1
    have e2 : (h x).2 = c.2 := Option.some.inj h2
    show some (h x) = some c
    rw [← Prod.eta (h x), ← Prod.eta c, e1, e2]
theorem mapB {α : Type} {o : Option α} {f g : α → Bool} (h1 : o.map f = some true) (h2 : o.map g = some true) : o.map (fun s => f s && g s) = some true := by
  cases o with
  | none => cases h1
  | some x =>
    have e1 : f x = true := Option.some.inj h1
    have e2 : g x = true := Option.some.inj h2
    show some (f x && g x) = some true
    rw [e1, e2] <;> rfl
theorem runF_a (w : World) (os : PySem.OsState) : (HandSHeadRun.endF (HandSHeadRun.stepQ (HandSHeadRun.denQ HandSHeadRun.tabQ) R.prog (w.withFollow "special-get-raises" false)) 20000 R.prog (w.withFollow "special-get-raises" false) os).map (fun s => HandSHeadRun.looksF R.prog (PySem.W.boot_heap (w.withFollow "special-get-raises" false).params) s.abs) = some true := by kernel_rfl
theorem runF_b (w : World) (os : PySem.OsState) : (HandSHeadRun.endF (HandSHeadRun.stepQ (HandSHeadRun.denQ HandSHeadRun.tabQ) R.prog (w.withFollow "special-get-raises" false)) 20000 R.prog (w.withFollow "special-get-raises" false) os).map (fun s => HandSHeadRun.seenQ (PySem.W.view R.prog [81]) looseL (PySem.importedModules R.prog.main.body) (fun s => PySem.W.xlAt (PySem.W.view R.prog [81]) [] s && PySem.W.recOk R.toRowW.records s) s.abs) = some (PySem.W.openGood (PySem.W.view R.prog [81]) looseL) := by kernel_rfl
theorem runF_c1 (w : World) (os : PySem.OsState) : (HandSHeadRun.endF (HandSHeadRun.stepQ (HandSHeadRun.denQ HandSHeadRun.tabQ) R.prog (w.withFollow "special-get-raises" false)) 20000 R.prog (w.withFollow "special-get-raises" false) os).map (fun s => faL.all fun f => f.ok (He.frT (HandSHeadRun.getT s) (He.asD (HandSHeadRun.getT s) 4))) = some true := by kernel_rfl
theorem runF_c2 (w : World) (os : PySem.OsState) : (HandSHeadRun.endF (HandSHeadRun.stepQ (HandSHeadRun.denQ HandSHeadRun.tabQ) R.prog (w.withFollow "special-get-raises" false)) 20000 R.prog (w.withFollow "special-get-raises" false) os).map (fun s => fnL.all fun d => d.ok (He.frT (HandSHeadRun.getT s) (He.asD (HandSHeadRun.getT s) 4))) = some true := by kernel_rfl
theorem runF_c3 (w : World) (os : PySem.OsState) : (HandSHeadRun.endF (HandSHeadRun.stepQ (HandSHeadRun.denQ HandSHeadRun.tabQ) R.prog (w.withFollow "special-get-raises" false)) 20000 R.prog (w.withFollow "special-get-raises" false) os).map (fun s => fnL.map fun d => He.fnW (He.frT (HandSHeadRun.getT s) (He.asD (HandSHeadRun.getT s) 4)) d.at_) = some (fnL.map He.DefD.val) := by kernel_rfl
theorem runF_c4 (w : World) (os : PySem.OsState) : (HandSHeadRun.endF (HandSHeadRun.stepQ (HandSHeadRun.denQ HandSHeadRun.tabQ) R.prog (w.withFollow "special-get-raises" false)) 20000 R.prog (w.withFollow "special-get-raises" false) os).map (fun s => tabL.map fun t => He.dicW (He.frT (HandSHeadRun.getT s) (He.asD (HandSHeadRun.getT s) 4)) (t.1 (He.frT (HandSHeadRun.getT s) (He.asD (HandSHeadRun.getT s) 4)))) = some (tabL.map fun t => some (He.keysIn (w.withFollow "special-get-raises" false).params t.2)) := by kernel_rfl
theorem runF_c (w : World) (os : PySem.OsState) : (HandSHeadRun.endF (HandSHeadRun.stepQ (HandSHeadRun.denQ HandSHeadRun.tabQ) R.prog (w.withFollow "special-get-raises" false)) 20000 R.prog (w.withFollow "special-get-raises" false) os).map (fun s => (ob s).1) = some (hk.val (w.withFollow "special-get-raises" false)).1 := mapP (h := fun s => (ob s).1) (c := (hk.val (w.withFollow "special-get-raises" false)).1) (mapP (h := fun s => (ob s).1.1) (c := (hk.val (w.withFollow "special-get-raises" false)).1.1) (mapB (runF_c1 w os) (runF_c2 w os)) (runF_c3 w os)) (runF_c4 w os)
theorem runF_d (w : World) (os : PySem.OsState) : (HandSHeadRun.endF (HandSHeadRun.stepQ (HandSHeadRun.denQ HandSHeadRun.tabQ) R.prog (w.withFollow "special-get-raises" false)) 20000 R.prog (w.withFollow "special-get-raises" false) os).map (fun s => (ob s).2) = some (hk.val (w.withFollow "special-get-raises" false)).2 := by kernel_rfl
theorem runF (w : World) : HandSHeadRun.RunEq R (PySem.W.view R.prog [81]) hk ob 20000 looseL (w.withFollow "special-get-raises" false) := fun os => map3 (runF_a w os) (runF_b w os) (mapP (h := ob) (runF_c w os) (runF_d w os))
theorem runT_a (w : World) (os : PySem.OsState) : (HandSHeadRun.endF (HandSHeadRun.stepQ (HandSHeadRun.denQ HandSHeadRun.tabQ) R.prog (w.withFollow "special-get-raises" true)) 20000 R.prog (w.withFollow "special-get-raises" true) os).map (fun s => HandSHeadRun.looksF R.prog (PySem.W.boot_heap (w.withFollow "special-get-raises" true).params) s.abs) = some true := by kernel_rfl
theorem runT_b (w : World) (os : PySem.OsState) : (HandSHeadRun.endF (HandSHeadRun.stepQ (HandSHeadRun.denQ HandSHeadRun.tabQ) R.prog (w.withFollow "special-get-raises" true)) 20000 R.prog (w.withFollow "special-get-raises" true) os).map (fun s => HandSHeadRun.seenQ (PySem.W.view R.prog [81]) looseL (PySem.importedModules R.prog.main.body) (fun s => PySem.W.xlAt (PySem.W.view R.prog [81]) [] s && PySem.W.recOk R.toRowW.records s) s.abs) = some (PySem.W.openGood (PySem.W.view R.prog [81]) looseL) := by kernel_rfl
theorem runT_c1 (w : World) (os : PySem.OsState) : (HandSHeadRun.endF (HandSHeadRun.stepQ (HandSHeadRun.denQ HandSHeadRun.tabQ) R.prog (w.withFollow "special-get-raises" true)) 20000 R.prog (w.withFollow "special-get-raises" true) os).map (fun s => faL.all fun f => f.ok (He.frT (HandSHeadRun.getT s) (He.asD (HandSHeadRun.getT s) 4))) = some true := by kernel_rfl
theorem runT_c2 (w : World) (os : PySem.OsState) : (HandSHeadRun.endF (HandSHeadRun.stepQ (HandSHeadRun.denQ HandSHeadRun.tabQ) R.prog (w.withFollow "special-get-raises" true)) 20000 R.prog (w.withFollow "special-get-raises" true) os).map (fun s => fnL.all fun d => d.ok (He.frT (HandSHeadRun.getT s) (He.asD (HandSHeadRun.getT s) 4))) = some true := by kernel_rfl
theorem runT_c3 (w : World) (os : PySem.OsState) : (HandSHeadRun.endF (HandSHeadRun.stepQ (HandSHeadRun.denQ HandSHeadRun.tabQ) R.prog (w.withFollow "special-get-raises" true)) 20000 R.prog (w.withFollow "special-get-raises" true) os).map (fun s => fnL.map fun d => He.fnW (He.frT (HandSHeadRun.getT s) (He.asD (HandSHeadRun.getT s) 4)) d.at_) = some (fnL.map He.DefD.val) := by kernel_rfl
theorem runT_c4 (w : World) (os : PySem.OsState) : (HandSHeadRun.endF (HandSHeadRun.stepQ (HandSHeadRun.denQ HandSHeadRun.tabQ) R.prog (w.withFollow "special-get-raises" true)) 20000 R.prog (w.withFollow "special-get-raises" true) os).map (fun s => tabL.map fun t => He.dicW (He.frT (HandSHeadRun.getT s) (He.asD (HandSHeadRun.getT s) 4)) (t.1 (He.frT (HandSHeadRun.getT s) (He.asD (HandSHeadRun.getT s) 4)))) = some (tabL.map fun t => some (He.keysIn (w.withFollow "special-get-raises" true).params t.2)) := by kernel_rfl
theorem runT_c (w : World) (os : PySem.OsState) : (HandSHeadRun.endF (HandSHeadRun.stepQ (HandSHeadRun.denQ HandSHeadRun.tabQ) R.prog (w.withFollow "special-get-raises" true)) 20000 R.prog (w.withFollow "special-get-raises" true) os).map (fun s => (ob s).1) = some (hk.val (w.withFollow "special-get-raises" true)).1 := mapP (h := fun s => (ob s).1) (c := (hk.val (w.withFollow "special-get-raises" true)).1) (mapP (h := fun s => (ob s).1.1) (c := (hk.val (w.withFollow "special-get-raises" true)).1.1) (mapB (runT_c1 w os) (runT_c2 w os)) (runT_c3 w os)) (runT_c4 w os)
theorem runT_d (w : World) (os : PySem.OsState) : (HandSHeadRun.endF (HandSHeadRun.stepQ (HandSHeadRun.denQ HandSHeadRun.tabQ) R.prog (w.withFollow "special-get-raises" true)) 20000 R.prog (w.withFollow "special-get-raises" true) os).map (fun s => (ob s).2) = some (hk.val (w.withFollow "special-get-raises" true)).2 := by kernel_rfl
theorem runT (w : World) : HandSHeadRun.RunEq R (PySem.W.view R.prog [81]) hk ob 20000 looseL (w.withFollow "special-get-raises" true) := fun os => map3 (runT_a w os) (runT_b w os) (mapP (h := ob) (runT_c w os) (runT_d w os))
theorem run (w : World) : HandSHeadRun.RunEq R (PySem.W.view R.prog [81]) hk ob 20000 looseL w := PySem.W.byRow2 "special-get-raises" (P := fun w => HandSHeadRun.RunEq R (PySem.W.view R.prog [81]) hk ob 20000 looseL w) runF runT w
structure Tx (w : World) (h : Heap) (K : PySem.W.Frag) (mg : Str → Option Value) : Prop where
  X : K.In h
  G : h.Ns mainGlobals mg
  c : He.SaysX faL fnL tabL tfL exB w h K
section
variable {w : World} {h : Heap} {K : PySem.W.Frag} {mg : Str → Option Value}
theorem g_CopyError (T : Tx w h K mg) : mg "CopyError" = some (.ref (He.ga K "CopyError")) := He.glo_ok T.X T.G (T.c.t.d.fact 1 rfl)
theorem g_InvalidNumber (T : Tx w h K mg) : mg "InvalidNumber" = some (.ref (He.ga K "InvalidNumber")) := He.glo_ok T.X T.G (T.c.t.d.fact 3 rfl)
theorem g_InvalidAnswers (T : Tx w h K mg) : mg "InvalidAnswers" = some (.ref (He.ga K "InvalidAnswers")) := He.glo_ok T.X T.G (T.c.t.d.fact 4 rfl)
theorem g_InvalidTable (T : Tx w h K mg) : mg "InvalidTable" = some (.ref (He.ga K "InvalidTable")) := He.glo_ok T.X T.G (T.c.t.d.fact 5 rfl)
theorem g_LimitExceeded (T : Tx w h K mg) : mg "LimitExceeded" = some (.ref (He.ga K "LimitExceeded")) := He.glo_ok T.X T.G (T.c.t.d.fact 6 rfl)
theorem g_is_integer (T : Tx w h K mg) : mg "is_integer" = some (.ref (He.ga K "is_integer")) := He.glo_ok T.X T.G (T.c.t.d.fact 7 rfl)
theorem g_is_between (T : Tx w h K mg) : mg "is_between" = some (.ref (He.ga K "is_between")) := He.glo_ok T.X T.G (T.c.t.d.fact 8 rfl)
theorem g_SIZES (T : Tx w h K mg) : mg "SIZES" = some (.ref (He.ga K "SIZES")) := He.glo_ok T.X T.G (T.c.t.d.fact 33 rfl)
theorem g_NAMED (T : Tx w h K mg) : mg "NAMED" = some (.ref (He.ga K "NAMED")) := He.glo_ok T.X T.G (T.c.t.d.fact 34 rfl)
theorem g_JUMPS (T : Tx w h K mg) : mg "JUMPS" = some (.ref (He.ga K "JUMPS")) := He.glo_ok T.X T.G (T.c.t.d.fact 35 rfl)
theorem g_is_name (T : Tx w h K mg) : mg "is_name" = some (.ref (He.ga K "is_name")) := He.glo_ok T.X T.G (T.c.t.d.fact 36 rfl)
theorem g_is_statement (T : Tx w h K mg) : mg "is_statement" = some (.ref (He.ga K "is_statement")) := He.glo_ok T.X T.G (T.c.t.d.fact 37 rfl)
theorem g_parts_in (T : Tx w h K mg) : mg "parts_in" = some (.ref (He.ga K "parts_in")) := He.glo_ok T.X T.G (T.c.t.d.fact 38 rfl)
theorem g_Code (T : Tx w h K mg) : mg "Code" = some (.ref (He.ga K "Code")) := He.glo_ok T.X T.G (T.c.t.d.fact 39 rfl)
theorem g_Lowered (T : Tx w h K mg) : mg "Lowered" = some (.ref (He.ga K "Lowered")) := He.glo_ok T.X T.G (T.c.t.d.fact 41 rfl)
theorem g_ENDS_tables (T : Tx w h K mg) : mg "ENDS_tables" = some (.ref (He.ga K "ENDS_tables")) := He.glo_ok T.X T.G (T.c.t.d.fact 42 rfl)
theorem g_ASKING_tables (T : Tx w h K mg) : mg "ASKING_tables" = some (.ref (He.ga K "ASKING_tables")) := He.glo_ok T.X T.G (T.c.t.d.fact 43 rfl)
theorem g_renumbered (T : Tx w h K mg) : mg "renumbered" = some (.ref (He.ga K "renumbered")) := He.glo_ok T.X T.G (T.c.t.d.fact 44 rfl)
theorem g_ordered (T : Tx w h K mg) : mg "ordered" = some (.ref (He.ga K "ordered")) := He.glo_ok T.X T.G (T.c.t.d.fact 45 rfl)
theorem g_is_item (T : Tx w h K mg) : mg "is_item" = some (.ref (He.ga K "is_item")) := He.glo_ok T.X T.G (T.c.t.d.fact 46 rfl)
theorem g_is_row (T : Tx w h K mg) : mg "is_row" = some (.ref (He.ga K "is_row")) := He.glo_ok T.X T.G (T.c.t.d.fact 47 rfl)
theorem g_check_rows (T : Tx w h K mg) : mg "check_rows" = some (.ref (He.ga K "check_rows")) := He.glo_ok T.X T.G (T.c.t.d.fact 48 rfl)
theorem g_Comparison (T : Tx w h K mg) : mg "Comparison" = some (.ref (He.ga K "Comparison")) := He.glo_ok T.X T.G (T.c.t.d.fact 49 rfl)
theorem g_check_table (T : Tx w h K mg) : mg "check_table" = some (.ref (He.ga K "check_table")) := He.glo_ok T.X T.G (T.c.t.d.fact 50 rfl)
theorem g_classes_of (T : Tx w h K mg) : mg "classes_of" = some (.ref (He.ga K "classes_of")) := He.glo_ok T.X T.G (T.c.t.d.fact 51 rfl)
theorem g_merged (T : Tx w h K mg) : mg "merged" = some (.ref (He.ga K "merged")) := He.glo_ok T.X T.G (T.c.t.d.fact 52 rfl)
theorem g_law_cell_at (T : Tx w h K mg) : mg "_law_cell_at" = some (.ref (He.ga K "_law_cell_at")) := He.glo_ok T.X T.G (T.c.t.d.fact 53 rfl)
theorem g_law_source (T : Tx w h K mg) : mg "_law_source" = some (.ref (He.ga K "_law_source")) := He.glo_ok T.X T.G (T.c.t.d.fact 54 rfl)
theorem g_law_draw (T : Tx w h K mg) : mg "_law_draw" = some (.ref (He.ga K "_law_draw")) := He.glo_ok T.X T.G (T.c.t.d.fact 55 rfl)
theorem g_law_choice (T : Tx w h K mg) : mg "_law_choice" = some (.ref (He.ga K "_law_choice")) := He.glo_ok T.X T.G (T.c.t.d.fact 56 rfl)
theorem g_law_name (T : Tx w h K mg) : mg "_law_name" = some (.ref (He.ga K "_law_name")) := He.glo_ok T.X T.G (T.c.t.d.fact 57 rfl)
theorem g_law_leaf (T : Tx w h K mg) : mg "_law_leaf" = some (.ref (He.ga K "_law_leaf")) := He.glo_ok T.X T.G (T.c.t.d.fact 58 rfl)
theorem g_law_statement (T : Tx w h K mg) : mg "_law_statement" = some (.ref (He.ga K "_law_statement")) := He.glo_ok T.X T.G (T.c.t.d.fact 59 rfl)
theorem g_law_said (T : Tx w h K mg) : mg "_law_said" = some (.ref (He.ga K "_law_said")) := He.glo_ok T.X T.G (T.c.t.d.fact 60 rfl)
theorem g_law_refused (T : Tx w h K mg) : mg "_law_refused" = some (.ref (He.ga K "_law_refused")) := He.glo_ok T.X T.G (T.c.t.d.fact 61 rfl)
theorem g_law_row (T : Tx w h K mg) : mg "_law_row" = some (.ref (He.ga K "_law_row")) := He.glo_ok T.X T.G (T.c.t.d.fact 62 rfl)
theorem g_law_odd_item (T : Tx w h K mg) : mg "_law_odd_item" = some (.ref (He.ga K "_law_odd_item")) := He.glo_ok T.X T.G (T.c.t.d.fact 63 rfl)
theorem g_law_odd_row (T : Tx w h K mg) : mg "_law_odd_row" = some (.ref (He.ga K "_law_odd_row")) := He.glo_ok T.X T.G (T.c.t.d.fact 64 rfl)
theorem g_law (T : Tx w h K mg) : mg "law" = some (.ref (He.ga K "law")) := He.glo_ok T.X T.G (T.c.t.d.fact 65 rfl)
theorem fr_all (T : Tx w h K mg) : mg "all" = none := He.free_ok T.X T.G (T.c.t.d.fact 68 rfl)
theorem fr_bool (T : Tx w h K mg) : mg "bool" = none := He.free_ok T.X T.G (T.c.t.d.fact 69 rfl)
theorem fr_dict (T : Tx w h K mg) : mg "dict" = none := He.free_ok T.X T.G (T.c.t.d.fact 70 rfl)
theorem fr_enumerate (T : Tx w h K mg) : mg "enumerate" = none := He.free_ok T.X T.G (T.c.t.d.fact 71 rfl)
theorem fr_int (T : Tx w h K mg) : mg "int" = none := He.free_ok T.X T.G (T.c.t.d.fact 72 rfl)
theorem fr_isinstance (T : Tx w h K mg) : mg "isinstance" = none := He.free_ok T.X T.G (T.c.t.d.fact 73 rfl)
theorem fr_len (T : Tx w h K mg) : mg "len" = none := He.free_ok T.X T.G (T.c.t.d.fact 74 rfl)
theorem fr_list (T : Tx w h K mg) : mg "list" = none := He.free_ok T.X T.G (T.c.t.d.fact 75 rfl)
theorem fr_min (T : Tx w h K mg) : mg "min" = none := He.free_ok T.X T.G (T.c.t.d.fact 76 rfl)
theorem fr_range (T : Tx w h K mg) : mg "range" = none := He.free_ok T.X T.G (T.c.t.d.fact 77 rfl)
theorem fr_reversed (T : Tx w h K mg) : mg "reversed" = none := He.free_ok T.X T.G (T.c.t.d.fact 78 rfl)
theorem fr_set (T : Tx w h K mg) : mg "set" = none := He.free_ok T.X T.G (T.c.t.d.fact 79 rfl)
theorem fr_str (T : Tx w h K mg) : mg "str" = none := He.free_ok T.X T.G (T.c.t.d.fact 81 rfl)
theorem fr_tuple (T : Tx w h K mg) : mg "tuple" = none := He.free_ok T.X T.G (T.c.t.d.fact 83 rfl)
theorem fr_zip (T : Tx w h K mg) : mg "zip" = none := He.free_ok T.X T.G (T.c.t.d.fact 84 rfl)
theorem i_MOST_STATEMENTS (T : Tx w h K mg) : ∃ t, mg "MOST_STATEMENTS" = some (.int 400 t) := He.int_ok T.X T.G (T.c.t.d.fact 85 rfl)
theorem i_MOST_DEEP (T : Tx w h K mg) : ∃ t, mg "MOST_DEEP" = some (.int 100 t) := He.int_ok T.X T.G (T.c.t.d.fact 86 rfl)
theorem i_MOST_BLOCKS (T : Tx w h K mg) : ∃ t, mg "MOST_BLOCKS" = some (.int 25 t) := He.int_ok T.X T.G (T.c.t.d.fact 87 rfl)
theorem i_MOST_LETTERS (T : Tx w h K mg) : ∃ t, mg "MOST_LETTERS" = some (.int 8 t) := He.int_ok T.X T.G (T.c.t.d.fact 88 rfl)
theorem i_LETTERS (T : Tx w h K mg) : ∃ t, mg "LETTERS" = some (.str "abcdefghijklmnopqrstuvwxyz" t) := He.str_ok T.X T.G (T.c.t.d.fact 89 rfl)
theorem i_MOST_ROWS (T : Tx w h K mg) : ∃ t, mg "MOST_ROWS" = some (.int 200 t) := He.int_ok T.X T.G (T.c.t.d.fact 90 rfl)
theorem c_Code (T : Tx w h K mg) : Cls K (He.ga K "Code") := He.cls_ok (T.c.t.d.fact 112 rfl)
theorem mk_Code (T : Tx w h K mg) : Mk K (He.ga K "Code") (He.ma K (He.ga K "Code") "__init__") := He.mkr_ok (T.c.t.d.fact 113 rfl)
theorem na_Code_children (T : Tx w h K mg) : NoAttr K (He.ga K "Code") "children" := He.noat_ok (T.c.t.d.fact 114 rfl)
theorem na_Code_kinds (T : Tx w h K mg) : NoAttr K (He.ga K "Code") "kinds" := He.noat_ok (T.c.t.d.fact 115 rfl)
theorem na_Code_labels (T : Tx w h K mg) : NoAttr K (He.ga K "Code") "labels" := He.noat_ok (T.c.t.d.fact 116 rfl)
theorem na_Code_parents (T : Tx w h K mg) : NoAttr K (He.ga K "Code") "parents" := He.noat_ok (T.c.t.d.fact 117 rfl)
theorem na_Code_statements (T : Tx w h K mg) : NoAttr K (He.ga K "Code") "statements" := He.noat_ok (T.c.t.d.fact 118 rfl)
theorem me_Code_check (T : Tx w h K mg) : Meth K (He.ga K "Code") "check" (He.ma K (He.ga K "Code") "check") := He.meth_ok (T.c.t.d.fact 119 rfl)
theorem me_Code_keep (T : Tx w h K mg) : Meth K (He.ga K "Code") "keep" (He.ma K (He.ga K "Code") "keep") := He.meth_ok (T.c.t.d.fact 120 rfl)
theorem me_Code___len__ (T : Tx w h K mg) : Meth K (He.ga K "Code") "__len__" (He.ma K (He.ga K "Code") "__len__") := He.meth_ok (T.c.t.d.fact 122 rfl)
theorem me_Code_check_number (T : Tx w h K mg) : Meth K (He.ga K "Code") "check_number" (He.ma K (He.ga K "Code") "check_number") := He.meth_ok (T.c.t.d.fact 125 rfl)
theorem me_Code_is_place (T : Tx w h K mg) : Meth K (He.ga K "Code") "is_place" (He.ma K (He.ga K "Code") "is_place") := He.meth_ok (T.c.t.d.fact 126 rfl)
theorem me_Code_kind (T : Tx w h K mg) : Meth K (He.ga K "Code") "kind" (He.ma K (He.ga K "Code") "kind") := He.meth_ok (T.c.t.d.fact 128 rfl)
theorem me_Code_places (T : Tx w h K mg) : Meth K (He.ga K "Code") "places" (He.ma K (He.ga K "Code") "places") := He.meth_ok (T.c.t.d.fact 131 rfl)
theorem mk_Lowered (T : Tx w h K mg) : Mk K (He.ga K "Lowered") (He.ma K (He.ga K "Lowered") "__init__") := He.mkr_ok (T.c.t.d.fact 137 rfl)
theorem c_Comparison (T : Tx w h K mg) : Cls K (He.ga K "Comparison") := He.cls_ok (T.c.t.d.fact 160 rfl)
theorem mk_Comparison (T : Tx w h K mg) : Mk K (He.ga K "Comparison") (He.ma K (He.ga K "Comparison") "__init__") := He.mkr_ok (T.c.t.d.fact 161 rfl)
theorem me_Comparison_first_difference (T : Tx w h K mg) : Meth K (He.ga K "Comparison") "first_difference" (He.ma K (He.ga K "Comparison") "first_difference") := He.meth_ok (T.c.t.d.fact 167 rfl)
theorem F_InvalidTable___init__ (T : Tx w h K mg) : ∃ fd, FunD K "__init__" "InvalidTable.__init__" (defArgs sd_InvalidTable___init__) (defBody sd_InvalidTable___init__) (defScope sd_InvalidTable___init__) [] [] (He.fAd K ("InvalidTable", some "__init__")) fd := T.c.t.d.def_ 4 rfl
theorem F_is_integer (T : Tx w h K mg) : ∃ fd, FunD K "is_integer" "is_integer" (defArgs sd_is_integer) (defBody sd_is_integer) (defScope sd_is_integer) [] [] (He.fAd K ("is_integer", none)) fd := T.c.t.d.def_ 6 rfl
theorem F_is_between (T : Tx w h K mg) : ∃ fd, FunD K "is_between" "is_between" (defArgs sd_is_between) (defBody sd_is_between) (defScope sd_is_between) [] [] (He.fAd K ("is_between", none)) fd := T.c.t.d.def_ 7 rfl
theorem F_is_name (T : Tx w h K mg) : ∃ fd, FunD K "is_name" "is_name" (defArgs sd_is_name) (defBody sd_is_name) (defScope sd_is_name) [] [] (He.fAd K ("is_name", none)) fd := T.c.t.d.def_ 38 rfl
theorem F_is_statement (T : Tx w h K mg) : ∃ fd, FunD K "is_statement" "is_statement" (defArgs sd_is_statement) (defBody sd_is_statement) (defScope sd_is_statement) [] [] (He.fAd K ("is_statement", none)) fd := T.c.t.d.def_ 39 rfl
theorem F_parts_in (T : Tx w h K mg) : ∃ fd, FunD K "parts_in" "parts_in" (defArgs sd_parts_in) (defBody sd_parts_in) (defScope sd_parts_in) [] [] (He.fAd K ("parts_in", none)) fd := T.c.t.d.def_ 40 rfl
theorem F_Code___init__ (T : Tx w h K mg) : ∃ fd, FunD K "__init__" "Code.__init__" (defArgs sd_Code___init__) (defBody sd_Code___init__) (defScope sd_Code___init__) [] [] (He.fAd K ("Code", some "__init__")) fd := T.c.t.d.def_ 41 rfl
theorem F_Code_check (T : Tx w h K mg) : ∃ fd, FunD K "check" "Code.check" (defArgs sd_Code_check) (defBody sd_Code_check) (defScope sd_Code_check) [] [] (He.fAd K ("Code", some "check")) fd := T.c.t.d.def_ 42 rfl
theorem F_Code_keep (T : Tx w h K mg) : ∃ fd, FunD K "keep" "Code.keep" (defArgs sd_Code_keep) (defBody sd_Code_keep) (defScope sd_Code_keep) [] [] (He.fAd K ("Code", some "keep")) fd := T.c.t.d.def_ 43 rfl
theorem F_Code___len__ (T : Tx w h K mg) : ∃ fd, FunD K "__len__" "Code.__len__" (defArgs sd_Code___len__) (defBody sd_Code___len__) (defScope sd_Code___len__) [] [] (He.fAd K ("Code", some "__len__")) fd := T.c.t.d.def_ 45 rfl
theorem F_Code_check_number (T : Tx w h K mg) : ∃ fd, FunD K "check_number" "Code.check_number" (defArgs sd_Code_check_number) (defBody sd_Code_check_number) (defScope sd_Code_check_number) [] [] (He.fAd K ("Code", some "check_number")) fd := T.c.t.d.def_ 48 rfl
theorem F_Code_is_place (T : Tx w h K mg) : ∃ fd, FunD K "is_place" "Code.is_place" (defArgs sd_Code_is_place) (defBody sd_Code_is_place) (defScope sd_Code_is_place) [] [] (He.fAd K ("Code", some "is_place")) fd := T.c.t.d.def_ 49 rfl
theorem F_Code_kind (T : Tx w h K mg) : ∃ fd, FunD K "kind" "Code.kind" (defArgs sd_Code_kind) (defBody sd_Code_kind) (defScope sd_Code_kind) [] [] (He.fAd K ("Code", some "kind")) fd := T.c.t.d.def_ 51 rfl
theorem F_Code_places (T : Tx w h K mg) : ∃ fd, FunD K "places" "Code.places" (defArgs sd_Code_places) (defBody sd_Code_places) (defScope sd_Code_places) [] [] (He.fAd K ("Code", some "places")) fd := T.c.t.d.def_ 54 rfl
theorem F_Lowered___init__ (T : Tx w h K mg) : ∃ fd, FunD K "__init__" "Lowered.__init__" (defArgs sd_Lowered___init__) (defBody sd_Lowered___init__) (defScope sd_Lowered___init__) [] [] (He.fAd K ("Lowered", some "__init__")) fd := T.c.t.d.def_ 59 rfl
theorem F_renumbered (T : Tx w h K mg) : ∃ fd, FunD K "renumbered" "renumbered" (defArgs sd_renumbered) (defBody sd_renumbered) (defScope sd_renumbered) [] [] (He.fAd K ("renumbered", none)) fd := T.c.t.d.def_ 76 rfl
theorem F_ordered (T : Tx w h K mg) : ∃ fd, FunD K "ordered" "ordered" (defArgs sd_ordered) (defBody sd_ordered) (defScope sd_ordered) [] [] (He.fAd K ("ordered", none)) fd := T.c.t.d.def_ 77 rfl
theorem F_is_item (T : Tx w h K mg) : ∃ fd, FunD K "is_item" "is_item" (defArgs sd_is_item) (defBody sd_is_item) (defScope sd_is_item) [] [] (He.fAd K ("is_item", none)) fd := T.c.t.d.def_ 78 rfl
theorem F_is_row (T : Tx w h K mg) : ∃ fd, FunD K "is_row" "is_row" (defArgs sd_is_row) (defBody sd_is_row) (defScope sd_is_row) [] [] (He.fAd K ("is_row", none)) fd := T.c.t.d.def_ 79 rfl
theorem F_check_rows (T : Tx w h K mg) : ∃ fd, FunD K "check_rows" "check_rows" (defArgs sd_check_rows) (defBody sd_check_rows) (defScope sd_check_rows) [] [] (He.fAd K ("check_rows", none)) fd := T.c.t.d.def_ 80 rfl
theorem F_Comparison___init__ (T : Tx w h K mg) : ∃ fd, FunD K "__init__" "Comparison.__init__" (defArgs sd_Comparison___init__) (defBody sd_Comparison___init__) (defScope sd_Comparison___init__) [] [] (He.fAd K ("Comparison", some "__init__")) fd := T.c.t.d.def_ 81 rfl
theorem F_Comparison_first_difference (T : Tx w h K mg) : ∃ fd, FunD K "first_difference" "Comparison.first_difference" (defArgs sd_Comparison_first_difference) (defBody sd_Comparison_first_difference) (defScope sd_Comparison_first_difference) [] [] (He.fAd K ("Comparison", some "first_difference")) fd := T.c.t.d.def_ 84 rfl
theorem F_check_table (T : Tx w h K mg) : ∃ fd, FunD K "check_table" "check_table" (defArgs sd_check_table) (defBody sd_check_table) (defScope sd_check_table) [] [] (He.fAd K ("check_table", none)) fd := T.c.t.d.def_ 85 rfl
theorem F_classes_of (T : Tx w h K mg) : ∃ fd, FunD K "classes_of" "classes_of" (defArgs sd_classes_of) (defBody sd_classes_of) (defScope sd_classes_of) [] [] (He.fAd K ("classes_of", none)) fd := T.c.t.d.def_ 86 rfl
theorem F_merged (T : Tx w h K mg) : ∃ fd, FunD K "merged" "merged" (defArgs sd_merged) (defBody sd_merged) (defScope sd_merged) [] [] (He.fAd K ("merged", none)) fd := T.c.t.d.def_ 87 rfl
theorem F_law_cell_at (T : Tx w h K mg) : ∃ fd, FunD K "_law_cell_at" "_law_cell_at" (defArgs sd_law_cell_at) (defBody sd_law_cell_at) (defScope sd_law_cell_at) [] [] (He.fAd K ("_law_cell_at", none)) fd := T.c.t.d.def_ 88 rfl
theorem F_law_source (T : Tx w h K mg) : ∃ fd, FunD K "_law_source" "_law_source" (defArgs sd_law_source) (defBody sd_law_source) (defScope sd_law_source) [] [] (He.fAd K ("_law_source", none)) fd := T.c.t.d.def_ 89 rfl
theorem F_law_draw (T : Tx w h K mg) : ∃ fd, FunD K "_law_draw" "_law_draw" (defArgs sd_law_draw) (defBody sd_law_draw) (defScope sd_law_draw) [] [] (He.fAd K ("_law_draw", none)) fd := T.c.t.d.def_ 90 rfl
theorem F_law_choice (T : Tx w h K mg) : ∃ fd, FunD K "_law_choice" "_law_choice" (defArgs sd_law_choice) (defBody sd_law_choice) (defScope sd_law_choice) [] [] (He.fAd K ("_law_choice", none)) fd := T.c.t.d.def_ 91 rfl
theorem F_law_name (T : Tx w h K mg) : ∃ fd, FunD K "_law_name" "_law_name" (defArgs sd_law_name) (defBody sd_law_name) (defScope sd_law_name) [] [] (He.fAd K ("_law_name", none)) fd := T.c.t.d.def_ 92 rfl
theorem F_law_leaf (T : Tx w h K mg) : ∃ fd, FunD K "_law_leaf" "_law_leaf" (defArgs sd_law_leaf) (defBody sd_law_leaf) (defScope sd_law_leaf) [] [] (He.fAd K ("_law_leaf", none)) fd := T.c.t.d.def_ 93 rfl
theorem F_law_statement (T : Tx w h K mg) : ∃ fd, FunD K "_law_statement" "_law_statement" (defArgs sd_law_statement) (defBody sd_law_statement) (defScope sd_law_statement) [] [] (He.fAd K ("_law_statement", none)) fd := T.c.t.d.def_ 94 rfl
theorem F_law_said (T : Tx w h K mg) : ∃ fd, FunD K "_law_said" "_law_said" (defArgs sd_law_said) (defBody sd_law_said) (defScope sd_law_said) [] [] (He.fAd K ("_law_said", none)) fd := T.c.t.d.def_ 95 rfl
theorem F_law_refused (T : Tx w h K mg) : ∃ fd, FunD K "_law_refused" "_law_refused" (defArgs sd_law_refused) (defBody sd_law_refused) (defScope sd_law_refused) [] [] (He.fAd K ("_law_refused", none)) fd := T.c.t.d.def_ 96 rfl
theorem F_law_row (T : Tx w h K mg) : ∃ fd, FunD K "_law_row" "_law_row" (defArgs sd_law_row) (defBody sd_law_row) (defScope sd_law_row) [] [] (He.fAd K ("_law_row", none)) fd := T.c.t.d.def_ 97 rfl
theorem F_law_odd_item (T : Tx w h K mg) : ∃ fd, FunD K "_law_odd_item" "_law_odd_item" (defArgs sd_law_odd_item) (defBody sd_law_odd_item) (defScope sd_law_odd_item) [] [] (He.fAd K ("_law_odd_item", none)) fd := T.c.t.d.def_ 98 rfl
theorem F_law_odd_row (T : Tx w h K mg) : ∃ fd, FunD K "_law_odd_row" "_law_odd_row" (defArgs sd_law_odd_row) (defBody sd_law_odd_row) (defScope sd_law_odd_row) [] [] (He.fAd K ("_law_odd_row", none)) fd := T.c.t.d.def_ 99 rfl
theorem F_law (T : Tx w h K mg) : ∃ fd, FunD K "law" "law" (defArgs sd_law) (defBody sd_law) (defScope sd_law) [] [] (He.fAd K ("law", none)) fd := T.c.t.d.def_ 100 rfl
theorem t_NAMED (T : Tx w h K mg) (H : Hp) : SqT K H (He.ga K "NAMED") [.str "do", .str "call", .str "if", .str "while"] := He.tupB_ok (x := "NAMED") (vs := [.str "do", .str "call", .str "if", .str "while"]) (He.ba (He.ba (He.ba (He.ba (He.ba (He.ba (He.ba (He.ba (He.ba (He.ba (He.ba (He.ba (He.ba (He.ba (He.ba (He.ba (He.ba T.c.more).1).1).1).1).1).1).1).1).1).1).1).1).1).1).1).1).2 H
theorem t_JUMPS (T : Tx w h K mg) (H : Hp) : SqT K H (He.ga K "JUMPS") [.str "break", .str "continue"] := He.tupB_ok (x := "JUMPS") (vs := [.str "break", .str "continue"]) (He.ba (He.ba (He.ba (He.ba (He.ba (He.ba (He.ba (He.ba (He.ba (He.ba (He.ba (He.ba (He.ba (He.ba (He.ba (He.ba T.c.more).1).1).1).1).1).1).1).1).1).1).1).1).1).1).1).2 H
theorem t_ENDS_tables (T : Tx w h K mg) (H : Hp) : SqT K H (He.ga K "ENDS_tables") [.str "end", .str "return", .str "raise"] := He.tupB_ok (x := "ENDS_tables") (vs := [.str "end", .str "return", .str "raise"]) (He.ba (He.ba (He.ba (He.ba (He.ba (He.ba (He.ba (He.ba (He.ba (He.ba (He.ba (He.ba (He.ba (He.ba T.c.more).1).1).1).1).1).1).1).1).1).1).1).1).1).2 H
theorem t_ASKING_tables (T : Tx w h K mg) (H : Hp) : SqT K H (He.ga K "ASKING_tables") [.str "call", .str "if", .str "while"] := He.tupB_ok (x := "ASKING_tables") (vs := [.str "call", .str "if", .str "while"]) (He.ba (He.ba (He.ba (He.ba (He.ba (He.ba (He.ba (He.ba (He.ba (He.ba (He.ba (He.ba (He.ba T.c.more).1).1).1).1).1).1).1).1).1).1).1).1).2 H
theorem d_SIZES (T : Tx w h K mg) : ∃ es n, KDict K w (He.ga K "SIZES") es n := T.c.t.tab 1 rfl
theorem dk_SIZES (T : Tx w h K mg) : He.dicW K (He.ga K "SIZES") = some (He.keysIn w.params ["do", "call", "if", "while", "seq", "break", "continue", "return", "raise", "try", "final"]) := Option.some.inj (show some (He.dicW K (He.ga K "SIZES")) = some (some (He.keysIn w.params ["do", "call", "if", "while", "seq", "break", "continue", "return", "raise", "try", "final"])) from congrArg (fun z : He.AlT => z.2[1]?) T.c.t)
theorem v_SIZES (T : Tx w h K mg) {q : Str × He.Dv} (hq : q ∈ ([("do", .int 2), ("call", .int 2), ("if", .int 4), ("while", .int 3), ("seq", .int 2), ("break", .int 2), ("continue", .int 2), ("return", .int 1), ("raise", .int 1), ("try", .int 3), ("final", .int 3)] : List (Str × He.Dv))) : ∃ u, PySem.W.nsIn K (He.ga K "SIZES") q.1 = some (some u) ∧ RelV (q.2.v K) u := He.valsB_ok (He.ba (He.ba (He.ba (He.ba (He.ba (He.ba (He.ba (He.ba (He.ba (He.ba (He.ba T.c.more).1).1).1).1).1).1).1).1).1).1).2 hq
theorem x_InvalidTable (T : Tx w h K mg) : FcX.XC K (He.ga K "InvalidTable") := FcX.xcB_ok (He.ba ((He.ba (He.ba (He.ba (He.ba (He.ba (He.ba T.c.more).1).1).1).1).1).2)).1
theorem xi_InvalidTable (T : Tx w h K mg) : FcX.XI K (He.ga K "InvalidTable") (He.fAd K ("InvalidTable", some "__init__")) "at" := FcX.xiB_ok (He.ba ((He.ba (He.ba (He.ba (He.ba (He.ba (He.ba T.c.more).1).1).1).1).1).2)).2
theorem xk (T : Tx w h K mg) : FcX.xkB K xN = true := (He.ba (He.ba (He.ba (He.ba T.c.more).1).1).1).2
theorem xh (T : Tx w h K mg) : FcX.xhB K xN = true := (He.ba (He.ba T.c.more).1).2
theorem tnd (T : Tx w h K mg) : FcL.tabsN K tfL = true := (He.ba T.c.more).2
end
end Fc
set_option maxRecDepth 100000
set_option maxHeartbeats 4000000
namespace Fc
open PySem PySem.Spec PyProof.Rows L2 FcR
open Evl (Ex)
theorem find_none_of {P : Params} {z : Str} : ∀ {l : List DictEntry} {ks : List Str}, l.map He.keyOf = He.keysIn P ks → z ∉ ks → l.find? (·.key.isStr z) = none ∧ l.any (·.refKey) = false
  | [], _, _, _ => ⟨rfl, rfl⟩
  | e :: r, [], h, _ => by cases h
  | e :: r, k :: ks, h, hz => by
    have h1 : He.keyOf e :: r.map He.keyOf = some (k, PyData.keyHash P k) :: He.keysIn P ks := h
    injection h1 with h2 h3
    obtain ⟨i1, i2⟩ := find_none_of (z := z) h3 fun y => hz (List.mem_cons_of_mem _ y)
    unfold He.keyOf at h2
    split at h2
    · rename_i x t q
      have h4 := Option.some.inj h2
      obtain ⟨h5, h6⟩ := Prod.mk.inj h4
      have ne : x ≠ z := fun y => hz (by rw [← y, h5]; exact List.mem_cons_self)
      constructor
      · rw [List.find?_cons]
        have e1 : e.key.isStr z = false := by
          rw [q]
          show (x == z) = false
          simpa using ne
        rw [e1]
        exact i1
      · rw [List.any_cons, i2]
        have e2 : e.refKey = false := by
          unfold DictEntry.refKey
          rw [q] <;> rfl
        rw [e2] <;> rfl
    · cases h2
theorem ns_none {K : PySem.W.Frag} {P : Params} {a : Addr} {ks : List Str} {z : Str} (h : He.dicW K a = some (He.keysIn P ks)) (hz : z ∉ ks) : PySem.W.nsIn K a z = some none := by
  unfold He.dicW at h
  unfold PySem.W.nsIn
  cases q : K.lookup a with
  | none => rw [q] at h; cases h
  | some o =>
    obtain ⟨oc, od, dt, osl⟩ := o
    rw [q] at h
    cases oc with
    | type c =>
      cases od with
      | none =>
        cases dt with
        | dict es n =>
          have h1 : (match decide (c = "dict") && (osl.isEmpty && !(a == sysModules)) with
            | true => some (es.toList.map He.keyOf)
            | false => none) = some (He.keysIn P ks) := h
          split at h1
          · obtain ⟨i1, i2⟩ := find_none_of (z := z) (Option.some.inj h1) hz
            show (match es.toList.find? (·.key.isStr z) with
              | some e => some (some e.val)
              | none => if es.toList.any (·.refKey) then none else some none) = some none
            rw [i1, i2]
            rfl
          · cases h1
        | _ => cases h
      | some b => cases dt <;> cases h
    | _ => cases od <;> cases dt <;> cases h
def tyD : PyData → String
  | .none => "NoneType"
  | .bool _ => "bool"
  | .int _ => "int"
  | .str _ => "str"
  | .list _ => "list"
  | .tuple _ => "tuple"
  | .dict _ => "dict"
theorem ty_lst {K : PySem.W.Frag} {H : Hp} {a : Addr} {xs : List V} (h : SqL K H a xs) : TyX K H (.ref a) (.type "list") := by
  rcases h with (h | ⟨o, h⟩) | ⟨o, its, n, hk, hc, _⟩
  · exact .base (.lst h)
  · exact .base (.frz h)
  · exact .kList hk hc
theorem ty_tup {K : PySem.W.Frag} {H : Hp} {a : Addr} {xs : List V} (h : SqT K H a xs) : TyX K H (.ref a) (.type "tuple") := by
  rcases h with (h | ⟨o, h⟩) | ⟨o, its, n, hk, hc, _⟩
  · exact .base (.tup h)
  · exact .fTuple h
  · exact .kTuple hk hc
theorem dp_ty {K : PySem.W.Frag} {H : Hp} {v : V} {d : PyData} (h : Dp K H v d) : TyX K H v (.type (tyD d)) := by
  cases h with
  | non => exact .base .non
  | bl b => exact .base (.bl b)
  | int i => exact .base (.int i)
  | str x => exact .base (.str x)
  | lst h _ => exact ty_lst h
  | tup h _ => exact ty_tup h
def isT (n : String) (d : PyData) : Bool := tyD d == n
theorem k_str {K : PySem.W.Frag} : ∀ d : PyData, PySem.W.kitOne K (.type (tyD d)) (.type "str") = some (isT "str" d)
  | .none => kit_ty (show kitB "NoneType" "str" = some false by decide +kernel)
  | .bool _ => kit_ty (show kitB "bool" "str" = some false by decide +kernel)
  | .int _ => kit_ty (show kitB "int" "str" = some false by decide +kernel)
  | .str _ => kit_ty (show kitB "str" "str" = some true by decide +kernel)
  | .list _ => kit_ty (show kitB "list" "str" = some false by decide +kernel)
  | .tuple _ => kit_ty (show kitB "tuple" "str" = some false by decide +kernel)
  | .dict _ => kit_ty (show kitB "dict" "str" = some false by decide +kernel)
theorem k_tuple {K : PySem.W.Frag} : ∀ d : PyData, PySem.W.kitOne K (.type (tyD d)) (.type "tuple") = some (isT "tuple" d)
  | .none => kit_ty (show kitB "NoneType" "tuple" = some false by decide +kernel)
  | .bool _ => kit_ty (show kitB "bool" "tuple" = some false by decide +kernel)
  | .int _ => kit_ty (show kitB "int" "tuple" = some false by decide +kernel)
  | .str _ => kit_ty (show kitB "str" "tuple" = some false by decide +kernel)
  | .list _ => kit_ty (show kitB "list" "tuple" = some false by decide +kernel)
  | .tuple _ => kit_ty (show kitB "tuple" "tuple" = some true by decide +kernel)
  | .dict _ => kit_ty (show kitB "dict" "tuple" = some false by decide +kernel)
theorem k_list {K : PySem.W.Frag} : ∀ d : PyData, PySem.W.kitOne K (.type (tyD d)) (.type "list") = some (isT "list" d)
  | .none => kit_ty (show kitB "NoneType" "list" = some false by decide +kernel)
  | .bool _ => kit_ty (show kitB "bool" "list" = some false by decide +kernel)
  | .int _ => kit_ty (show kitB "int" "list" = some false by decide +kernel)
  | .str _ => kit_ty (show kitB "str" "list" = some false by decide +kernel)
  | .list _ => kit_ty (show kitB "list" "list" = some true by decide +kernel)
  | .tuple _ => kit_ty (show kitB "tuple" "list" = some false by decide +kernel)
  | .dict _ => kit_ty (show kitB "dict" "list" = some false by decide +kernel)
theorem k_bool {K : PySem.W.Frag} : ∀ d : PyData, PySem.W.kitOne K (.type (tyD d)) (.type "bool") = some (isT "bool" d)
  | .none => kit_ty (show kitB "NoneType" "bool" = some false by decide +kernel)
  | .bool _ => kit_ty (show kitB "bool" "bool" = some true by decide +kernel)
  | .int _ => kit_ty (show kitB "int" "bool" = some false by decide +kernel)
  | .str _ => kit_ty (show kitB "str" "bool" = some false by decide +kernel)
  | .list _ => kit_ty (show kitB "list" "bool" = some false by decide +kernel)
  | .tuple _ => kit_ty (show kitB "tuple" "bool" = some false by decide +kernel)
  | .dict _ => kit_ty (show kitB "dict" "bool" = some false by decide +kernel)
def isIntB : PyData → Bool
  | .int _ => true
  | .bool _ => true
  | _ => false
theorem k_int {K : PySem.W.Frag} : ∀ d : PyData, PySem.W.kitOne K (.type (tyD d)) (.type "int") = some (isIntB d)
  | .none => kit_ty (show kitB "NoneType" "int" = some false by decide +kernel)
  | .bool _ => kit_ty (show kitB "bool" "int" = some true by decide +kernel)
  | .int _ => kit_ty (show kitB "int" "int" = some true by decide +kernel)
  | .str _ => kit_ty (show kitB "str" "int" = some false by decide +kernel)
  | .list _ => kit_ty (show kitB "list" "int" = some false by decide +kernel)
  | .tuple _ => kit_ty (show kitB "tuple" "int" = some false by decide +kernel)
  | .dict _ => kit_ty (show kitB "dict" "int" = some false by decide +kernel)
def letters : List Nat := (Str.ofString "abcdefghijklmnopqrstuvwxyz").cps.toList
def nameOk (x : Str) : Bool := (decide ((1 : Int) ≤ x.length) && decide ((x.length : Int) ≤ 8)) && x.cps.toList.all fun c => decide (c ∈ letters)
def isName : PyData → Bool
  | .str x => nameOk x
  | _ => false
def isNum (lo hi : Int) : PyData → Bool
  | .int n => decide (lo ≤ n) && decide (n ≤ hi)
  | _ => false
def kNamed : List Str := ["do", "call", "if", "while"]
def kJumps : List Str := ["break", "continue"]
def kSizes : List (Str × Int) := [("do", 2), ("call", 2), ("if", 4), ("while", 3), ("seq", 2), ("break", 2), ("continue", 2), ("return", 1), ("raise", 1), ("try", 3), ("final", 3)]
def nonEmptyT : PyData → Bool
  | .tuple (_ :: _) => true
  | _ => false
def isStm : PyData → Int → Bool
  | .tuple (.str k :: r), loops => (match kSizes.lookup k with
    | none => false
    | some n => if (r.length : Int) + 1 ≠ n then false else
      if k ∈ kNamed then isName (r.getD 0 .none) else if k ∈ kJumps then isNum 1 loops (r.getD 0 .none) else
        (if k ≠ "seq" then true else nonEmptyT (r.getD 0 .none)))
  | _, _ => false
/-- the parts that are looked at -/
def partsD : PyData → List PyData
  | .tuple (.str k :: r) => if k = "seq" then (match r with
      | .tuple ps :: _ => ps.take 401
      | _ => []) else if k ∈ kNamed then r.drop 1 else if k = "try" ∨ k = "final" then r else []
  | _ => []
end Fc
set_option maxRecDepth 100000
set_option maxHeartbeats 4000000
namespace Fc
open PySem PySem.Spec PyProof.Rows L2 FcR
open Evl (Ex)
def sp_is_integer (K : PySem.W.Frag) : Sp := fun vs H Q _ => ∃ (v : V) (t : Value) (b1 b2 : Bool), vs = [v] ∧ TyX K H v t ∧ PySem.W.kitOne K t (.type "int") = some b1 ∧ PySem.W.kitOne K t (.type "bool") = some b2 ∧ Q (.bl (b1 && !b2)) H
def sp_is_between (K : PySem.W.Frag) : Sp := fun vs H Q _ => ∃ (v : V) (i j : Int), vs = [v, .int i, .int j] ∧
  ((∃ n, v = .int n ∧ Q (.bl (decide (i ≤ n) && decide (n ≤ j))) H) ∨ (∃ t b1 b2, TyX K H v t ∧ PySem.W.kitOne K t (.type "int") = some b1 ∧ PySem.W.kitOne K t (.type "bool") = some b2 ∧ (b1 && !b2) = false ∧ Q (.bl false) H))
theorem k_ii {K : PySem.W.Frag} : PySem.W.kitOne K (.type "int") (.type "int") = some true := kit_ty (by decide +kernel)
theorem k_ib {K : PySem.W.Frag} : PySem.W.kitOne K (.type "int") (.type "bool") = some false := kit_ty (by decide +kernel)
section
variable {P : Program} {w : World} {h : Heap} {K : PySem.W.Frag} {mg : Str → Option Value} {base : Heap}
abbrev N_is_integer : List Str := ["value"]
theorem sc_is_integer : FnScope N_is_integer ["value"] (defScope sd_is_integer) := ⟨rfl, rfl, rfl, by decide +kernel, rfl, by decide +kernel, by decide +kernel⟩
theorem ok_is_integer (T : Tx w h K mg) : Ok P w K mg base 1 ("is_integer", none) ["value"] (sp_is_integer K) := by
  obtain ⟨fd, F⟩ := F_is_integer T
  refine ⟨fd, ?_, F.bindsN (fun _ _ _ _ _ _ us hl => match us, hl with | [_], _ => rfl), F.kp⟩
  refine F.ok sc_is_integer (fun vs H Q E h => ?_) (fun cdv A outer s H vs Q E hr h => ?_)
  · obtain ⟨v, t, b1, b2, rfl, ty, k1, k2, q⟩ := h
    rfl
  · obtain ⟨v, t, b1, b2, rfl, ty, k1, k2, q⟩ := h
    refine ⟨_, PSs.nox (pss_one (ps_ret (pe_and (pe_callB call_isi rfl (fr_isinstance T) b_isinstance (pa_cons (pv 0) (pa_cons (pe_bltn (v := .ty "int") rfl (fr_int T) b_int rfl) pa_nil))) (pe_one (pe_not (pe_callB call_isi rfl (fr_isinstance T) b_isinstance (pa_cons (pv 0) (pa_cons (pe_bltn (v := .ty "bool") rfl (fr_bool T) b_bool rfl) pa_nil)))))))), ?_⟩
    refine ⟨_, rfl, v, .ty "int", t, _, b1, rfl, .ty _, ty, k1, _, rfl, ite_of (fun h1 => ?_) (fun h1 => ?_)⟩
    · subst h1
      exact ⟨_, rfl, v, .ty "bool", t, _, b2, rfl, .ty _, ty, k2, _, rfl, q⟩
    · subst h1
      exact q
abbrev N_is_between : List Str := ["value", "low", "high"]
theorem sc_is_between : FnScope N_is_between ["value", "low", "high"] (defScope sd_is_between) := ⟨rfl, rfl, rfl, by decide +kernel, rfl, by decide +kernel, by decide +kernel⟩
theorem ok_is_between (T : Tx w h K mg) : Ok P w K mg base 2 ("is_between", none) ["value", "low", "high"] (sp_is_between K) := by
  obtain ⟨fd, F⟩ := F_is_between T
  refine ⟨fd, ?_, F.bindsN (fun _ _ _ _ _ _ us hl => match us, hl with | [_, _, _], _ => rfl), F.kp⟩
  obtain ⟨fd_is_integer, G_is_integer, bi_is_integer, kp_is_integer⟩ := ok_is_integer (P := P) (base := base) T
  refine F.ok sc_is_between (fun vs H Q E h => ?_) (fun cdv A outer s H vs Q E hr h => ?_)
  · obtain ⟨v, i, j, rfl, q⟩ := h
    rfl
  · obtain ⟨v, i, j, rfl, q⟩ := h
    refine ⟨_, PSs.nox (pss_one (ps_ret (pe_and (pe_call G_is_integer (hr.mono (by decide)) rfl (g_is_integer T) kp_is_integer bi_is_integer .nil passF (pa_cons (pv 0) pa_nil)) (pe_one (pe_chain op_le op_le (pv 1) (pv 0) (pv 2)))))), ?_⟩
    rcases q with ⟨n, rfl, q⟩ | ⟨t, b1, b2, ty, k1, k2, hb, q⟩
    · refine ⟨_, rfl, .int n, .type "int", true, false, rfl, .base (.int n), k_ii, k_ib, _, rfl, itT rfl ?_⟩
      refine ⟨_, rfl, _, rfl, _, _, rfl, rfl, _, rfl, ite_of (fun h1 => ?_) (fun h1 => ?_)⟩
      · refine ⟨_, rfl, _, _, rfl, rfl, ?_⟩
        rw [h1] at q
        exact q
      · rw [h1] at q
        exact q
    · refine ⟨_, rfl, v, t, b1, b2, rfl, ty, k1, k2, _, rfl, itF hb q⟩
end
end Fc
set_option maxRecDepth 100000
set_option maxHeartbeats 4000000
namespace Fc
open PySem PySem.Spec PyProof.Rows L2 FcR
open Evl (Ex)
def sp_is_name (K : PySem.W.Frag) : Sp := fun vs H Q _ => ∃ (v : V) (d : PyData), vs = [v] ∧ Dp K H v d ∧ (∀ x, d = .str x → x.length ≤ 100000) ∧ ∀ H', Ex H H' → Q (.bl (isName d)) H'
theorem take_one {α : Type} {l : List α} {i : Nat} {x : α} (h : l[i]? = some x) : l.take (i + 1) = l.take i ++ [x] := by
  rw [List.take_add_one, h] <;> rfl
section
variable {P : Program} {w : World} {h : Heap} {K : PySem.W.Frag} {mg : Str → Option Value} {base : Heap}
abbrev N_is_name : List Str := ["value", "sign"]
theorem sc_is_name : FnScope N_is_name ["value"] (defScope sd_is_name) := ⟨rfl, rfl, rfl, by decide +kernel, rfl, by decide +kernel, by decide +kernel⟩
theorem ok_is_name (T : Tx w h K mg) : Ok P w K mg base 1 ("is_name", none) ["value"] (sp_is_name K) := by
  obtain ⟨fd, F⟩ := F_is_name T
  refine ⟨fd, ?_, F.bindsN (fun _ _ _ _ _ _ us hl => match us, hl with | [_], _ => rfl), F.kp⟩
  obtain ⟨tm_LETTERS, m_LETTERS⟩ := i_LETTERS T
  obtain ⟨tm_MOST_LETTERS, m_MOST_LETTERS⟩ := i_MOST_LETTERS T
  refine F.ok sc_is_name (fun vs H Q E h => ?_) (fun cdv A outer s H vs Q E hr h => ?_)
  · obtain ⟨v, d, rfl, hd, hl, q⟩ := h
    rfl
  · obtain ⟨v, d, rfl, hd, hl, q⟩ := h
    refine ⟨_, PSs.nox (pss_one (ps_ret (pe_and (pe_callB call_isi rfl (fr_isinstance T) b_isinstance (pa_cons (pv 0) (pa_cons (pe_bltn (v := .ty "str") rfl (fr_str T) b_str rfl) pa_nil))) (pe_and (pe_chain op_le op_le pe_int (pe_callB call_len_str rfl (fr_len T) b_len (pa_cons (pv 0) pa_nil)) (pe_glob (v := .int 8) rfl m_MOST_LETTERS ⟨_, rfl⟩)) (pe_one (pe_callB (cr_all rfl) rfl (fr_all T) b_all (pa_cons (pe_lc (own := [("sign", 1)]) rfl sc_is_name.nd (pi_str (pv 0)) (blkOk_by (N := N_is_name) (sc := defScope sd_is_name) (by decide +kernel)) (fun _ _ _ _ _ => (pg_name (i := 1) sc_is_name.nd rfl (Or.inl rfl))) (fun _ _ _ _ _ => pts_nil) (fun _ _ _ _ _ => (pe_cmpR op_in_sign (pv 1) (pe_glob (v := .str "abcdefghijklmnopqrstuvwxyz") rfl m_LETTERS ⟨_, rfl⟩) (by rfl)))) pa_nil))))))), ?_⟩
    refine ⟨_, rfl, v, .ty "str", _, _, _, rfl, .ty _, dp_ty hd, k_str d, _, rfl, ite_of (fun h1 => ?_) (fun h1 => ?_)⟩
    · obtain ⟨x, rfl⟩ : ∃ x, d = .str x := by cases d <;> first | exact ⟨_, rfl⟩ | cases h1
      obtain rfl := dp_str hd
      have hx := hl x rfl
      have e1 : isName (.str x) = ((decide ((1 : Int) ≤ x.length) && decide ((x.length : Int) ≤ 8)) && x.cps.toList.all fun c => decide (c ∈ letters)) := rfl
      rw [e1] at q
      refine ⟨_, rfl, x, rfl, sz hx, _, _, rfl, rfl, _, rfl, ite_of (fun h2 => ?_) (fun h2 => ?_)⟩
      · refine ⟨_, _, rfl, rfl, _, rfl, ite_of (fun h3 => ?_) (fun h3 => ?_)⟩
        · refine ⟨_, rfl, x, rfl, fun D hD => lc_it walk_str (fun i H' => Ex H H' ∧ H' D = some (.lst ((x.cps.toList.take i).map fun c => V.bl (decide (c ∈ letters))))) ?_ (fun _ _ _ _ => True.intro) ?_ ?_⟩
          · exact ⟨exu (Evl.Ex.refl H) hD, upd_same⟩
          · rintro i y H1 H2 hi ⟨k1, k2⟩ ⟨rfl, c, hc, rfl⟩
            refine ⟨rfl, ?_⟩
            refine ⟨_, rfl, c, _, rfl, rfl, _, k2, szl ?_, exm k1 hD, ?_⟩
            · have e2 : x.cps.size = x.length := rfl
              rw [List.length_map, List.length_take]
              omega
            · have hc' : x.cps.toList[i]? = some c := by simpa using hc
              rw [take_one hc', List.map_append, upd_same] <;> rfl
          · rintro H1 ⟨k1, k2⟩
            refine ⟨D, x.cps.toList.map fun c => decide (c ∈ letters), rfl, Evl.sq_of ?_, ?_⟩
            · have e4 : x.cps.size = x.cps.toList.length := by simp
              rw [k2, e4, List.take_length, List.map_map] <;> rfl
            · rw [h2, h3] at q
              have e3 : ((x.cps.toList.map fun c => decide (c ∈ letters)).all id) = x.cps.toList.all fun c => decide (c ∈ letters) := by simp [List.all_map]
              rw [e3]
              exact q H1 k1
        · rw [h2, h3] at q
          exact q H (Evl.Ex.refl H)
      · refine ⟨_, rfl, itF rfl ?_⟩
        rw [h2] at q
        exact q H (Evl.Ex.refl H)
    · have e : isName d = false := by cases d <;> first | rfl | cases h1
      rw [e] at q
      exact q H (Evl.Ex.refl H)
end
end Fc
set_option maxRecDepth 100000
set_option maxHeartbeats 4000000
namespace Fc
open PySem PySem.Spec PyProof.Rows L2 FcR
open Evl (Ex)
theorem at0 {α : Type} {v : α} {r : List α} : atI (v :: r) 0 = some v := atI_nat (j := 0) rfl
theorem at1 {α : Type} {u v : α} {r : List α} : atI (u :: v :: r) 1 = some v := atI_nat (j := 1) rfl
def szD (d : PyData) : Prop := ∀ k x r, d = .tuple (k :: .str x :: r) → x.length ≤ 100000
def sp_is_statement (K : PySem.W.Frag) : Sp := fun vs H Q _ => ∃ (v : V) (d : PyData) (loops : Int), vs = [v, .int loops] ∧ Dp K H v d ∧ PyData.canLay0 d = true ∧ szD d ∧ ∀ H', Ex H H' → Q (.bl (isStm d loops)) H'
theorem eqv_nil (ds : List PyData) : PyData.eqv (.tuple ds) (.tuple []) = ds.isEmpty := by
  cases ds <;> simp [PyData.eqv, PyData.eqvAll]
theorem min_nil (d : PyData) : min d.depth (PyData.tuple []).depth ≤ 200 := Nat.le_trans (Nat.min_le_right _ _) (by decide)
theorem inV_strs (k : Str) (l : List Str) : inV (.str k) (l.map V.str) = decide (k ∈ l) := by
  unfold inV
  rw [List.any_map]
  induction l with
  | nil => rfl
  | cons a l ih =>
    rw [List.any_cons, ih]
    show ((a == k) || decide (k ∈ l)) = decide (k ∈ a :: l)
    by_cases h : a = k
    · subst h; simp
    · have h2 : (a == k) = false := by simpa using h
      have h3 : ¬ k = a := fun e => h e.symm
      simp [h2, h3]
theorem flat_strs (l : List Str) : (l.map V.str).all flatV = true := by
  rw [List.all_map]
  exact List.all_eq_true.mpr fun _ _ => rfl
theorem named_two {k : Str} {n : Int} (h : k ∈ kNamed) (e : kSizes.lookup k = some n) : 2 ≤ n := by
  simp only [kNamed, List.mem_cons, List.not_mem_nil, or_false] at h
  rcases h with rfl | rfl | rfl | rfl
  · have : kSizes.lookup ("do" : Str) = some 2 := by decide +kernel
    rw [this] at e; cases e; decide
  · have : kSizes.lookup ("call" : Str) = some 2 := by decide +kernel
    rw [this] at e; cases e; decide
  · have : kSizes.lookup ("if" : Str) = some 4 := by decide +kernel
    rw [this] at e; cases e; decide
  · have : kSizes.lookup ("while" : Str) = some 3 := by decide +kernel
    rw [this] at e; cases e; decide
theorem jumps_two {k : Str} {n : Int} (h : k ∈ kJumps) (e : kSizes.lookup k = some n) : n = 2 := by
  simp only [kJumps, List.mem_cons, List.not_mem_nil, or_false] at h
  rcases h with rfl | rfl
  · have : kSizes.lookup ("break" : Str) = some 2 := by decide +kernel
    rw [this] at e; cases e; rfl
  · have : kSizes.lookup ("continue" : Str) = some 2 := by decide +kernel
    rw [this] at e; cases e; rfl
theorem seq_two {n : Int} (e : kSizes.lookup ("seq" : Str) = some n) : n = 2 := by
  have : kSizes.lookup ("seq" : Str) = some 2 := by decide +kernel
  rw [this] at e; cases e; rfl
theorem lookup_mem {k : Str} {n : Int} : ∀ {l : List (Str × Int)}, l.lookup k = some n → (k, n) ∈ l
  | [], h => by cases h
  | (a, b) :: l, h => by
    rw [List.lookup_cons] at h
    by_cases e : k = a
    · subst e
      have e2 : (k == k) = true := by simp
      rw [e2] at h
      cases h
      exact List.mem_cons_self
    · have e2 : (k == a) = false := by simpa using e
      rw [e2] at h
      exact List.mem_cons_of_mem _ (lookup_mem h)
theorem lookup_none {k : Str} : ∀ {l : List (Str × Int)}, l.lookup k = none → k ∉ l.map (·.1)
  | [], _ => fun h => by cases h
  | (a, b) :: l, h => by
    rw [List.lookup_cons] at h
    by_cases e : k = a
    · subst e
      have e2 : (k == k) = true := by simp
      rw [e2] at h
      cases h
    · have e2 : (k == a) = false := by simpa using e
      rw [e2] at h
      intro m
      rcases List.mem_cons.mp m with m | m
      · exact e m
      · exact lookup_none h m
section
variable {P : Program} {w : World} {h : Heap} {K : PySem.W.Frag} {mg : Str → Option Value} {base : Heap}
theorem sizes_ns (T : Tx w h K mg) (k : Str) : ∃ r, PySem.W.nsIn K (He.ga K "SIZES") k = some r ∧ (match kSizes.lookup k with
    | none => r = none
    | some n => ∃ u, r = some u ∧ RelV (.int n) u) := by
  cases e : kSizes.lookup k with
  | none => exact ⟨none, ns_none (dk_SIZES T) (lookup_none e), rfl⟩
  | some n =>
    have m := lookup_mem e
    have m2 : (k, He.Dv.int n) ∈ ([("do", .int 2), ("call", .int 2), ("if", .int 4), ("while", .int 3), ("seq", .int 2), ("break", .int 2), ("continue", .int 2), ("return", .int 1), ("raise", .int 1), ("try", .int 3), ("final", .int 3)] : List (Str × He.Dv)) :=
      List.mem_map_of_mem (f := fun q : Str × Int => (q.1, He.Dv.int q.2)) m
    obtain ⟨u, e1, e2⟩ := v_SIZES T m2
    exact ⟨some u, e1, u, rfl, e2⟩
abbrev N_is_statement : List Str := ["value", "loops"]
theorem sc_is_statement : FnScope N_is_statement ["value", "loops"] (defScope sd_is_statement) := ⟨rfl, rfl, rfl, by decide +kernel, rfl, by decide +kernel, by decide +kernel⟩
theorem ok_is_statement (T : Tx w h K mg) : Ok P w K mg base 3 ("is_statement", none) ["value", "loops"] (sp_is_statement K) := by
  obtain ⟨fd, F⟩ := F_is_statement T
  refine ⟨fd, ?_, F.bindsN (fun _ _ _ _ _ _ us hl => match us, hl with | [_, _], _ => rfl), F.kp⟩
  obtain ⟨fd_is_between, G_is_between, bi_is_between, kp_is_between⟩ := ok_is_between (P := P) (base := base) T
  obtain ⟨fd_is_name, G_is_name, bi_is_name, kp_is_name⟩ := ok_is_name (P := P) (base := base) T
  obtain ⟨es, nE, D⟩ := d_SIZES T
  refine F.ok sc_is_statement (fun vs H Q E h => ?_) (fun cdv A outer s H vs Q E hr h => ?_)
  · obtain ⟨v, d, loops, rfl, hd, hc, hz, q⟩ := h
    rfl
  · obtain ⟨v, d, loops, rfl, hd, hc, hz, q⟩ := h
    refine ⟨_, PSs.nox (pss_cons (ps_if (PW.pt (pw_or (pt_not (pt_val (pe_callB call_isi rfl (fr_isinstance T) b_isinstance (pa_cons (pv 0) (pa_cons (pe_bltn (v := .ty "tuple") rfl (fr_tuple T) b_tuple rfl) pa_nil))))) (pw_or (pt_cmpR (op_eqM hr) (pv 0) (pe_tup pa_nil) (nomark _)) (pw_or1 (pt_not (pt_val (pe_callB call_isi rfl (fr_isinstance T) b_isinstance (pa_cons (pe_ix ix_tup (pv 0) pe_int (fun _ _ => rfl)) (pa_cons (pe_bltn (v := .ty "str") rfl (fr_str T) b_str rfl) pa_nil))))))))) (pss_one (ps_ret pe_bl)) pss_nil) (pss_cons (ps_if (PW.pt (pw_or (pt_cmpR (op_notIn_kd D) (pe_ix ix_tup (pv 0) pe_int (fun _ _ => rfl)) (pe_glob (v := .ref (He.ga K "SIZES")) rfl (g_SIZES T) rfl) (by rfl)) (pw_or1 (pt_cmpR op_ne (pe_callB call_len_seq rfl (fr_len T) b_len (pa_cons (pv 0) pa_nil)) (pe_ix ix_kdict (pe_glob (v := .ref (He.ga K "SIZES")) rfl (g_SIZES T) rfl) (pe_ix ix_tup (pv 0) pe_int (fun _ _ => rfl)) (fun _ _ => rfl)) (nomark _))))) (pss_one (ps_ret pe_bl)) pss_nil) (pss_cons (ps_if (pt_cmpR op_in_seq (pe_ix ix_tup (pv 0) pe_int (fun _ _ => rfl)) (pe_glob (v := .ref (He.ga K "NAMED")) rfl (g_NAMED T) rfl) (by rfl)) (pss_one (ps_ret (pe_call G_is_name (hr.mono (by decide)) rfl (g_is_name T) kp_is_name bi_is_name .nil passF (pa_cons (pe_ix ix_tup (pv 0) pe_int (fun _ _ => rfl)) pa_nil)))) pss_nil) (pss_cons (ps_if (pt_cmpR op_in_seq (pe_ix ix_tup (pv 0) pe_int (fun _ _ => rfl)) (pe_glob (v := .ref (He.ga K "JUMPS")) rfl (g_JUMPS T) rfl) (by rfl)) (pss_one (ps_ret (pe_call G_is_between (hr.mono (by decide)) rfl (g_is_between T) kp_is_between bi_is_between .nil passF (pa_cons (pe_ix ix_tup (pv 0) pe_int (fun _ _ => rfl)) (pa_cons pe_int (pa_cons (pv 1) pa_nil)))))) pss_nil) (pss_one (ps_ret (pe_or (pe_cmpR op_ne (pe_ix ix_tup (pv 0) pe_int (fun _ _ => rfl)) pe_str (nomark _)) (pe_one (pe_and (pe_callB call_isi rfl (fr_isinstance T) b_isinstance (pa_cons (pe_ix ix_tup (pv 0) pe_int (fun _ _ => rfl)) (pa_cons (pe_bltn (v := .ty "tuple") rfl (fr_tuple T) b_tuple rfl) pa_nil))) (pe_one (pe_cmpR (op_neM hr) (pe_ix ix_tup (pv 0) pe_int (fun _ _ => rfl)) (pe_tup pa_nil) (nomark _)))))))))))), ?_⟩
    refine ⟨_, rfl, v, .ty "tuple", _, _, _, rfl, .ty _, dp_ty hd, k_tuple d, _, rfl, ite_of (fun h1 => ?_) (fun h1 => ?_)⟩
    · have e : isStm d loops = false := by cases d <;> first | rfl | cases h1
      rw [e] at q
      exact q H (Evl.Ex.refl H)
    obtain ⟨ds, rfl⟩ : ∃ ds, d = .tuple ds := by cases d <;> first | exact ⟨_, rfl⟩ | cases h1
    obtain ⟨a, xs, rfl, hS, hA⟩ := dp_tup hd
    -- value == ()
    refine ⟨_, rfl, sz (by decide), fun p hp => ?_⟩
    have x1 : Ex H (upd H p (.tup [])) := exu (Evl.Ex.refl H) hp
    refine ⟨.tuple ds, .tuple [], dp_ex x1 hd, .tup (Evl.st_of upd_same) .nil, hc, rfl, min_nil _, _, rfl, ite_of (fun h2 => ?_) (fun h2 => ?_)⟩
    · rw [eqv_nil] at h2
      cases ds with
      | nil => exact q _ x1
      | cons _ _ => cases h2
    rw [eqv_nil] at h2
    cases hA with
    | nil => cases h2
    | @cons v0 xr d0 dr h0 hA =>
    have hS1 := Evl.ex_t x1 hS
    -- not isinstance(value[0], str)
    refine ⟨_, rfl, a, _, _, _, rfl, rfl, hS1, at0, v0, .ty "str", _, _, _, rfl, .ty _, dp_ty (dp_ex x1 h0), k_str d0, _, rfl, ite_of (fun h3 => ?_) (fun h3 => ?_)⟩
    · have e : isStm (.tuple (d0 :: dr)) loops = false := by cases d0 <;> first | rfl | cases h3
      rw [e] at q
      exact q _ x1
    obtain ⟨k, rfl⟩ : ∃ k, d0 = .str k := by cases d0 <;> first | exact ⟨_, rfl⟩ | cases h3
    obtain rfl := dp_str h0
    have el := dpA_len hA
    obtain ⟨r, n1, n2⟩ := sizes_ns T k
    -- value[0] not in SIZES
    refine ⟨_, rfl, a, _, _, _, rfl, rfl, hS1, at0, k, r, rfl, rfl, n1, _, rfl, ite_of (fun h4 => ?_) (fun h4 => ?_)⟩
    · have e : isStm (.tuple (.str k :: dr)) loops = false := by
        cases e1 : kSizes.lookup k with
        | none => simp only [isStm, e1]
        | some n =>
          rw [e1] at n2
          obtain ⟨u, rfl, _⟩ := n2
          cases h4
      rw [e] at q
      exact q _ x1
    cases e1 : kSizes.lookup k with
    | none =>
      rw [e1] at n2
      subst n2
      cases h4
    | some n =>
    rw [e1] at n2
    obtain ⟨u, rfl, ru⟩ := n2
    have q' : ∀ b, (isStm (.tuple (.str k :: dr)) loops = b) → ∀ H', Ex H H' → Q (.bl b) H' := fun b e => by rw [← e]; exact q
    -- len(value) != SIZES[value[0]]
    refine ⟨_, rfl, a, _, rfl, .inr hS1, _, rfl, a, _, _, _, rfl, rfl, hS1, at0, _, k, .int n, rfl, rfl, ⟨es, nE, u, D.at_, D.lit, n1, ru⟩, rfl, _, rfl, ite_of (fun h5 => ?_) (fun h5 => ?_)⟩
    · refine q' false ?_ _ x1
      have h6 : ¬ ((dr.length : Int) + 1 = n) := by
        intro e
        have : decide (V.int ((V.str k :: xr).length : Int) = V.int n) = true := decide_eq_true (by rw [List.length_cons, el]; congr 1)
        rw [this] at h5
        cases h5
      simp only [isStm, e1, if_pos h6]
    have hn : (dr.length : Int) + 1 = n := by
      have h6 : decide (V.int ((V.str k :: xr).length : Int) = V.int n) = true := by
        cases z : decide (V.int ((V.str k :: xr).length : Int) = V.int n) with
        | true => rfl
        | false => rw [z] at h5; cases h5
      have h7 := V.int.inj (of_decide_eq_true h6)
      rw [List.length_cons, el] at h7
      omega
    have es0 : isStm (.tuple (.str k :: dr)) loops = (if k ∈ kNamed then isName (dr.getD 0 .none) else if k ∈ kJumps then isNum 1 loops (dr.getD 0 .none) else (if k ≠ "seq" then true else nonEmptyT (dr.getD 0 .none))) := by
      simp only [isStm, e1, if_neg (show ¬ ((dr.length : Int) + 1 ≠ n) from fun z => z hn)]
    -- value[0] in NAMED
    refine ⟨_, rfl, a, _, _, _, rfl, rfl, hS1, at0, He.ga K "NAMED", _, rfl, .inr (t_NAMED T _), rfl, flat_strs kNamed, _, rfl, ite_of (fun h6 => ?_) (fun h6 => ?_)⟩
    · have h6 : inV (.str k) (kNamed.map V.str) = true := h6
      rw [inV_strs] at h6
      have hk := of_decide_eq_true h6
      have n2 := named_two hk e1
      cases hA with
      | nil => simp at hn; omega
      | @cons v1 xr d1 dr g1 hA =>
      refine ⟨_, rfl, a, _, _, _, rfl, rfl, hS1, at1, v1, d1, rfl, dp_ex x1 g1, fun x e => hz (.str k) x dr (by rw [e]), fun H' x2 => q' _ ?_ H' (x1.trans x2)⟩
      rw [es0, if_pos hk] <;> rfl
    have h6 : inV (.str k) (kNamed.map V.str) = false := h6
    rw [inV_strs] at h6
    have hk : ¬ k ∈ kNamed := of_decide_eq_false h6
    -- value[0] in JUMPS
    refine ⟨_, rfl, a, _, _, _, rfl, rfl, hS1, at0, He.ga K "JUMPS", _, rfl, .inr (t_JUMPS T _), rfl, flat_strs kJumps, _, rfl, ite_of (fun h7 => ?_) (fun h7 => ?_)⟩
    · have h7 : inV (.str k) (kJumps.map V.str) = true := h7
      rw [inV_strs] at h7
      have hj := of_decide_eq_true h7
      have n2 := jumps_two hj e1
      cases hA with
      | nil => simp at hn; omega
      | @cons v1 xr d1 dr g1 hA =>
      have e2 : isStm (.tuple (.str k :: d1 :: dr)) loops = isNum 1 loops d1 := by rw [es0, if_neg hk, if_pos hj] <;> rfl
      refine ⟨_, rfl, a, _, _, _, rfl, rfl, hS1, at1, _, rfl, v1, 1, loops, rfl, ?_⟩
      cases d1 with
      | int m =>
        obtain rfl := dp_int g1
        exact .inl ⟨m, rfl, q' _ e2 _ x1⟩
      | _ => exact .inr ⟨_, _, _, dp_ty (dp_ex x1 g1), k_int _, k_bool _, rfl, q' _ e2 _ x1⟩
    have h7 : inV (.str k) (kJumps.map V.str) = false := h7
    rw [inV_strs] at h7
    have hj : ¬ k ∈ kJumps := of_decide_eq_false h7
    rw [if_neg hk, if_neg hj] at es0
    -- value[0] != 'seq' or ..
    refine ⟨_, rfl, a, _, _, _, rfl, rfl, hS1, at0, rfl, _, rfl, ite_of (fun h8 => ?_) (fun h8 => ?_)⟩
    · have hs : k ≠ "seq" := by
        intro e
        subst e
        have z : decide (V.str "seq" = V.str "seq") = true := decide_eq_true rfl
        rw [z] at h8
        cases h8
      exact q' true (by rw [es0, if_pos hs]) _ x1
    have hs : k = "seq" := by
      cases z : decide (V.str k = V.str "seq") with
      | true => exact V.str.inj (of_decide_eq_true z)
      | false => rw [z] at h8; cases h8
    subst hs
    have n2 := seq_two e1
    cases hA with
    | nil => simp at hn; omega
    | @cons v1 xr d1 dr g1 hA =>
    rw [if_neg (fun z => z rfl)] at es0
    refine ⟨_, rfl, a, _, _, _, rfl, rfl, hS1, at1, v1, .ty "tuple", _, _, _, rfl, .ty _, dp_ty (dp_ex x1 g1), k_tuple d1, _, rfl, ite_of (fun h9 => ?_) (fun h9 => ?_)⟩
    · obtain ⟨es2, rfl⟩ : ∃ ds, d1 = .tuple ds := by cases d1 <;> first | exact ⟨_, rfl⟩ | cases h9
      refine ⟨_, rfl, a, _, _, _, rfl, rfl, hS1, at1, sz (by decide), fun p2 hp2 => ?_⟩
      have x2 : Ex H (upd (upd H p (.tup [])) p2 (.tup [])) := exu x1 hp2
      have hc1 : PyData.canLay0 (.tuple es2) = true := by
        have z : (PyData.canLay0 (.str "seq") && (PyData.canLay0 (.tuple es2) && PyData.canLayAll0 dr)) = true := hc
        exact (Bool.and_eq_true_iff.mp (Bool.and_eq_true_iff.mp z).2).1
      refine ⟨.tuple es2, .tuple [], dp_ex x2 g1, .tup (Evl.st_of upd_same) .nil, hc1, rfl, min_nil _, q' _ ?_ _ x2⟩
      rw [es0, eqv_nil]
      cases es2 <;> rfl
    · refine q' false ?_ _ x1
      rw [es0]
      cases d1 <;> first | rfl | cases h9
end
end Fc
set_option maxRecDepth 100000
set_option maxHeartbeats 4000000
namespace Fc
open PySem PySem.Spec PyProof.Rows L2 FcR
open Evl (Ex)
theorem sl_any {K : PySem.W.Frag} {H : Hp} {a : Addr} {xs : List V} {lo hi : Option Int} {Q : VK} (hS : SqT K H a xs) (k : ∀ p H', Ex H H' → SqT K H' p (cutV xs lo hi) → Q (.ref p) H') : rSlA K (.ref a) lo hi H Q := by
  refine ⟨a, xs, rfl, hS, fun h => k a H (Evl.Ex.refl H) ?_, fun _ p hp => k p _ (exu (Evl.Ex.refl H) hp) (Evl.st_of upd_same)⟩
  have e : cutV xs lo hi = xs := by
    unfold cutV
    rw [h.1, h.2]
    simp
  rw [e]
  exact hS
theorem cut_from (xs : List V) (n : Nat) : cutV xs (some (n : Int)) none = xs.drop n := by
  unfold cutV
  rw [HT.sIx_none, HT.sIx_nat]
  by_cases h : n ≤ xs.length
  · rw [Nat.min_eq_left h, List.take_of_length_le (by rw [List.length_drop]; omega)]
  · rw [Nat.min_eq_right (by omega), List.drop_eq_nil_of_le (by omega), List.drop_eq_nil_of_le (by omega)]
    simp
theorem cut_to (xs : List V) (n : Nat) : cutV xs none (some (n : Int)) = xs.take n := by
  unfold cutV
  rw [HT.sIx_none, HT.sIx_nat]
  simp only [List.drop_zero, Nat.sub_zero]
  by_cases h : n ≤ xs.length
  · rw [Nat.min_eq_left h]
  · rw [Nat.min_eq_right (by omega), List.take_of_length_le (Nat.le_refl _), List.take_of_length_le (by omega)]
def sp_parts_in (K : PySem.W.Frag) : Sp := fun vs H Q _ => ∃ (F : Hp) (v : V) (d : PyData) (loops : Int), vs = [v] ∧ Ex F H ∧ Dp K F v d ∧ isStm d loops = true ∧
  ∀ p H' xs, H p = none → Ex H H' → H' p = some (.lst xs) → DpAll K F xs (partsD d) → Q (.ref p) H'
theorem isStm_shape {d : PyData} {loops : Int} (h : isStm d loops = true) : ∃ k r n, d = .tuple (.str k :: r) ∧ kSizes.lookup k = some n ∧ (r.length : Int) + 1 = n ∧
    (if k ∈ kNamed then isName (r.getD 0 .none) else if k ∈ kJumps then isNum 1 loops (r.getD 0 .none) else (if k ≠ "seq" then true else nonEmptyT (r.getD 0 .none))) = true := by
  unfold isStm at h
  split at h
  · rename_i k r
    split at h
    · cases h
    · rename_i n e
      split at h
      · cases h
      · rename_i hn
        exact ⟨k, r, n, rfl, e, Decidable.not_not.mp hn, h⟩
  · cases h
theorem fresh_up {H H' : Hp} {p : Addr} (e : Ex H H') (h : H' p = none) : H p = none := Evl.fresh_back e h
section
variable {P : Program} {w : World} {h : Heap} {K : PySem.W.Frag} {mg : Str → Option Value} {base : Heap}
abbrev N_parts_in : List Str := ["statement"]
theorem sc_parts_in : FnScope N_parts_in ["statement"] (defScope sd_parts_in) := ⟨rfl, rfl, rfl, by decide +kernel, rfl, by decide +kernel, by decide +kernel⟩
theorem ok_parts_in (T : Tx w h K mg) : Ok P w K mg base 1 ("parts_in", none) ["statement"] (sp_parts_in K) := by
  obtain ⟨fd, F⟩ := F_parts_in T
  refine ⟨fd, ?_, F.bindsN (fun _ _ _ _ _ _ us hl => match us, hl with | [_], _ => rfl), F.kp⟩
  obtain ⟨tm_MOST_STATEMENTS, m_MOST_STATEMENTS⟩ := i_MOST_STATEMENTS T
  refine F.ok sc_parts_in (fun vs H Q E h => ?_) (fun cdv A outer s H vs Q E hr h => ?_)
  · obtain ⟨F0, v, d, loops, rfl, xF, hd, hs, q⟩ := h
    rfl
  · obtain ⟨F0, v, d, loops, rfl, xF, hd, hs, q⟩ := h
    refine ⟨_, PSs.nox (pss_cons (ps_if (pt_cmpR op_eq (pe_ix ix_tup (pv 0) pe_int (fun _ _ => rfl)) pe_str (nomark _)) (pss_one (ps_ret (pe_callTy call_list_of rfl (fr_list T) b_list (pa_cons (pe_slice sl_tupA (pe_ix ix_tup (pv 0) pe_int (fun _ _ => rfl)) po_none (po_some (pe_op op_add (pe_glob (v := .int 400) rfl m_MOST_STATEMENTS ⟨_, rfl⟩) pe_int))) pa_nil)))) pss_nil) (pss_cons (ps_if (pt_cmpR op_in_seq (pe_ix ix_tup (pv 0) pe_int (fun _ _ => rfl)) (pe_glob (v := .ref (He.ga K "NAMED")) rfl (g_NAMED T) rfl) (by rfl)) (pss_one (ps_ret (pe_callTy call_list_of rfl (fr_list T) b_list (pa_cons (pe_slice sl_tupA (pv 0) (po_some pe_int) po_none) pa_nil)))) pss_nil) (pss_one (ps_ret (pe_ifExp (pt_cmpR op_in_seq (pe_ix ix_tup (pv 0) pe_int (fun _ _ => rfl)) (pe_tup (pa_cons pe_str (pa_cons pe_str pa_nil))) (by rfl)) (pe_callTy call_list_of rfl (fr_list T) b_list (pa_cons (pe_slice sl_tupA (pv 0) (po_some pe_int) po_none) pa_nil)) (pe_lst pa_nil)))))), ?_⟩
    obtain ⟨k, r, n, rfl, e1, hn, hs⟩ := isStm_shape hs
    obtain ⟨a, xs, rfl, hS, hA⟩ := dp_tup hd
    have hS := Evl.ex_t xF hS
    cases hA with
    | @cons v0 xr _ _ h0 hA =>
    obtain rfl := dp_str h0
    refine ⟨_, rfl, a, _, _, _, rfl, rfl, hS, at0, rfl, _, rfl, ite_of (fun h1 => ?_) (fun h1 => ?_)⟩
    · have hk : k = "seq" := V.str.inj (of_decide_eq_true h1)
      subst hk
      have n2 := seq_two e1
      have nn : ¬ (("seq" : Str) ∈ kNamed) := by decide +kernel
      have nj : ¬ (("seq" : Str) ∈ kJumps) := by decide +kernel
      rw [if_neg nn, if_neg nj, if_neg (fun z => z rfl)] at hs
      cases hA with
      | nil => simp at hn; omega
      | @cons v1 xr d1 dr g1 hA =>
      obtain ⟨ps, rfl⟩ : ∃ ps, d1 = .tuple ps := by cases d1 <;> first | exact ⟨_, rfl⟩ | cases hs
      obtain ⟨b, ys, rfl, gS, gA⟩ := dp_tup g1
      have gS := Evl.ex_t xF gS
      refine ⟨_, rfl, a, _, _, _, rfl, rfl, hS, at1, _, _, rfl, rfl, _, rfl, ?_⟩
      refine sl_any (lo := none) gS fun p H1 x1 s1 => ?_
      refine ⟨p, _, rfl, .inr s1, fun l hl => q l _ _ (fresh_up x1 hl) (exu x1 hl) upd_same ?_⟩
      rw [show ((400 : Int) + 1) = ((401 : Nat) : Int) from rfl, cut_to]
      exact dpA_take 401 gA
    have hk : ¬ k = "seq" := fun e => by
      have z : decide (V.str k = V.str "seq") = true := decide_eq_true (by rw [e])
      rw [z] at h1
      cases h1
    refine ⟨_, rfl, a, _, _, _, rfl, rfl, hS, at0, He.ga K "NAMED", _, rfl, .inr (t_NAMED T _), rfl, flat_strs kNamed, _, rfl, ite_of (fun h2 => ?_) (fun h2 => ?_)⟩
    · have h2 : inV (.str k) (kNamed.map V.str) = true := h2
      rw [inV_strs] at h2
      have hm := of_decide_eq_true h2
      refine ⟨_, rfl, _, rfl, ?_⟩
      dsimp only [tNoPart]
      refine sl_any (hi := none) hS fun p H1 x1 s1 => ?_
      refine ⟨p, _, rfl, .inr s1, fun l hl => q l _ _ (fresh_up x1 hl) (exu x1 hl) upd_same ?_⟩
      rw [show (2 : Int) = ((2 : Nat) : Int) from rfl, cut_from]
      show DpAll K F0 (xr.drop 1) (partsD (.tuple (.str k :: r)))
      rw [show partsD (.tuple (.str k :: r)) = r.drop 1 from by simp only [partsD, if_neg hk, if_pos hm]]
      exact dpA_drop 1 hA
    have h2 : inV (.str k) (kNamed.map V.str) = false := h2
    rw [inV_strs] at h2
    have hm : ¬ k ∈ kNamed := of_decide_eq_false h2
    refine ⟨_, rfl, a, _, _, _, rfl, rfl, hS, at0, sz (by decide), fun p0 hp0 => ⟨p0, _, rfl, .inr (Evl.st_of upd_same), rfl, flat_strs ["try", "final"], _, rfl, ite_of (fun h3 => ?_) (fun h3 => ?_)⟩⟩
    · have h3 : inV (.str k) ((["try", "final"] : List Str).map V.str) = true := h3
      rw [inV_strs] at h3
      have ht : k = "try" ∨ k = "final" := by simpa using of_decide_eq_true h3
      have x0 : Ex H (upd H p0 (.tup [.str "try", .str "final"])) := exu (Evl.Ex.refl H) hp0
      refine ⟨_, rfl, _, rfl, ?_⟩
      dsimp only [tNoPart]
      refine sl_any (hi := none) (Evl.ex_t x0 hS) fun p H1 x1 s1 => ?_
      have x2 := x0.trans x1
      refine ⟨p, _, rfl, .inr s1, fun l hl => q l _ _ (fresh_up x2 hl) (exu x2 hl) upd_same ?_⟩
      rw [show (1 : Int) = ((1 : Nat) : Int) from rfl, cut_from]
      show DpAll K F0 xr (partsD (.tuple (.str k :: r)))
      rw [show partsD (.tuple (.str k :: r)) = r from by simp only [partsD, if_neg hk, if_neg hm, if_pos ht]]
      exact hA
    · have h3 : inV (.str k) ((["try", "final"] : List Str).map V.str) = false := h3
      rw [inV_strs] at h3
      have ht : ¬ (k = "try" ∨ k = "final") := by simpa using of_decide_eq_false h3
      have x0 : Ex H (upd H p0 (.tup [.str "try", .str "final"])) := exu (Evl.Ex.refl H) hp0
      refine ⟨sz (by decide), fun l hl => q l _ _ (fresh_up x0 hl) (exu x0 hl) upd_same ?_⟩
      rw [show partsD (.tuple (.str k :: r)) = [] from by simp only [partsD, if_neg hk, if_neg hm, if_neg ht]]
      exact .nil
end
end Fc
set_option maxRecDepth 100000
set_option maxHeartbeats 4000000
namespace Fc
open PySem PySem.Spec PyProof.Rows L2 FcR
open Evl (Ex)
def fl_Code (v0 v1 v2 v3 v4 : V) : List (Str × V) := [("statements", v0), ("kinds", v1), ("labels", v2), ("parents", v3), ("children", v4)]
theorem fl_Code_statements (v0 v1 v2 v3 v4 : V) : (fl_Code v0 v1 v2 v3 v4).lookup ("statements" : Str) = some v0 := by kernel_rfl
theorem fl_Code_kinds (v0 v1 v2 v3 v4 : V) : (fl_Code v0 v1 v2 v3 v4).lookup ("kinds" : Str) = some v1 := by kernel_rfl
theorem fl_Code_labels (v0 v1 v2 v3 v4 : V) : (fl_Code v0 v1 v2 v3 v4).lookup ("labels" : Str) = some v2 := by kernel_rfl
theorem fl_Code_parents (v0 v1 v2 v3 v4 : V) : (fl_Code v0 v1 v2 v3 v4).lookup ("parents" : Str) = some v3 := by kernel_rfl
theorem fl_Code_children (v0 v1 v2 v3 v4 : V) : (fl_Code v0 v1 v2 v3 v4).lookup ("children" : Str) = some v4 := by kernel_rfl
theorem fm_Code_check (v0 v1 v2 v3 v4 : V) : (fl_Code v0 v1 v2 v3 v4).lookup ("check" : Str) = none := by kernel_rfl
theorem fm_Code_keep (v0 v1 v2 v3 v4 : V) : (fl_Code v0 v1 v2 v3 v4).lookup ("keep" : Str) = none := by kernel_rfl
theorem fm_Code_check_number (v0 v1 v2 v3 v4 : V) : (fl_Code v0 v1 v2 v3 v4).lookup ("check_number" : Str) = none := by kernel_rfl
theorem fm_Code_kind (v0 v1 v2 v3 v4 : V) : (fl_Code v0 v1 v2 v3 v4).lookup ("kind" : Str) = none := by kernel_rfl
theorem fm_Code_is_place (v0 v1 v2 v3 v4 : V) : (fl_Code v0 v1 v2 v3 v4).lookup ("is_place" : Str) = none := by kernel_rfl
theorem fm_Code_places (v0 v1 v2 v3 v4 : V) : (fl_Code v0 v1 v2 v3 v4).lookup ("places" : Str) = none := by kernel_rfl
theorem fi_Code_0 (v0 : V) : putF "statements" v0 ([] : List (Str × V)) = ([(("statements" : Str), v0)] : List (Str × V)) := by kernel_rfl
theorem fi_Code_1 (v0 v1 : V) : putF "kinds" v1 ([(("statements" : Str), v0)] : List (Str × V)) = ([(("statements" : Str), v0), (("kinds" : Str), v1)] : List (Str × V)) := by kernel_rfl
theorem fi_Code_2 (v0 v1 v2 : V) : putF "labels" v2 ([(("statements" : Str), v0), (("kinds" : Str), v1)] : List (Str × V)) = ([(("statements" : Str), v0), (("kinds" : Str), v1), (("labels" : Str), v2)] : List (Str × V)) := by kernel_rfl
theorem fi_Code_3 (v0 v1 v2 v3 : V) : putF "parents" v3 ([(("statements" : Str), v0), (("kinds" : Str), v1), (("labels" : Str), v2)] : List (Str × V)) = ([(("statements" : Str), v0), (("kinds" : Str), v1), (("labels" : Str), v2), (("parents" : Str), v3)] : List (Str × V)) := by kernel_rfl
theorem fi_Code_4 (v0 v1 v2 v3 v4 : V) : putF "children" v4 ([(("statements" : Str), v0), (("kinds" : Str), v1), (("labels" : Str), v2), (("parents" : Str), v3)] : List (Str × V)) = ([(("statements" : Str), v0), (("kinds" : Str), v1), (("labels" : Str), v2), (("parents" : Str), v3), (("children" : Str), v4)] : List (Str × V)) := by kernel_rfl
end Fc
set_option maxRecDepth 100000
set_option maxHeartbeats 4000000
namespace Fc
open PySem PySem.Spec PyProof.Rows L2 FcR
open Evl (Ex)
structure Row where
  d : PyData
  par : Option Nat
  ch : List Nat
def kindD : PyData → Str
  | .tuple (.str k :: _) => k
  | _ => ""
def kLab : List Str := kNamed ++ kJumps
def labD : PyData → V
  | .tuple (.str k :: r) => if k ∈ kLab then (match r with
      | .str x :: _ => .str x
      | .int n :: _ => .int n
      | _ => .non) else .non
  | _ => .non
def parV : Option Nat → V
  | none => .non
  | some i => .int (i : Int)
def intsV (l : List Nat) : List V := l.map fun n : Nat => V.int (n : Int)
/-- where a code's lists stand -/
structure CAd where
  p : Addr
  dx : Addr
  a1 : Addr
  a2 : Addr
  a3 : Addr
  a4 : Addr
  a5 : Addr
  cs : List Addr
def CAd.all (A : CAd) : List Addr := A.p :: A.a1 :: A.a2 :: A.a3 :: A.a4 :: A.a5 :: A.cs
def cFs (A : CAd) : List (Str × V) := fl_Code (.ref A.a1) (.ref A.a2) (.ref A.a3) (.ref A.a4) (.ref A.a5)
/-- a code's lists as they stand in H -/
structure CL (K : PySem.W.Frag) (H : Hp) (A : CAd) (L1 L2 L3 L4 : List V) (Cs : List (List V)) : Prop where
  ob : H A.p = some (.ins (He.ga K "Code") A.dx (cFs A))
  h1 : H A.a1 = some (.lst L1)
  h2 : H A.a2 = some (.lst L2)
  h3 : H A.a3 = some (.lst L3)
  h4 : H A.a4 = some (.lst L4)
  h5 : H A.a5 = some (.lst (A.cs.map V.ref))
  cl : A.cs.length = Cs.length
  cc : ∀ (i : Nat) (c : Addr) (x : List V), A.cs[i]? = some c → Cs[i]? = some x → H c = some (.lst x)
  nd : A.all.Nodup
section
variable {K : PySem.W.Frag} {F H H' : Hp} {A : CAd} {L1 L2 L3 L4 : List V} {Cs : List (List V)}
theorem CL.ex (x : CL K H A L1 L2 L3 L4 Cs) (e : Ex H H') : CL K H' A L1 L2 L3 L4 Cs :=
  ⟨e _ _ x.ob, e _ _ x.h1, e _ _ x.h2, e _ _ x.h3, e _ _ x.h4, e _ _ x.h5, x.cl, fun i c y h1 h2 => e _ _ (x.cc i c y h1 h2), x.nd⟩
theorem CL.ne (x : CL K H A L1 L2 L3 L4 Cs) :
    (A.p ≠ A.a1 ∧ A.p ≠ A.a2 ∧ A.p ≠ A.a3 ∧ A.p ≠ A.a4 ∧ A.p ≠ A.a5 ∧ A.p ∉ A.cs) ∧ (A.a1 ≠ A.a2 ∧ A.a1 ≠ A.a3 ∧ A.a1 ≠ A.a4 ∧ A.a1 ≠ A.a5 ∧ A.a1 ∉ A.cs) ∧
    (A.a2 ≠ A.a3 ∧ A.a2 ≠ A.a4 ∧ A.a2 ≠ A.a5 ∧ A.a2 ∉ A.cs) ∧ (A.a3 ≠ A.a4 ∧ A.a3 ≠ A.a5 ∧ A.a3 ∉ A.cs) ∧ (A.a4 ≠ A.a5 ∧ A.a4 ∉ A.cs) ∧ A.a5 ∉ A.cs ∧ A.cs.Nodup := by
  have z := x.nd
  simp only [CAd.all, List.nodup_cons, List.mem_cons, not_or] at z
  exact ⟨z.1, z.2.1, z.2.2.1, z.2.2.2.1, z.2.2.2.2.1, z.2.2.2.2.2⟩
theorem CL.there (x : CL K H A L1 L2 L3 L4 Cs) {b : Addr} (hb : b ∈ A.all) : ∃ o, H b = some o := by
  simp only [CAd.all, List.mem_cons] at hb
  rcases hb with rfl | rfl | rfl | rfl | rfl | rfl | hb
  · exact ⟨_, x.ob⟩
  · exact ⟨_, x.h1⟩
  · exact ⟨_, x.h2⟩
  · exact ⟨_, x.h3⟩
  · exact ⟨_, x.h4⟩
  · exact ⟨_, x.h5⟩
  · obtain ⟨i, hi⟩ := List.mem_iff_getElem?.mp hb
    have l : i < Cs.length := by rw [← x.cl]; exact (List.getElem?_eq_some_iff.mp hi).1
    exact ⟨_, x.cc i b _ hi (List.getElem?_eq_getElem l)⟩
theorem CL.fresh (x : CL K H A L1 L2 L3 L4 Cs) {q : Addr} (h : H q = none) : q ∉ A.all := fun z => by
  obtain ⟨o, e⟩ := x.there z
  rw [h] at e
  cases e
theorem CL.off (x : CL K H A L1 L2 L3 L4 Cs) {q : Addr} {o : HO} (h : q ∉ A.all) : CL K (upd H q o) A L1 L2 L3 L4 Cs := by
  have n : ∀ {b : Addr}, b ∈ A.all → b ≠ q := fun hb e => h (e ▸ hb)
  have mc : ∀ {c : Addr}, c ∈ A.cs → c ∈ A.all := fun hc => by simp [CAd.all, hc]
  exact ⟨by rw [upd_ne (n (by simp [CAd.all]))]; exact x.ob, by rw [upd_ne (n (by simp [CAd.all]))]; exact x.h1, by rw [upd_ne (n (by simp [CAd.all]))]; exact x.h2, by rw [upd_ne (n (by simp [CAd.all]))]; exact x.h3,
    by rw [upd_ne (n (by simp [CAd.all]))]; exact x.h4, by rw [upd_ne (n (by simp [CAd.all]))]; exact x.h5, x.cl, fun i c y h1 h2 => by rw [upd_ne (n (mc (List.mem_of_getElem? h1)))]; exact x.cc i c y h1 h2, x.nd⟩
theorem nin {c b : Addr} {l : List Addr} (h : b ∉ l) (hc : c ∈ l) : c ≠ b := fun e => h (e ▸ hc)
theorem CL.s1 (x : CL K H A L1 L2 L3 L4 Cs) (y : List V) : CL K (upd H A.a1 (.lst y)) A y L2 L3 L4 Cs := by
  obtain ⟨⟨n1, n2, n3, n4, n5, n6⟩, ⟨m12, m13, m14, m15, m1⟩, ⟨m23, m24, m25, m2⟩, ⟨m34, m35, m3⟩, ⟨m45, m4⟩, m5, m6⟩ := x.ne
  exact ⟨by rw [upd_ne n1]; exact x.ob, upd_same, by rw [upd_ne m12.symm]; exact x.h2, by rw [upd_ne m13.symm]; exact x.h3, by rw [upd_ne m14.symm]; exact x.h4, by rw [upd_ne m15.symm]; exact x.h5, x.cl,
    fun i c z g1 g2 => by rw [upd_ne (nin m1 (List.mem_of_getElem? g1))]; exact x.cc i c z g1 g2, x.nd⟩
theorem CL.s2 (x : CL K H A L1 L2 L3 L4 Cs) (y : List V) : CL K (upd H A.a2 (.lst y)) A L1 y L3 L4 Cs := by
  obtain ⟨⟨n1, n2, n3, n4, n5, n6⟩, ⟨m12, m13, m14, m15, m1⟩, ⟨m23, m24, m25, m2⟩, ⟨m34, m35, m3⟩, ⟨m45, m4⟩, m5, m6⟩ := x.ne
  exact ⟨by rw [upd_ne n2]; exact x.ob, by rw [upd_ne m12]; exact x.h1, upd_same, by rw [upd_ne m23.symm]; exact x.h3, by rw [upd_ne m24.symm]; exact x.h4, by rw [upd_ne m25.symm]; exact x.h5, x.cl,
    fun i c z g1 g2 => by rw [upd_ne (nin m2 (List.mem_of_getElem? g1))]; exact x.cc i c z g1 g2, x.nd⟩
theorem CL.s3 (x : CL K H A L1 L2 L3 L4 Cs) (y : List V) : CL K (upd H A.a3 (.lst y)) A L1 L2 y L4 Cs := by
  obtain ⟨⟨n1, n2, n3, n4, n5, n6⟩, ⟨m12, m13, m14, m15, m1⟩, ⟨m23, m24, m25, m2⟩, ⟨m34, m35, m3⟩, ⟨m45, m4⟩, m5, m6⟩ := x.ne
  exact ⟨by rw [upd_ne n3]; exact x.ob, by rw [upd_ne m13]; exact x.h1, by rw [upd_ne m23]; exact x.h2, upd_same, by rw [upd_ne m34.symm]; exact x.h4, by rw [upd_ne m35.symm]; exact x.h5, x.cl,
    fun i c z g1 g2 => by rw [upd_ne (nin m3 (List.mem_of_getElem? g1))]; exact x.cc i c z g1 g2, x.nd⟩
theorem CL.s4 (x : CL K H A L1 L2 L3 L4 Cs) (y : List V) : CL K (upd H A.a4 (.lst y)) A L1 L2 L3 y Cs := by
  obtain ⟨⟨n1, n2, n3, n4, n5, n6⟩, ⟨m12, m13, m14, m15, m1⟩, ⟨m23, m24, m25, m2⟩, ⟨m34, m35, m3⟩, ⟨m45, m4⟩, m5, m6⟩ := x.ne
  exact ⟨by rw [upd_ne n4]; exact x.ob, by rw [upd_ne m14]; exact x.h1, by rw [upd_ne m24]; exact x.h2, by rw [upd_ne m34]; exact x.h3, upd_same, by rw [upd_ne m45.symm]; exact x.h5, x.cl,
    fun i c z g1 g2 => by rw [upd_ne (nin m4 (List.mem_of_getElem? g1))]; exact x.cc i c z g1 g2, x.nd⟩
theorem nd_get {α : Type} {l : List α} (h : l.Nodup) {i j : Nat} {x : α} (hi : l[i]? = some x) (hj : l[j]? = some x) : i = j := by
  obtain ⟨h1, e1⟩ := List.getElem?_eq_some_iff.mp hi
  obtain ⟨h2, e2⟩ := List.getElem?_eq_some_iff.mp hj
  exact (List.getElem_inj h).mp (e1.trans e2.symm)
theorem CL.child (x : CL K H A L1 L2 L3 L4 Cs) {i : Nat} {c : Addr} (hc : A.cs[i]? = some c) (y : List V) : CL K (upd H c (.lst y)) A L1 L2 L3 L4 (Cs.set i y) := by
  obtain ⟨⟨n1, n2, n3, n4, n5, n6⟩, ⟨m12, m13, m14, m15, m1⟩, ⟨m23, m24, m25, m2⟩, ⟨m34, m35, m3⟩, ⟨m45, m4⟩, m5, m6⟩ := x.ne
  have hm : c ∈ A.cs := List.mem_of_getElem? hc
  refine ⟨by rw [upd_ne (nin n6 hm).symm]; exact x.ob, by rw [upd_ne (nin m1 hm).symm]; exact x.h1, by rw [upd_ne (nin m2 hm).symm]; exact x.h2, by rw [upd_ne (nin m3 hm).symm]; exact x.h3, by rw [upd_ne (nin m4 hm).symm]; exact x.h4,
    by rw [upd_ne (nin m5 hm).symm]; exact x.h5, by rw [List.length_set]; exact x.cl, fun j c' z g1 g2 => ?_, x.nd⟩
  by_cases e : i = j
  · subst e
    rw [hc] at g1
    cases g1
    have l : i < Cs.length := by rw [← x.cl]; exact (List.getElem?_eq_some_iff.mp hc).1
    rw [List.getElem?_set_self l] at g2
    cases g2
    exact upd_same
  · rw [List.getElem?_set_ne e] at g2
    have nc : c' ≠ c := fun q => e (nd_get m6 hc (by rw [← q]; exact g1))
    rw [upd_ne nc]
    exact x.cc j c' z g1 g2
theorem CL.push (x : CL K H A L1 L2 L3 L4 Cs) {c : Addr} (hc : H c = none) : CL K (upd (upd H c (.lst [])) A.a5 (.lst (A.cs.map V.ref ++ [.ref c]))) { A with cs := A.cs ++ [c] } L1 L2 L3 L4 (Cs ++ [[]]) := by
  obtain ⟨⟨n1, n2, n3, n4, n5, n6⟩, ⟨m12, m13, m14, m15, m1⟩, ⟨m23, m24, m25, m2⟩, ⟨m34, m35, m3⟩, ⟨m45, m4⟩, m5, m6⟩ := x.ne
  have f := x.fresh hc
  have y := x.off (o := .lst []) f
  simp only [CAd.all, List.mem_cons, not_or] at f
  obtain ⟨f0, f1, f2, f3, f4, f5, f6⟩ := f
  refine ⟨by rw [upd_ne n5]; exact y.ob, by rw [upd_ne m15]; exact y.h1, by rw [upd_ne m25]; exact y.h2, by rw [upd_ne m35]; exact y.h3, by rw [upd_ne m45]; exact y.h4, ?_, by simp [x.cl], fun i c' z g1 g2 => ?_, ?_⟩
  · show upd _ A.a5 _ A.a5 = some (HO.lst ((A.cs ++ [c]).map V.ref))
    rw [upd_same, List.map_append] <;> rfl
  · have g1 : (A.cs ++ [c])[i]? = some c' := g1
    rcases Nat.lt_or_ge i A.cs.length with l | l
    · rw [List.getElem?_append_left l] at g1
      rw [List.getElem?_append_left (by rw [← x.cl]; exact l)] at g2
      rw [upd_ne (nin m5 (List.mem_of_getElem? g1))]
      exact y.cc i c' z g1 g2
    · rw [List.getElem?_append_right l] at g1
      rw [List.getElem?_append_right (by rw [← x.cl]; exact l)] at g2
      have e1 : i - A.cs.length = 0 := by
        have := (List.getElem?_eq_some_iff.mp g1).1
        simp at this
        omega
      rw [e1] at g1
      rw [← x.cl, e1] at g2
      cases g1
      cases g2
      rw [upd_ne f5]
      exact upd_same
  · show (A.p :: A.a1 :: A.a2 :: A.a3 :: A.a4 :: A.a5 :: (A.cs ++ [c])).Nodup
    simp only [List.nodup_cons, List.mem_cons, List.mem_append, List.mem_singleton, not_or, List.not_mem_nil, or_false]
    refine ⟨⟨n1, n2, n3, n4, n5, n6, fun e => f0 e.symm⟩, ⟨m12, m13, m14, m15, m1, fun e => f1 e.symm⟩, ⟨m23, m24, m25, m2, fun e => f2 e.symm⟩, ⟨m34, m35, m3, fun e => f3 e.symm⟩, ⟨m45, m4, fun e => f4 e.symm⟩, ⟨m5, fun e => f5 e.symm⟩, ?_⟩
    exact List.nodup_append.mpr ⟨m6, List.nodup_cons.mpr ⟨List.not_mem_nil, List.nodup_nil⟩, fun a ha b hb => by rw [List.mem_singleton.mp hb]; exact fun e => f6 (e ▸ ha)⟩
end
/-- a code at A with these rows, as it stands in H; its statements by F -/
def CodeH (K : PySem.W.Frag) (F H : Hp) (A : CAd) (rows : List Row) : Prop :=
  ∃ vs, CL K H A vs (rows.map fun r => V.str (kindD r.d)) (rows.map fun r => labD r.d) (rows.map fun r => parV r.par) (rows.map fun r => intsV r.ch) ∧ DpAll K F vs (rows.map Row.d)
def addCh (rows : List Row) (i n : Nat) : List Row := rows.modify i fun r => { r with ch := r.ch ++ [n] }
def addRow (rows : List Row) (d : PyData) (par : Option Nat) : List Row := (match par with
  | none => rows
  | some i => addCh rows i rows.length) ++ [⟨d, par, []⟩]
def sp_Code_check (K : PySem.W.Frag) : Sp := fun vs H Q _ => ∃ (v0 v : V) (d : PyData) (n deep loops blocks : Int), vs = [v0, v, .int n, .int deep, .int loops, .int blocks] ∧ Dp K H v d ∧ PyData.canLay0 d = true ∧ szD d ∧ n < 400 ∧ deep ≤ 100 ∧ blocks ≤ 25 ∧ isStm d loops = true ∧
  ∀ H', Ex H H' → Q .non H'
section
variable {P : Program} {w : World} {h : Heap} {K : PySem.W.Frag} {mg : Str → Option Value} {base : Heap}
abbrev N_Code_check : List Str := ["self", "value", "number", "deep", "loops", "blocks"]
theorem sc_Code_check : FnScope N_Code_check ["self", "value", "number", "deep", "loops", "blocks"] (defScope sd_Code_check) := ⟨rfl, rfl, rfl, by decide +kernel, rfl, by decide +kernel, by decide +kernel⟩
theorem ok_Code_check (T : Tx w h K mg) : Ok P w K mg base 4 ("Code", some "check") ["self", "value", "number", "deep", "loops", "blocks"] (sp_Code_check K) := by
  obtain ⟨fd, F⟩ := F_Code_check T
  refine ⟨fd, ?_, F.bindsN (fun _ _ _ _ _ _ us hl => match us, hl with | [_, _, _, _, _, _], _ => rfl), F.kp⟩
  obtain ⟨fd_is_statement, G_is_statement, bi_is_statement, kp_is_statement⟩ := ok_is_statement (P := P) (base := base) T
  obtain ⟨tm_MOST_BLOCKS, m_MOST_BLOCKS⟩ := i_MOST_BLOCKS T
  obtain ⟨tm_MOST_DEEP, m_MOST_DEEP⟩ := i_MOST_DEEP T
  obtain ⟨tm_MOST_STATEMENTS, m_MOST_STATEMENTS⟩ := i_MOST_STATEMENTS T
  refine F.ok sc_Code_check (fun vs H Q E h => ?_) (fun cdv A outer s H vs Q E hr h => ?_)
  · obtain ⟨v0, v, d, n, deep, loops, blocks, rfl, hd, hc, hz, l1, l2, l3, hs, q⟩ := h
    rfl
  · obtain ⟨v0, v, d, n, deep, loops, blocks, rfl, hd, hc, hz, l1, l2, l3, hs, q⟩ := h
    refine ⟨_, PSs.nox (pss_cons (ps_if (pt_cmpR op_ge (pv 2) (pe_glob (v := .int 400) rfl m_MOST_STATEMENTS ⟨_, rfl⟩) (nomark _)) (pss_one ps_never) pss_nil) (pss_cons (ps_if (pt_cmpR op_gt (pv 3) (pe_glob (v := .int 100) rfl m_MOST_DEEP ⟨_, rfl⟩) (nomark _)) (pss_one ps_never) pss_nil) (pss_cons (ps_if (pt_cmpR op_gt (pv 5) (pe_glob (v := .int 25) rfl m_MOST_BLOCKS ⟨_, rfl⟩) (nomark _)) (pss_one ps_never) pss_nil) (pss_one (ps_if (pt_not (pt_val (pe_call G_is_statement (hr.mono (by decide)) rfl (g_is_statement T) kp_is_statement bi_is_statement .nil passF (pa_cons (pv 1) (pa_cons (pv 4) pa_nil))))) (pss_one ps_never) pss_nil))))), ?_⟩
    refine ⟨_, rfl, _, _, rfl, rfl, _, rfl, itF (decide_eq_false (by omega)) ?_⟩
    refine ⟨_, rfl, _, _, rfl, rfl, _, rfl, itF (decide_eq_false (by omega)) ?_⟩
    refine ⟨_, rfl, _, _, rfl, rfl, _, rfl, itF (decide_eq_false (by omega)) ?_⟩
    refine ⟨_, rfl, _, rfl, v, d, loops, rfl, hd, hc, hz, fun H' x => ⟨_, rfl, itF (by rw [hs] <;> rfl) (q H' x)⟩⟩
end
end Fc
set_option maxRecDepth 100000
set_option maxHeartbeats 4000000
namespace Fc
open PySem PySem.Spec PyProof.Rows L2 FcR
open Evl (Ex)
abbrev Itm := Nat ⊕ Str
abbrev TRow := Nat × List Itm
def itV : Itm → V
  | .inl n => .int (n : Int)
  | .inr s => .str s
def itD : Itm → PyData
  | .inl n => .int (n : Int)
  | .inr s => .str s
def rowV (r : TRow) : List V := .int (r.1 : Int) :: r.2.map itV
def RowAt (K : PySem.W.Frag) (H : Hp) (t : Addr) (r : TRow) : Prop := SqT K H t (rowV r)
abbrev RowsAt (K : PySem.W.Frag) (H : Hp) (ts : List Addr) (rs : List TRow) : Prop := Paired (RowAt K H) ts rs
def renI (f : Nat → Nat) : Itm → Itm
  | .inl n => .inl (f n)
  | .inr s => .inr s
def renR (f : Nat → Nat) (r : TRow) : TRow := (r.1, r.2.map (renI f))
/-- the rows that are reached, in the order in which they first occur -/
def addI (L : List Nat) : Itm → List Nat
  | .inl n => if n ∈ L then L else L ++ [n]
  | .inr _ => L
def addN (L : List Nat) (is : List Itm) : List Nat := is.foldl addI L
def ordN (g : Nat → TRow) (s : Nat) : Nat → List Nat
  | 0 => [s]
  | k + 1 => match (ordN g s k)[k]? with
    | some n => addN (ordN g s k) (g n).2
    | none => ordN g s k
/-- numbers for things, by their first occurrence -/
def addK {κ : Type} [DecidableEq κ] (L : List κ) (k : κ) : List κ := if k ∈ L then L else L ++ [k]
def dedK {κ : Type} [DecidableEq κ] (ks : List κ) : List κ := ks.foldl addK []
def ixK {κ : Type} [DecidableEq κ] (L : List κ) (k : κ) : Nat := L.idxOf k
def numK {κ : Type} [DecidableEq κ] (ks : List κ) : List Nat := ks.map fun k => ixK (dedK ks) k
theorem addI_pre (L : List Nat) (i : Itm) : L <+: addI L i := by
  cases i with
  | inl n =>
    show L <+: (if n ∈ L then L else L ++ [n])
    split
    · exact List.prefix_refl _
    · exact ⟨[n], rfl⟩
  | inr s => exact List.prefix_refl _
theorem addN_pre : ∀ (is : List Itm) (L : List Nat), L <+: addN L is
  | [], _ => List.prefix_refl _
  | i :: is, L => (addI_pre L i).trans (addN_pre is (addI L i))
theorem addI_nd {L : List Nat} (h : L.Nodup) (i : Itm) : (addI L i).Nodup := by
  cases i with
  | inl n =>
    show (if n ∈ L then L else L ++ [n]).Nodup
    split
    · exact h
    · rename_i z
      exact List.nodup_append.mpr ⟨h, List.nodup_cons.mpr ⟨List.not_mem_nil, List.nodup_nil⟩, fun a ha b hb e => z (by rw [List.mem_singleton.mp hb] at e; rw [← e]; exact ha)⟩
  | inr s => exact h
theorem addN_nd : ∀ (is : List Itm) {L : List Nat}, L.Nodup → (addN L is).Nodup
  | [], _, h => h
  | i :: is, L, h => addN_nd is (addI_nd h i)
theorem addI_in {L : List Nat} {i : Itm} {x : Nat} (h : x ∈ addI L i) : x ∈ L ∨ i = .inl x := by
  cases i with
  | inl n =>
    have h : x ∈ (if n ∈ L then L else L ++ [n]) := h
    split at h
    · exact .inl h
    · rcases List.mem_append.mp h with h | h
      · exact .inl h
      · rw [List.mem_singleton.mp h]; exact .inr rfl
  | inr s => exact .inl h
theorem addN_in : ∀ {is : List Itm} {L : List Nat} {x : Nat}, x ∈ addN L is → x ∈ L ∨ .inl x ∈ is
  | [], _, _, h => .inl h
  | i :: is, L, x, h => by
    rcases addN_in (is := is) (L := addI L i) h with h | h
    · rcases addI_in h with h | h
      · exact .inl h
      · rw [h]; exact .inr List.mem_cons_self
    · exact .inr (List.mem_cons_of_mem _ h)
theorem addI_mem (L : List Nat) (n : Nat) : n ∈ addI L (.inl n) := by
  show n ∈ (if n ∈ L then L else L ++ [n])
  split
  · assumption
  · simp
theorem addN_mem : ∀ {is : List Itm} {L : List Nat} {n : Nat}, .inl n ∈ is → n ∈ addN L is
  | i :: is, L, n, h => by
    rcases List.mem_cons.mp h with h | h
    · subst h
      exact (addN_pre is (addI L (.inl n))).subset (addI_mem L n)
    · exact addN_mem (is := is) (L := addI L i) h
/-- a table of n rows whose items are right -/
def TOk (n : Nat) (g : Nat → TRow) : Prop := ∀ a, a < n → ∀ b, Sum.inl b ∈ (g a).2 → b < n
theorem ordN_ok {n : Nat} {g : Nat → TRow} (T : TOk n g) {s : Nat} (hs : s < n) : ∀ k, (ordN g s k).Nodup ∧ (∀ x ∈ ordN g s k, x < n) ∧ ordN g s k ≠ [] ∧ [s] <+: ordN g s k
  | 0 => ⟨List.nodup_cons.mpr ⟨List.not_mem_nil, List.nodup_nil⟩, fun x hx => by rw [List.mem_singleton.mp hx]; exact hs, (fun z => nomatch z), List.prefix_refl _⟩
  | k + 1 => by
    obtain ⟨h1, h2, h3, h4⟩ := ordN_ok T hs k
    unfold ordN
    split
    · rename_i m hm
      refine ⟨addN_nd _ h1, fun x hx => ?_, fun z => ?_, h4.trans (addN_pre _ _)⟩
      · rcases addN_in hx with h | h
        · exact h2 x h
        · exact T m (h2 m (List.mem_of_getElem? hm)) x h
      · have := (addN_pre (g m).2 (ordN g s k)).subset
        rw [z] at this
        exact h3 (List.eq_nil_iff_forall_not_mem.mpr fun x hx => nomatch this hx)
    · exact ⟨h1, h2, h3, h4⟩
theorem nd_lt : ∀ {n : Nat} {l : List Nat}, l.Nodup → (∀ x ∈ l, x < n) → l.length ≤ n := fun {n l} h1 h2 => by
  have : ∀ (n : Nat) (l : List Nat), l.Nodup → (∀ x ∈ l, x < n) → l.length ≤ n := by
    intro n
    induction n with
    | zero =>
      intro l _ h
      cases l with
      | nil => exact Nat.le_refl _
      | cons x l => have := h x List.mem_cons_self; omega
    | succ n ih =>
      intro l h1 h2
      by_cases z : n ∈ l
      · have := ih (l.erase n) (h1.erase _) fun x hx => by
          have hm := List.mem_of_mem_erase hx
          have hne : x ≠ n := fun e => by rw [e] at hx; exact (List.Nodup.not_mem_erase h1) hx
          have := h2 x hm
          omega
        rw [List.length_erase_of_mem z] at this
        omega
      · have := ih l h1 fun x hx => by
          have hne : x ≠ n := fun e => z (by rw [← e]; exact hx)
          have := h2 x hx
          omega
        omega
  exact this n l h1 h2
theorem ordN_up {g : Nat → TRow} {s k : Nat} (h : (ordN g s k).length ≤ k) : ordN g s (k + 1) = ordN g s k := by
  show (match (ordN g s k)[k]? with
    | some n => addN (ordN g s k) (g n).2
    | none => ordN g s k) = _
  rw [List.getElem?_eq_none h]
theorem ordN_stay {g : Nat → TRow} {s k : Nat} (h : (ordN g s k).length ≤ k) : ∀ j, k ≤ j → ordN g s j = ordN g s k := by
  intro j hj
  induction j with
  | zero => rw [show k = 0 by omega]
  | succ j ih =>
    by_cases z : k = j + 1
    · rw [z]
    · have e := ih (by omega)
      rw [ordN_up (by rw [e]; omega), e]
theorem ordN_pre (g : Nat → TRow) (s : Nat) : ∀ (k j : Nat), k ≤ j → ordN g s k <+: ordN g s j := by
  intro k j h
  induction j with
  | zero => rw [show k = 0 by omega]; exact List.prefix_refl _
  | succ j ih =>
    by_cases z : k = j + 1
    · rw [z]; exact List.prefix_refl _
    · refine (ih (by omega)).trans ?_
      show _ <+: (match (ordN g s j)[j]? with
        | some n => addN (ordN g s j) (g n).2
        | none => ordN g s j)
      split
      · exact addN_pre _ _
      · exact List.prefix_refl _
/-- the table of the rows that are reached -/
def ordT (g : Nat → TRow) (s n : Nat) : List TRow := (ordN g s n).map fun a => renR (fun b => (ordN g s n).idxOf b) (g a)
theorem dp_it {K : PySem.W.Frag} {H : Hp} : ∀ y : Itm, Dp K H (itV y) (itD y)
  | .inl _ => .int _
  | .inr _ => .str _
theorem ordN_cl {g : Nat → TRow} {s k : Nat} (h : (ordN g s k).length ≤ k) : ∀ a ∈ ordN g s k, ∀ b : Nat, Sum.inl b ∈ (g a).2 → b ∈ ordN g s k := fun a ha b hb => by
  obtain ⟨i, hi⟩ := List.getElem?_of_mem ha
  have il : i < (ordN g s k).length := (List.getElem?_eq_some_iff.mp hi).1
  have i2 : i < (ordN g s i).length := by
    by_cases z : i < (ordN g s i).length
    · exact z
    · exfalso
      have := ordN_stay (g := g) (s := s) (k := i) (by omega) k (by omega)
      rw [this] at il
      exact z il
  obtain ⟨t, ht⟩ := ordN_pre g s i k (by omega)
  have e : (ordN g s i)[i]? = some a := by
    rw [← hi, ← ht, List.getElem?_append_left i2]
  have n1 : ordN g s (i + 1) = addN (ordN g s i) (g a).2 := by
    show (match (ordN g s i)[i]? with
      | some n => addN (ordN g s i) (g n).2
      | none => ordN g s i) = _
    rw [e]
  refine (ordN_pre g s (i + 1) k (by omega)).subset ?_
  rw [n1]
  exact addN_mem hb
theorem row_set {K : PySem.W.Frag} {H : Hp} {t D : Addr} {d : List V} {o : HO} {xs : List V} (h : SqT K H t xs) (e : H D = some (.lst d)) : SqT K (upd H D o) t xs := by
  rcases h with h | h
  · refine .inl ?_
    rcases h with h | ⟨ob, h⟩
    · exact .inl (by rw [upd_ne (fun z => by rw [z, e] at h; cases h)]; exact h)
    · exact .inr ⟨ob, by rw [upd_ne (fun z => by rw [z, e] at h; cases h)]; exact h⟩
  · exact .inr h
theorem rowsAt_ex {K : PySem.W.Frag} {H H' : Hp} (e : Ex H H') {ts : List Addr} {rs : List TRow} (h : RowsAt K H ts rs) : RowsAt K H' ts rs := L2.Paired.mapP h fun _ _ r => Evl.ex_t e r
theorem rowsAt_set {K : PySem.W.Frag} {H : Hp} {D : Addr} {d : List V} {o : HO} (e : H D = some (.lst d)) {ts : List Addr} {rs : List TRow} (h : RowsAt K H ts rs) : RowsAt K (upd H D o) ts rs := L2.Paired.mapP h fun _ _ r => row_set r e
theorem rowsAt_len {K : PySem.W.Frag} {H : Hp} : ∀ {ts : List Addr} {rs : List TRow}, RowsAt K H ts rs → ts.length = rs.length
  | _, _, .nil => rfl
  | _, _, .cons _ t => congrArg (· + 1) (rowsAt_len t)
theorem rowsAt_snoc {K : PySem.W.Frag} {H : Hp} {t : Addr} {r : TRow} : ∀ {ts : List Addr} {rs : List TRow}, RowsAt K H ts rs → RowAt K H t r → RowsAt K H (ts ++ [t]) (rs ++ [r])
  | _, _, .nil, h => .cons h .nil
  | _, _, .cons r t, h => .cons r (rowsAt_snoc t h)
def itK : Itm → Key
  | .inl n => .inl (n : Int)
  | .inr s => .inr s
def rowK (r : TRow) : List Key := .inl (r.1 : Int) :: r.2.map itK
def keyM (ms : List Nat) (m : Nat) (r : TRow) : List Key := .inl (m : Int) :: rowK (renR (fun b => ms.getD b 0) r)
def keysM (rs : List TRow) (ms : List Nat) : List (List Key) := (ms.zip rs).map fun p => keyM ms p.1 p.2
def clsN (rs : List TRow) : Nat → List Nat
  | 0 => rs.map (·.1)
  | k + 1 => numK (keysM rs (clsN rs k))
def ndist (ms : List Nat) : Nat := (dedK ms).length
/-- where the classes stop -/
structure StopK (rs : List TRow) (k : Nat) : Prop where
  le : ndist (clsN rs (k + 1)) ≤ ndist (clsN rs k)
  fst : ∀ i, i < k → ndist (clsN rs i) < ndist (clsN rs (i + 1))
theorem clsN_len (rs : List TRow) : ∀ k, (clsN rs k).length = rs.length
  | 0 => List.length_map ..
  | k + 1 => by
    show (numK (keysM rs (clsN rs k))).length = _
    unfold numK keysM
    rw [List.length_map, List.length_map, List.length_zip, clsN_len rs k, Nat.min_self]
section
variable {κ : Type} [DecidableEq κ]
theorem addK_nd {L : List κ} (h : L.Nodup) (k : κ) : (addK L k).Nodup := by
  unfold addK
  split
  · exact h
  · rename_i z
    exact List.nodup_append.mpr ⟨h, List.nodup_cons.mpr ⟨List.not_mem_nil, List.nodup_nil⟩, fun a ha b hb e => z (by rw [List.mem_singleton.mp hb] at e; rw [← e]; exact ha)⟩
theorem fold_nd : ∀ (ks : List κ) {L : List κ}, L.Nodup → (ks.foldl addK L).Nodup
  | [], _, h => h
  | k :: ks, L, h => fold_nd ks (addK_nd h k)
theorem addK_pre (L : List κ) (k : κ) : L <+: addK L k := by
  unfold addK
  split
  · exact List.prefix_refl _
  · exact ⟨[k], rfl⟩
theorem fold_pre : ∀ (ks L : List κ), L <+: ks.foldl addK L
  | [], _ => List.prefix_refl _
  | k :: ks, L => (addK_pre L k).trans (fold_pre ks (addK L k))
theorem addK_mem {L : List κ} {k x : κ} : x ∈ addK L k ↔ x ∈ L ∨ x = k := by
  unfold addK
  split
  · rename_i z
    exact ⟨.inl, fun h => h.elim id fun e => by rw [e]; exact z⟩
  · simp
theorem fold_mem : ∀ {ks L : List κ} {x : κ}, x ∈ ks.foldl addK L ↔ x ∈ L ∨ x ∈ ks
  | [], L, x => by simp
  | k :: ks, L, x => by
    rw [List.foldl_cons, fold_mem (ks := ks), addK_mem, List.mem_cons]
    constructor
    · rintro ((h | h) | h)
      · exact .inl h
      · exact .inr (.inl h)
      · exact .inr (.inr h)
    · rintro (h | h | h)
      · exact .inl (.inl h)
      · exact .inl (.inr h)
      · exact .inr h
theorem dedK_nd (ks : List κ) : (dedK ks).Nodup := fold_nd ks List.nodup_nil
theorem dedK_mem {ks : List κ} {x : κ} : x ∈ dedK ks ↔ x ∈ ks := by
  unfold dedK
  rw [fold_mem]
  simp
theorem dedK_snoc (ks : List κ) (k : κ) : dedK (ks ++ [k]) = addK (dedK ks) k := by
  unfold dedK
  rw [List.foldl_append] <;> rfl
theorem nodup_lenK : ∀ {l l' : List κ}, l.Nodup → (∀ x ∈ l, x ∈ l') → l.length ≤ l'.length
  | [], _, _, _ => Nat.zero_le _
  | x :: l, l', h, hs => by
    obtain ⟨h1, h2⟩ := List.nodup_cons.mp h
    have hx := hs x List.mem_cons_self
    have := nodup_lenK (l := l) (l' := l'.erase x) h2 fun y hy => (List.mem_erase_of_ne (fun z : y = x => h1 (by rw [← z]; exact hy))).mpr (hs y (List.mem_cons_of_mem _ hy))
    rw [List.length_erase_of_mem hx] at this
    have := List.length_pos_of_mem hx
    rw [List.length_cons]
    omega
theorem dedK_le (ks : List κ) : (dedK ks).length ≤ ks.length := nodup_lenK (dedK_nd ks) fun x hx => dedK_mem.mp hx
/-- the numbers so far -/
theorem num_pre {ks ms : List κ} {k : κ} (h : k ∈ dedK ks) : ixK (dedK (ks ++ ms)) k = ixK (dedK ks) k := by
  obtain ⟨t, ht⟩ : dedK ks <+: dedK (ks ++ ms) := by
    unfold dedK
    rw [List.foldl_append]
    exact fold_pre _ _
  unfold ixK
  rw [← ht, List.idxOf_append, if_pos h]
end
theorem set_len {ms : List Nat} {ks : List Int} (nd : ks.Nodup) (h : ∀ k : Int, k ∈ ks ↔ k ∈ ms.map fun n : Nat => (n : Int)) : ks.length = ndist ms := by
  have e : (dedK ms).length = ((dedK ms).map fun n : Nat => (n : Int)).length := (List.length_map ..).symm
  have nd2 : ((dedK ms).map fun n : Nat => (n : Int)).Nodup := by
    have := dedK_nd ms
    refine List.Pairwise.map _ (fun a b hab z => hab ?_) this
    omega
  have hm : ∀ x : Int, x ∈ ((dedK ms).map fun n : Nat => (n : Int)) ↔ x ∈ ms.map fun n : Nat => (n : Int) := fun x => by
    constructor
    · intro hx
      obtain ⟨n, hn, rfl⟩ := List.mem_map.mp hx
      exact List.mem_map.mpr ⟨n, dedK_mem.mp hn, rfl⟩
    · intro hx
      obtain ⟨n, hn, rfl⟩ := List.mem_map.mp hx
      exact List.mem_map.mpr ⟨n, dedK_mem.mpr hn, rfl⟩
  have a := nodup_lenK nd fun x hx => (hm x).mpr ((h x).mp hx)
  have b := nodup_lenK nd2 fun x hx => (h x).mpr ((hm x).mp hx)
  unfold ndist
  omega
end Fc
set_option maxRecDepth 100000
set_option maxHeartbeats 4000000
namespace Fc
open PySem PySem.Spec PyProof.Rows L2 FcR
open Evl (Ex)
theorem map_modify_same {α β : Type} (f : α → β) (g : α → α) (h : ∀ x, f (g x) = f x) (l : List α) (i : Nat) : (l.modify i g).map f = l.map f := by
  apply List.ext_getElem?
  intro j
  rw [List.getElem?_map, List.getElem?_map, List.getElem?_modify]
  cases l[j]? with
  | none => rfl
  | some x => by_cases e : i = j <;> simp [e, h]
def noteCh (n : Nat) (r : Row) : Row := { r with ch := r.ch ++ [n] }
theorem addCh_eq (rows : List Row) (i n : Nat) : addCh rows i n = rows.modify i (noteCh n) := rfl
theorem addCh_len (rows : List Row) (i n : Nat) : (addCh rows i n).length = rows.length := by simp [addCh]
theorem addCh_map {β : Type} (f : Row → β) (rows : List Row) (i n : Nat) (h : ∀ r, f (noteCh n r) = f r) : (addCh rows i n).map f = rows.map f := map_modify_same f (noteCh n) h rows i
theorem addCh_ch (rows : List Row) (i n : Nat) (r : Row) (h : rows[i]? = some r) : (addCh rows i n).map (fun r => intsV r.ch) = (rows.map fun r => intsV r.ch).set i (intsV r.ch ++ [.int (n : Int)]) := by
  apply List.ext_getElem?
  intro j
  rw [addCh_eq, List.getElem?_map, List.getElem?_modify, List.getElem?_set, List.getElem?_map]
  have li : i < rows.length := (List.getElem?_eq_some_iff.mp h).1
  by_cases e : i = j
  · subst e
    rw [h]
    simp [noteCh, intsV, li]
  · cases rows[j]? <;> simp [e]
def stepRows (rows : List Row) (par : Option Nat) : List Row := match par with
  | none => rows
  | some i => addCh rows i rows.length
theorem stepRows_len (rows : List Row) (par : Option Nat) : (stepRows rows par).length = rows.length := by
  cases par with
  | none => rfl
  | some i => exact addCh_len _ _ _
def sp_Code_keep (K : PySem.W.Frag) : Sp := fun vs H Q _ => ∃ (F : Hp) (A : CAd) (rows : List Row) (v : V) (d : PyData) (loops : Int) (par : Option Nat), vs = [.ref A.p, v, parV par] ∧ Ex F H ∧ CodeH K F H A rows ∧ (∀ b ∈ A.all, F b = none) ∧ Dp K F v d ∧ isStm d loops = true ∧
  rows.length < 1000 ∧ (∀ i, par = some i → ∃ r, rows[i]? = some r ∧ r.ch.length < 1000) ∧
  ∀ c H', H c = none → CodeH K F H' { A with cs := A.cs ++ [c] } (addRow rows d par) → (∀ b o, H b = some o → b ∉ A.all → H' b = some o) → Q .non H'
theorem stm_lab {k : Str} {r : List PyData} {loops : Int} (h : isStm (.tuple (.str k :: r)) loops = true) (hk : k ∈ kLab) : (∃ x r', r = .str x :: r') ∨ ∃ n r', r = .int n :: r' := by
  obtain ⟨k', r', n, e, e1, hn, hs⟩ := isStm_shape h
  cases e
  rcases List.mem_append.mp hk with hk | hk
  · rw [if_pos hk] at hs
    cases r with
    | nil => cases hs
    | cons d r' => cases d with
      | str x => exact .inl ⟨x, r', rfl⟩
      | _ => cases hs
  · by_cases h2 : k ∈ kNamed
    · rw [if_pos h2] at hs
      cases r with
      | nil => cases hs
      | cons d r' => cases d with
        | str x => exact .inl ⟨x, r', rfl⟩
        | _ => cases hs
    · rw [if_neg h2, if_pos hk] at hs
      cases r with
      | nil => cases hs
      | cons d r' => cases d with
        | int x => exact .inr ⟨x, r', rfl⟩
        | _ => cases hs
theorem in_all1 (A : CAd) : A.a1 ∈ A.all := by simp [CAd.all]
theorem in_all2 (A : CAd) : A.a2 ∈ A.all := by simp [CAd.all]
theorem in_all3 (A : CAd) : A.a3 ∈ A.all := by simp [CAd.all]
theorem in_all4 (A : CAd) : A.a4 ∈ A.all := by simp [CAd.all]
theorem in_all5 (A : CAd) : A.a5 ∈ A.all := by simp [CAd.all]
theorem in_allc {A : CAd} {c : Addr} (h : c ∈ A.cs) : c ∈ A.all := by simp [CAd.all, h]
section
variable {P : Program} {w : World} {h : Heap} {K : PySem.W.Frag} {mg : Str → Option Value} {base : Heap}
abbrev N_Code_keep : List Str := ["self", "statement", "parent"]
theorem sc_Code_keep : FnScope N_Code_keep ["self", "statement", "parent"] (defScope sd_Code_keep) := ⟨rfl, rfl, rfl, by decide +kernel, rfl, by decide +kernel, by decide +kernel⟩
theorem ok_Code_keep (T : Tx w h K mg) : Ok P w K mg base 1 ("Code", some "keep") ["self", "statement", "parent"] (sp_Code_keep K) := by
  obtain ⟨fd, F⟩ := F_Code_keep T
  refine ⟨fd, ?_, F.bindsN (fun _ _ _ _ _ _ us hl => match us, hl with | [_, _, _], _ => rfl), F.kp⟩
  refine F.ok sc_Code_keep (fun vs H Q E h => ?_) (fun cdv A outer s H vs Q E hr h => ?_)
  · obtain ⟨F0, A, rows, v, d, loops, par, rfl, xF, ⟨L1, C, dL⟩, nw, hd, hs, hl, hpar, q⟩ := h
    rfl
  · obtain ⟨F0, A, rows, v, d, loops, par, rfl, xF, ⟨L1, C, dL⟩, nw, hd, hs, hl, hpar, q⟩ := h
    refine ⟨_, PSs.nox (Evl.pss_cut (ps_if (pt_cmpR op_notN (pv 2) pe_non (nomark _)) (pss_one (ps_expr (pe_bm PySem.F.plainAttrs_list PySem.F.slot_list_append PySem.F.type_list_append mt_append (pe_ix ix_list (pe_fld (pv 0) rfl) (pv 2) (fun _ _ => rfl)) (pa_cons (pe_callB call_len_seq rfl (fr_len T) b_len (pa_cons (pe_fld (pv 0) rfl) pa_nil)) pa_nil)))) pss_nil) (pss_cons (ps_expr (pe_bm PySem.F.plainAttrs_list PySem.F.slot_list_append PySem.F.type_list_append mt_append (pe_fld (pv 0) rfl) (pa_cons (pv 1) pa_nil))) (pss_cons (ps_expr (pe_bm PySem.F.plainAttrs_list PySem.F.slot_list_append PySem.F.type_list_append mt_append (pe_fld (pv 0) rfl) (pa_cons (pe_ix ix_tup (pv 1) pe_int (fun _ _ => rfl)) pa_nil))) (Evl.pss_cut (ps_expr (pe_bm PySem.F.plainAttrs_list PySem.F.slot_list_append PySem.F.type_list_append mt_append (pe_fld (pv 0) rfl) (pa_cons (pe_ifExp (pt_cmpR op_in_seq (pe_ix ix_tup (pv 1) pe_int (fun _ _ => rfl)) (pe_op op_catT (pe_glob (v := .ref (He.ga K "NAMED")) rfl (g_NAMED T) rfl) (pe_glob (v := .ref (He.ga K "JUMPS")) rfl (g_JUMPS T) rfl)) (by rfl)) (pe_ix ix_tup (pv 1) pe_int (fun _ _ => rfl)) pe_non) pa_nil))) (pss_cons (ps_expr (pe_bm PySem.F.plainAttrs_list PySem.F.slot_list_append PySem.F.type_list_append mt_append (pe_fld (pv 0) rfl) (pa_cons (pv 2) pa_nil))) (pss_one (ps_expr (pe_bm PySem.F.plainAttrs_list PySem.F.slot_list_append PySem.F.type_list_append mt_append (pe_fld (pv 0) rfl) (pa_cons (pe_lst pa_nil) pa_nil))))))))), ?_⟩
    obtain ⟨k, r, n, rfl, _, _, _⟩ := isStm_shape hs
    obtain ⟨a, xs, rfl, hS, hA⟩ := dp_tup hd
    cases hA with
    | @cons v0 xr _ _ h0 hA =>
    obtain rfl := dp_str h0
    -- the parent's list of parts
    refine ⟨fun σ' H' => σ' = L2.start N_Code_keep [.ref A.p, .ref a, parV par] ∧ CL K H' A L1 (rows.map fun r => V.str (kindD r.d)) (rows.map fun r => labD r.d) (rows.map fun r => parV r.par) ((stepRows rows par).map fun r => intsV r.ch) ∧ Ex F0 H' ∧ (∀ b o, H b = some o → b ∉ A.all → H' b = some o) ∧ (∀ b, H' b = none → H b = none), ?_, ?_⟩
    · refine ⟨_, rfl, rfl, _, rfl, ite_of (fun h1 => ?_) (fun h1 => ?_)⟩
      · cases par with
        | none => cases h1
        | some i =>
        obtain ⟨ri, e1, e2⟩ := hpar i rfl
        have li : i < A.cs.length := by rw [C.cl, List.length_map]; exact (List.getElem?_eq_some_iff.mp e1).1
        have hci : A.cs[i]? = some A.cs[i] := List.getElem?_eq_getElem li
        have hcm : A.cs[i] ∈ A.cs := List.getElem_mem li
        have hcc := C.cc i _ _ hci (show (rows.map fun r => intsV r.ch)[i]? = some (intsV ri.ch) from by rw [List.getElem?_map, e1] <;> rfl)
        refine ⟨_, rfl, A.p, _, _, _, _, rfl, C.ob, c_Code T, na_Code_children T, fl_Code_children _ _ _ _ _, _, rfl, A.a5, _, _, .ref A.cs[i], rfl, rfl, Evl.sq_of C.h5, atI_nat (by rw [List.getElem?_map, hci] <;> rfl), Or.inl ⟨rfl, _, Evl.sq_of hcc⟩, ?_⟩
        refine ⟨_, rfl, A.p, _, _, _, _, rfl, C.ob, c_Code T, na_Code_kinds T, fl_Code_kinds _ _ _ _ _, A.a2, _, rfl, .inl (Evl.sq_of C.h2), A.cs[i], _, _, rfl, rfl, hcc, szl (by rw [intsV, List.length_map]; omega), ?_⟩
        refine ⟨rfl, ?_, exm xF (nw _ (in_allc hcm)), fun b o e hb => by rw [upd_ne (fun z => hb (by rw [z]; exact in_allc hcm))]; exact e, fun b e => ?_⟩
        · have y := C.child hci (intsV ri.ch ++ [.int ((rows.map fun r => V.str (kindD r.d)).length : Int)])
          have e3 : (stepRows rows (some i)).map (fun r => intsV r.ch) = (rows.map fun r => intsV r.ch).set i (intsV ri.ch ++ [.int ((rows.map fun r => V.str (kindD r.d)).length : Int)]) := by
            rw [List.length_map]
            exact addCh_ch rows i rows.length ri e1
          rw [e3]
          exact y
        · by_cases z : b = A.cs[i]
          · rw [z, upd_same] at e
            cases e
          · rw [upd_ne z] at e
            exact e
      · cases par with
        | some i => cases h1
        | none => exact ⟨rfl, C, xF, fun b o e _ => e, fun b e => e⟩
    rintro σ' H1 ⟨rfl, C1, xF1, kp1, fr1⟩
    have es : (stepRows rows par).map (fun r => V.str (kindD r.d)) = rows.map (fun r => V.str (kindD r.d)) := by cases par with
      | none => rfl
      | some i => exact addCh_map _ rows i _ fun _ => rfl
    have el : (stepRows rows par).map (fun r => labD r.d) = rows.map (fun r => labD r.d) := by cases par with
      | none => rfl
      | some i => exact addCh_map _ rows i _ fun _ => rfl
    have ep : (stepRows rows par).map (fun r => parV r.par) = rows.map (fun r => parV r.par) := by cases par with
      | none => rfl
      | some i => exact addCh_map _ rows i _ fun _ => rfl
    have ed : (stepRows rows par).map Row.d = rows.map Row.d := by cases par with
      | none => rfl
      | some i => exact addCh_map _ rows i _ fun _ => rfl
    have l1 : L1.length = rows.length := by rw [dpA_len dL, List.length_map]
    -- self.statements.append(statement)
    refine ⟨_, rfl, A.p, _, _, _, _, rfl, C1.ob, c_Code T, na_Code_statements T, fl_Code_statements _ _ _ _ _, Or.inl ⟨rfl, _, Evl.sq_of C1.h1⟩, _, rfl, A.a1, _, _, rfl, rfl, C1.h1, szl (by omega), ?_⟩
    have C2 := C1.s1 (L1 ++ [.ref a])
    have xF2 := exm (o := .lst (L1 ++ [.ref a])) xF1 (nw _ (in_all1 A))
    -- self.kinds.append(statement[0])
    refine ⟨_, rfl, A.p, _, _, _, _, rfl, C2.ob, c_Code T, na_Code_kinds T, fl_Code_kinds _ _ _ _ _, Or.inl ⟨rfl, _, Evl.sq_of C2.h2⟩, _, rfl, a, _, _, _, rfl, rfl, Evl.ex_t xF2 hS, at0, A.a2, _, _, rfl, rfl, C2.h2, szl (by rw [List.length_map]; omega), ?_⟩
    have C3 := C2.s2 (rows.map (fun r => V.str (kindD r.d)) ++ [.str k])
    have xF3 := exm (o := .lst (rows.map (fun r => V.str (kindD r.d)) ++ [.str k])) xF2 (nw _ (in_all2 A))
    -- self.labels.append(..)
    refine ⟨fun σ' H' => σ' = L2.start N_Code_keep [.ref A.p, .ref a, parV par] ∧ CL K H' A (L1 ++ [.ref a]) (rows.map (fun r => V.str (kindD r.d)) ++ [.str k]) (rows.map (fun r => labD r.d) ++ [labD (.tuple (.str k :: r))]) (rows.map fun r => parV r.par) ((stepRows rows par).map fun r => intsV r.ch) ∧ Ex F0 H' ∧ (∀ b o, H b = some o → b ∉ A.all → H' b = some o) ∧ (∀ b, H' b = none → H b = none), ?_, ?_⟩
    · refine ⟨_, rfl, A.p, _, _, _, _, rfl, C3.ob, c_Code T, na_Code_labels T, fl_Code_labels _ _ _ _ _, Or.inl ⟨rfl, _, Evl.sq_of C3.h3⟩, _, rfl, a, _, _, _, rfl, rfl, Evl.ex_t xF3 hS, at0, He.ga K "NAMED", He.ga K "JUMPS", _, _, rfl, rfl, t_NAMED T _, t_JUMPS T _, (by simp), sz (by decide), (fun z => by cases z), fun _ p0 hp0 => ?_⟩
      have C4 := C3.off (o := .tup (kLab.map V.str)) (C3.fresh hp0)
      have xF4 : Ex F0 _ := exu (o := .tup (kLab.map V.str)) xF3 hp0
      have fin : ∀ (o1 o2 o4 : HO) (H5 : Hp), H5 = upd (upd (upd (upd H1 A.a1 o1) A.a2 o2) p0 (.tup (kLab.map V.str))) A.a3 o4 → (∀ b o, H b = some o → b ∉ A.all → H5 b = some o) ∧ (∀ b, H5 b = none → H b = none) := by
        intro o1 o2 o4 H5 e5
        subst e5
        have back : ∀ {Hx : Hp} {q b : Addr} {o : HO}, upd Hx q o b = none → Hx b = none := fun {Hx q b o} e => by
          by_cases z : b = q
          · rw [z, upd_same] at e; cases e
          · rw [upd_ne z] at e; exact e
        refine ⟨fun b o e hb => ?_, fun b e => fr1 b (back (back (back (back e))))⟩
        have e1 := kp1 b o e hb
        have np : b ≠ p0 := fun z => by
          have y : H1 p0 = none := by
            have y1 := back (back hp0)
            exact y1
          rw [z, y] at e1
          cases e1
        rw [upd_ne (fun z => hb (by rw [z]; exact in_all3 A)), upd_ne np, upd_ne (fun z => hb (by rw [z]; exact in_all2 A)), upd_ne (fun z => hb (by rw [z]; exact in_all1 A))]
        exact e1
      have tail : ∀ u, u = labD (.tuple (.str k :: r)) → rAppend (.ref A.a3) [u] (upd (upd (upd H1 A.a1 (.lst (L1 ++ [.ref a]))) A.a2 (.lst (rows.map (fun r => V.str (kindD r.d)) ++ [.str k]))) p0 (.tup (kLab.map V.str))) (fun _ H' => L2.start N_Code_keep [.ref A.p, .ref a, parV par] = L2.start N_Code_keep [.ref A.p, .ref a, parV par] ∧ CL K H' A (L1 ++ [.ref a]) (rows.map (fun r => V.str (kindD r.d)) ++ [.str k]) (rows.map (fun r => labD r.d) ++ [labD (.tuple (.str k :: r))]) (rows.map fun r => parV r.par) ((stepRows rows par).map fun r => intsV r.ch) ∧ Ex F0 H' ∧ (∀ b o, H b = some o → b ∉ A.all → H' b = some o) ∧ (∀ b, H' b = none → H b = none)) := by
        rintro u rfl
        obtain ⟨f1, f2⟩ := fin (.lst (L1 ++ [.ref a])) (.lst (rows.map (fun r => V.str (kindD r.d)) ++ [.str k])) (.lst (rows.map (fun r => labD r.d) ++ [labD (.tuple (.str k :: r))])) _ rfl
        exact ⟨A.a3, _, _, rfl, rfl, C4.h3, szl (by rw [List.length_map]; omega), rfl, C4.s3 _, exm xF4 (nw _ (in_all3 A)), f1, f2⟩
      refine ⟨p0, kLab.map V.str, rfl, .inr (Evl.st_of upd_same), rfl, flat_strs kLab, _, rfl, ite_of (fun h2 => ?_) (fun h2 => ?_)⟩
      · have h2 : inV (.str k) (kLab.map V.str) = true := h2
        rw [inV_strs] at h2
        have hm := of_decide_eq_true h2
        rcases stm_lab hs hm with ⟨x, r', rfl⟩ | ⟨x, r', rfl⟩
        · cases hA with
          | @cons v1 xr' _ _ g1 hA =>
          obtain rfl := dp_str g1
          refine ⟨_, rfl, a, _, _, _, rfl, rfl, Evl.ex_t xF4 hS, at1, tail _ ?_⟩
          simp only [labD, if_pos hm]
        · cases hA with
          | @cons v1 xr' _ _ g1 hA =>
          obtain rfl := dp_int g1
          refine ⟨_, rfl, a, _, _, _, rfl, rfl, Evl.ex_t xF4 hS, at1, tail _ ?_⟩
          simp only [labD, if_pos hm]
      · have h2 : inV (.str k) (kLab.map V.str) = false := h2
        rw [inV_strs] at h2
        have hm : ¬ k ∈ kLab := of_decide_eq_false h2
        refine tail _ ?_
        simp only [labD, if_neg hm]
    rintro σ' H5 ⟨rfl, C5, xF5, kp5, fr5⟩
    -- self.parents.append(parent)
    refine ⟨_, rfl, A.p, _, _, _, _, rfl, C5.ob, c_Code T, na_Code_parents T, fl_Code_parents _ _ _ _ _, Or.inl ⟨rfl, _, Evl.sq_of C5.h4⟩, _, rfl, A.a4, _, _, rfl, rfl, C5.h4, szl (by rw [List.length_map]; omega), ?_⟩
    have C6 := C5.s4 (rows.map (fun r => parV r.par) ++ [parV par])
    -- self.children.append([])
    refine ⟨_, rfl, A.p, _, _, _, _, rfl, C6.ob, c_Code T, na_Code_children T, fl_Code_children _ _ _ _ _, Or.inl ⟨rfl, _, Evl.sq_of C6.h5⟩, sz (by decide), fun c hc => ?_⟩
    have nc5 : A.a5 ≠ c := fun z => C6.fresh hc (by rw [← z]; exact in_all5 A)
    refine ⟨A.a5, _, _, rfl, rfl, by rw [upd_ne nc5]; exact C6.h5, szl (by rw [List.length_map, C6.cl, List.length_map, stepRows_len]; omega), ?_⟩
    have C7 := C6.push hc
    have nc4 : c ≠ A.a4 := fun z => C6.fresh hc (by rw [z]; exact in_all4 A)
    have hcH : H c = none := fr5 c (by rw [upd_ne nc4] at hc; exact hc)
    have ea : addRow rows (.tuple (.str k :: r)) par = stepRows rows par ++ [⟨.tuple (.str k :: r), par, []⟩] := by cases par <;> rfl
    refine q c _ hcH ⟨L1 ++ [.ref a], ?_, ?_⟩ fun b o e hb => ?_
    · rw [ea, List.map_append, List.map_append, List.map_append, List.map_append, es, el, ep]
      exact C7
    · rw [ea, List.map_append, ed]
      exact dpA_app dL (.cons hd .nil)
    · have e5 := kp5 b o e hb
      have ncb : b ≠ c := fun z => by rw [z, hcH] at e; cases e
      rw [upd_ne (fun z => hb (by rw [z]; exact in_all5 A)), upd_ne ncb, upd_ne (fun z => hb (by rw [z]; exact in_all4 A))]
      exact e5
end
end Fc
set_option maxRecDepth 100000
set_option maxHeartbeats 4000000
namespace Fc
open PySem PySem.Spec PyProof.Rows L2 FcR
open Evl (Ex)
structure WIt where
  d : PyData
  par : Option Nat
  deep : Nat
  loops : Nat
  blocks : Nat
def okIt (it : WIt) (n : Nat) : Prop := n < 400 ∧ it.deep ≤ 100 ∧ it.blocks ≤ 25 ∧ isStm it.d (it.loops : Int) = true
def newIt (it : WIt) (n : Nat) (at_ : Nat) (part : PyData) : WIt :=
  ⟨part, some n, it.deep + 1, it.loops + (if kindD it.d = "while" then 1 else 0), it.blocks + (if kindD it.d = "final" ∧ at_ = 1 then 1 else 0)⟩
def newIts (it : WIt) (n : Nat) : List WIt := (partsD it.d).mapIdx fun i p => newIt it n i p
inductive Builds : Nat → List WIt → List Row → List Row → Prop
  | done (rows : List Row) : Builds 0 [] rows rows
  | step {n : Nat} {it : WIt} {st : List WIt} {rows fin : List Row} (ok : okIt it rows.length) (h : Builds n (newIts it rows.length ++ st) (addRow rows it.d it.par) fin) : Builds (n + 1) (it :: st) rows fin
theorem Builds.len {m : Nat} {st : List WIt} {rows fin : List Row} (b : Builds m st rows fin) : st.length ≤ m := by
  induction b with
  | done => exact Nat.le_refl _
  | step ok h ih =>
    rw [List.length_append] at ih
    rw [List.length_cons]
    omega
def wV (v : V) (it : WIt) : List V := [v, parV it.par, .int (it.deep : Int), .int (it.loops : Int), .int (it.blocks : Int)]
def parD : Option Nat → PyData
  | none => .none
  | some i => .int (i : Int)
def wD (it : WIt) : PyData := .tuple [it.d, parD it.par, .int (it.deep : Int), .int (it.loops : Int), .int (it.blocks : Int)]
/-- tuples at ts, the items st -/
inductive WAt (K : PySem.W.Frag) (F : Hp) : List Addr → List WIt → Prop
  | nil : WAt K F [] []
  | cons {t : Addr} {ts : List Addr} {it : WIt} {st : List WIt} {v : V} (h : F t = some (.tup (wV v it))) (hd : Dp K F v it.d) (r : WAt K F ts st) : WAt K F (t :: ts) (it :: st)
theorem WAt.ex {K : PySem.W.Frag} {F F' : Hp} (e : Ex F F') : ∀ {ts : List Addr} {st : List WIt}, WAt K F ts st → WAt K F' ts st
  | _, _, .nil => .nil
  | _, _, .cons h hd r => .cons (e _ _ h) (dp_ex e hd) (WAt.ex e r)
theorem WAt.len {K : PySem.W.Frag} {F : Hp} : ∀ {ts : List Addr} {st : List WIt}, WAt K F ts st → ts.length = st.length
  | _, _, .nil => rfl
  | _, _, .cons _ _ r => congrArg Nat.succ (WAt.len r)
theorem dp_par {K : PySem.W.Frag} {F : Hp} (o : Option Nat) : Dp K F (parV o) (parD o) := by
  cases o with
  | none => exact .non
  | some i => exact .int _
theorem WAt.dp {K : PySem.W.Frag} {F : Hp} : ∀ {ts : List Addr} {st : List WIt}, WAt K F ts st → DpAll K F (ts.map V.ref) (st.map wD)
  | _, _, .nil => .nil
  | _, _, .cons h hd r => .cons (.tup (Evl.st_of h) (.cons hd (.cons (dp_par _) (.cons (.int _) (.cons (.int _) (.cons (.int _) .nil)))))) (WAt.dp r)
theorem dpA_rev {K : PySem.W.Frag} {F : Hp} : ∀ {ds : List PyData} {vs : List V}, DpAll K F vs ds → DpAll K F vs.reverse ds.reverse
  | _, _, .nil => .nil
  | _, _, .cons h a => by
    rw [List.reverse_cons, List.reverse_cons]
    exact dpA_app (dpA_rev a) (.cons h .nil)
theorem canAll {l : List PyData} (h : ∀ d ∈ l, PyData.canLay0 d = true) : PyData.canLayAll0 l = true := by
  induction l with
  | nil => rfl
  | cons a l ih =>
    show (PyData.canLay0 a && PyData.canLayAll0 l) = true
    rw [h a List.mem_cons_self, ih fun d hd => h d (List.mem_cons_of_mem _ hd)] <;> rfl
theorem can_wD {it : WIt} (h : PyData.canLay0 it.d = true) : PyData.canLay0 (wD it) = true := by
  show (PyData.canLay0 it.d && (PyData.canLay0 (parD it.par) && (PyData.canLay0 (.int _) && (PyData.canLay0 (.int _) && (PyData.canLay0 (.int _) && PyData.canLayAll0 []))))) = true
  rw [h]
  cases it.par <;> rfl
theorem eqv_lnil (ds : List PyData) : PyData.eqv (.list ds) (.list []) = ds.isEmpty := by
  cases ds <;> simp [PyData.eqv, PyData.eqvAll]
theorem min_lnil (d : PyData) : min d.depth (PyData.list []).depth ≤ 200 := Nat.le_trans (Nat.min_le_right _ _) (by decide)
def sp_Code___init__ (K : PySem.W.Frag) : Sp := fun vs H Q _ => ∃ (F : Hp) (p dx : Addr) (v : V) (d : PyData) (G : PyData → Prop) (N : Nat) (fin : List Row), vs = [.ref p, v] ∧ H p = some (.ins (He.ga K "Code") dx []) ∧ Ex F H ∧ F p = none ∧ Dp K F v d ∧
  (∀ e, G e → PyData.canLay0 e = true ∧ szD e ∧ ∀ x ∈ partsD e, G x) ∧ G d ∧ Builds N [⟨d, none, 1, 0, 0⟩] [] fin ∧
  ∀ A F' H', A.p = p → Gr (fun b => b = p) F H F' H' → CodeH K F' F' A fin → Q .non H'
theorem nn_of {H : Hp} {a b : Addr} {o : HO} (h : H a = none) (h' : H b = some o) : b ≠ a := ne_of_none h' h
theorem up_none {H : Hp} {a b : Addr} {o : HO} (h : upd H a o b = none) : b ≠ a ∧ H b = none := by
  by_cases z : b = a
  · rw [z, upd_same] at h; cases h
  · rw [upd_ne z] at h; exact ⟨z, h⟩
/-- between two turns of the loop -/
structure InW (K : PySem.W.Frag) (F0 H : Hp) (p wq : Addr) (Gd : PyData → Prop) (st : List WIt) (rows : List Row) (A : CAd) (ts : List Addr) (F' H' : Hp) : Prop where
  ap : A.p = p
  code : CodeH K F' H' A rows
  na : ∀ b ∈ A.all, F' b = none
  wa : wq ∉ A.all
  fw : F' wq = none
  wl : H' wq = some (.lst (ts.map V.ref).reverse)
  wi : WAt K F' ts st
  ff : Ex F0 F'
  fh : Ex F' H'
  nw : ∀ b, H b ≠ none → F0 b = none → F' b = none
  kp : ∀ b o, H b = some o → b ≠ p → H' b = some o
  nh : ∀ b ∈ A.all, b = p ∨ H b = none
  hw : H wq = none
  it : ∀ i ∈ st, Gd i.d ∧ ∀ j, i.par = some j → j < rows.length
  ch : ∀ r ∈ rows, r.ch.length ≤ rows.length
theorem InW.fresh {K : PySem.W.Frag} {F0 H F' H' : Hp} {p wq : Addr} {Gd : PyData → Prop} {st : List WIt} {rows : List Row} {A : CAd} {ts : List Addr} (x : InW K F0 H p wq Gd st rows A ts F' H') {c : Addr} (h : H' c = none) : H c = none ∧ F' c = none ∧ c ∉ A.all ∧ c ≠ wq := by
  obtain ⟨vs, C, _⟩ := x.code
  have n : c ∉ A.all := C.fresh h
  have np : c ≠ p := fun z => n (by rw [z, ← x.ap]; simp [CAd.all])
  refine ⟨?_, ?_, n, fun z => by rw [z, x.wl] at h; cases h⟩
  · cases e : H c with
    | none => rfl
    | some o => rw [x.kp c o e np] at h; cases h
  · cases e : F' c with
    | none => rfl
    | some o => rw [x.fh c o e] at h; cases h
section
variable {K : PySem.W.Frag} {F0 H F' H' F2 H2 : Hp} {p wq : Addr} {Gd : PyData → Prop} {st : List WIt} {rows : List Row} {A : CAd} {ts : List Addr}
theorem CodeH.ex {F F2 H H2 : Hp} (c : CodeH K F H A rows) (e1 : Ex F F2) (e2 : Ex H H2) : CodeH K F2 H2 A rows := by
  obtain ⟨vs, C, dL⟩ := c
  exact ⟨vs, C.ex e2, dpA_ex e1 dL⟩
theorem InW.tr (x : InW K F0 H p wq Gd st rows A ts F' H') {b : Addr} (hb : b ∈ A.all) : H' b ≠ none := fun z => by
  obtain ⟨vs, C, _⟩ := x.code
  exact C.fresh z hb
theorem InW.there (x : InW K F0 H p wq Gd st rows A ts F' H') {b : Addr} (hb : H b ≠ none) : H' b ≠ none := by
  by_cases z : b = p
  · exact x.tr (by rw [z, ← x.ap]; simp [CAd.all])
  · intro y
    cases e : H b with
    | none => exact hb e
    | some o => rw [x.kp b o e z] at y; cases y
theorem InW.ext (x : InW K F0 H p wq Gd st rows A ts F' H') (e1 : Ex F' F2) (e2 : Ex F2 H2) (e3 : Ex H' H2) (e4 : ∀ b, H' b ≠ none → F' b = none → F2 b = none) : InW K F0 H p wq Gd st rows A ts F2 H2 :=
  ⟨x.ap, x.code.ex e1 e3, fun b hb => e4 b (x.tr hb) (x.na b hb), x.wa, e4 wq (by rw [x.wl]; exact fun z => nomatch z) x.fw, e3 _ _ x.wl, x.wi.ex e1, x.ff.trans e1, e2, fun b h1 h2 => e4 b (x.there h1) (x.nw b h1 h2), fun b o e hb => e3 b o (x.kp b o e hb), x.nh, x.hw, x.it, x.ch⟩
theorem InW.new (x : InW K F0 H p wq Gd st rows A ts F' H') {q : Addr} {o : HO} (h : H' q = none) : InW K F0 H p wq Gd st rows A ts F' (upd H' q o) :=
  x.ext (Evl.Ex.refl _) (exu x.fh h) (exu (Evl.Ex.refl _) h) fun _ _ e => e
theorem InW.pop {it : WIt} {t : Addr} (x : InW K F0 H p wq Gd (it :: st) rows A (t :: ts) F' H') : InW K F0 H p wq Gd st rows A ts F' (upd H' wq (.lst (ts.map V.ref).reverse)) := by
  obtain ⟨vs, C, dL⟩ := x.code
  refine ⟨x.ap, ⟨vs, C.off x.wa, dL⟩, x.na, x.wa, x.fw, upd_same, ?_, x.ff, exm x.fh x.fw, x.nw, fun b o e hb => ?_, x.nh, x.hw, fun i hi => x.it i (List.mem_cons_of_mem _ hi), x.ch⟩
  · cases x.wi with
    | cons _ _ r => exact r
  · rw [upd_ne (nn_of x.hw e)]
    exact x.kp b o e hb
theorem addRow_len (rows : List Row) (d : PyData) (par : Option Nat) : (addRow rows d par).length = rows.length + 1 := by
  cases par with
  | none => simp [addRow]
  | some i => simp [addRow, addCh]
theorem Builds.bd {m : Nat} {st : List WIt} {rows fin : List Row} (b : Builds m st rows fin) : m = 0 ∨ rows.length + m ≤ 400 := by
  induction b with
  | done => exact .inl rfl
  | step ok h ih =>
    rw [addRow_len] at ih
    have := ok.1
    omega
theorem addRow_ch {rows : List Row} {d : PyData} {par : Option Nat} (h : ∀ r ∈ rows, r.ch.length ≤ rows.length) : ∀ r ∈ addRow rows d par, r.ch.length ≤ (addRow rows d par).length := by
  rw [addRow_len]
  intro r hr
  rcases List.mem_append.mp hr with hr | hr
  · cases par with
    | none =>
      have := h r hr
      omega
    | some i =>
      have hr : r ∈ addCh rows i rows.length := hr
      obtain ⟨j, hj⟩ := List.mem_iff_getElem?.mp hr
      rw [addCh_eq, List.getElem?_modify] at hj
      cases e : rows[j]? with
      | none => rw [e] at hj; simp at hj
      | some r0 =>
        rw [e] at hj
        have h0 := h r0 (List.mem_of_getElem? e)
        by_cases z : i = j
        · simp [z] at hj
          rw [← hj]
          simp [noteCh]
          omega
        · simp [z] at hj
          rw [← hj]
          omega
  · rw [List.mem_singleton.mp hr]
    simp
theorem InW.kept (x : InW K F0 H p wq Gd st rows A ts F' H') {c : Addr} {d : PyData} {par : Option Nat} (hc : H' c = none) (cd : CodeH K F' H2 { A with cs := A.cs ++ [c] } (addRow rows d par)) (kp : ∀ b o, H' b = some o → b ∉ A.all → H2 b = some o) :
    InW K F0 H p wq Gd st (addRow rows d par) { A with cs := A.cs ++ [c] } ts F' H2 := by
  obtain ⟨f1, f2, f3, f4⟩ := x.fresh hc
  have mem : ∀ b, b ∈ ({ A with cs := A.cs ++ [c] } : CAd).all → b ∈ A.all ∨ b = c := fun b hb => by
    simp only [CAd.all, List.mem_cons, List.mem_append, List.not_mem_nil, or_false] at hb ⊢
    rcases hb with h | h | h | h | h | h | h | h <;> simp [h]
  refine ⟨x.ap, cd, fun b hb => ?_, fun hb => ?_, x.fw, kp _ _ x.wl x.wa, x.wi, x.ff, fun b o e => kp b o (x.fh b o e) (fun z => by rw [x.na b z] at e; cases e), x.nw, fun b o e hb => ?_, fun b hb => ?_, x.hw, fun i hi => ⟨(x.it i hi).1, fun j e => ?_⟩, addRow_ch x.ch⟩
  · rcases mem b hb with h | h
    · exact x.na b h
    · rw [h]; exact f2
  · rcases mem wq hb with h | h
    · exact x.wa h
    · exact f4 h.symm
  · refine kp b o (x.kp b o e hb) fun z => ?_
    rcases x.nh b z with y | y
    · exact hb y
    · rw [y] at e; cases e
  · rcases mem b hb with h | h
    · exact x.nh b h
    · rw [h]; exact .inr f1
  · rw [addRow_len]
    have := (x.it i hi).2 j e
    omega
theorem InW.push {it : WIt} {t : Addr} {v : V} (x : InW K F0 H p wq Gd st rows A ts F' H') (ht : H' t = none) (hd : Dp K F' v it.d) (hit : Gd it.d ∧ ∀ j, it.par = some j → j < rows.length) :
    InW K F0 H p wq Gd (it :: st) rows A (t :: ts) (upd F' t (.tup (wV v it))) (upd (upd H' t (.tup (wV v it))) wq (.lst (((t :: ts).map V.ref).reverse))) := by
  obtain ⟨f1, f2, f3, f4⟩ := x.fresh ht
  have x1 := x.ext (F2 := upd F' t (.tup (wV v it))) (H2 := upd H' t (.tup (wV v it))) (exu (Evl.Ex.refl _) f2) (fun b o e => by
      by_cases z : b = t
      · rw [z, upd_same] at e ⊢; exact e
      · rw [upd_ne z] at e ⊢; exact x.fh b o e) (exu (Evl.Ex.refl _) ht) (fun b h1 h2 => by rw [upd_ne (fun z => h1 (by rw [z]; exact ht))]; exact h2)
  obtain ⟨vs, C, dL⟩ := x1.code
  refine ⟨x.ap, ⟨vs, C.off x.wa, dL⟩, x1.na, x.wa, x1.fw, upd_same, .cons upd_same (dp_ex (exu (Evl.Ex.refl _) f2) hd) x1.wi, x1.ff, exm x1.fh x1.fw, x1.nw, fun b o e hb => ?_, x.nh, x.hw, fun i hi => ?_, x.ch⟩
  · rw [upd_ne (nn_of x.hw e)]
    exact x1.kp b o e hb
  · rcases List.mem_cons.mp hi with rfl | hi
    · exact hit
    · exact x.it i hi
end
theorem newIts_len (it : WIt) (n : Nat) : (newIts it n).length = (partsD it.d).length := by simp [newIts]
theorem newIts_get {it : WIt} {n j : Nat} {d : PyData} (h : (partsD it.d)[j]? = some d) : (newIts it n)[j]? = some (newIt it n j d) := by
  unfold newIts
  rw [List.getElem?_mapIdx, h] <;> rfl
theorem wV_new (v : V) (it : WIt) (n j : Nat) (d : PyData) : wV v (newIt it n j d) = [v, .int (n : Int), .int ((it.deep : Int) + 1), .int ((it.loops : Int) + (if decide (V.str (kindD it.d) = V.str "while") = true then 1 else 0)),
    .int ((it.blocks : Int) + (if kindD it.d = "final" ∧ j = 1 then 1 else 0))] := by
  have e1 : ((it.deep + 1 : Nat) : Int) = (it.deep : Int) + 1 := by omega
  have e2 : ((it.loops + (if kindD it.d = "while" then 1 else 0) : Nat) : Int) = (it.loops : Int) + (if decide (V.str (kindD it.d) = V.str "while") = true then 1 else 0) := by
    by_cases z : kindD it.d = "while"
    · rw [if_pos z, if_pos (decide_eq_true (by rw [z]))] <;> omega
    · rw [if_neg z, if_neg (fun y => z (V.str.inj (of_decide_eq_true y)))] <;> omega
  have e3 : ((it.blocks + (if kindD it.d = "final" ∧ j = 1 then 1 else 0) : Nat) : Int) = (it.blocks : Int) + (if kindD it.d = "final" ∧ j = 1 then 1 else 0) := by
    by_cases z : kindD it.d = "final" ∧ j = 1
    · rw [if_pos z, if_pos z] <;> omega
    · rw [if_neg z, if_neg z] <;> omega
  show [v, V.int (n : Int), V.int ((it.deep + 1 : Nat) : Int), V.int ((it.loops + (if kindD it.d = "while" then 1 else 0) : Nat) : Int), V.int ((it.blocks + (if kindD it.d = "final" ∧ j = 1 then 1 else 0) : Nat) : Int)] = _
  rw [e1, e2, e3]
section
variable {P : Program} {w : World} {h : Heap} {K : PySem.W.Frag} {mg : Str → Option Value} {base : Heap}
abbrev N_Code___init__ : List Str := ["self", "statement", "waiting", "value", "parent", "deep", "loops", "blocks", "number", "at", "part", "inside"]
theorem sc_Code___init__ : FnScope N_Code___init__ ["self", "statement"] (defScope sd_Code___init__) := ⟨rfl, rfl, rfl, by decide +kernel, rfl, by decide +kernel, by decide +kernel⟩
theorem okF_Code___init__ (T : Tx w h K mg) : ∃ fd, FnOk P w K mg base (CX P w) 6 (He.fAd K ("Code", some "__init__")) fd ["self", "statement"] (sp_Code___init__ K) ∧ Binds K fd ["self", "statement"] [] ∧ PySem.W.keepIn K (.ref (He.fAd K ("Code", some "__init__"))) = true ∧ FunD K "__init__" "Code.__init__" (defArgs sd_Code___init__) (defBody sd_Code___init__) (defScope sd_Code___init__) [] [] (He.fAd K ("Code", some "__init__")) fd := by
  obtain ⟨fd, F⟩ := F_Code___init__ T
  refine ⟨fd, ?_, F.bindsN (fun _ _ _ _ _ _ us hl => match us, hl with | [_, _], _ => rfl), F.kp, F⟩
  obtain ⟨fd_parts_in, G_parts_in, bi_parts_in, kp_parts_in⟩ := ok_parts_in (P := P) (base := base) T
  obtain ⟨fd_Code_check, G_Code_check, bi_Code_check, kp_Code_check⟩ := ok_Code_check (P := P) (base := base) T
  obtain ⟨fd_Code_keep, G_Code_keep, bi_Code_keep, kp_Code_keep⟩ := ok_Code_keep (P := P) (base := base) T
  refine F.ok sc_Code___init__ (fun vs H Q E h => ?_) (fun cdv A outer s H vs Q E hr h => ?_)
  · obtain ⟨F0, p, dx, v, d, Gd, N, fin, rfl, hp, xF, Fp, hd, hG, hGd, hB, q⟩ := h
    rfl
  · obtain ⟨F0, p, dx, v, d, Gd, N, fin, rfl, hp, xF, Fp, hd, hG, hGd, hB, q⟩ := h
    refine ⟨_, PSs.nox (Evl.pss_cut (ps_asg (pe_tup (pa_cons (pe_lst pa_nil) (pa_cons (pe_lst pa_nil) (pa_cons (pe_lst pa_nil) pa_nil)))) (pg_tup rfl (pgs_cons (FcR.pg_fld (pv 0)) (pgs_cons (FcR.pg_fld (pv 0)) (pgs_cons (FcR.pg_fld (pv 0)) pgs_nil))))) (Evl.pss_cut (ps_asg (pe_tup (pa_cons (pe_lst pa_nil) (pa_cons (pe_lst pa_nil) pa_nil))) (pg_tup rfl (pgs_cons (FcR.pg_fld (pv 0)) (pgs_cons (FcR.pg_fld (pv 0)) pgs_nil)))) (pss_cons (ps_set (i := 2) sc_Code___init__.nd rfl (Or.inl rfl) (pe_lst (pa_cons (pe_tup (pa_cons (pv 1) (pa_cons pe_non (pa_cons pe_int (pa_cons pe_int (pa_cons pe_int pa_nil)))))) pa_nil))) (pss_one (ps_while PassesOwn.never (pt_cmpR (op_neM hr) (pv 2) (pe_lst pa_nil) (nomark _)) (pss_cons (ps_asg (pe_bm0 PySem.F.plainAttrs_list PySem.F.slot_list_pop PySem.F.type_list_pop mt_pop (pv 2)) (pg_tup rfl (pgs_cons (pg_name (i := 3) sc_Code___init__.nd rfl (Or.inl rfl)) (pgs_cons (pg_name (i := 4) sc_Code___init__.nd rfl (Or.inl rfl)) (pgs_cons (pg_name (i := 5) sc_Code___init__.nd rfl (Or.inl rfl)) (pgs_cons (pg_name (i := 6) sc_Code___init__.nd rfl (Or.inl rfl)) (pgs_cons (pg_name (i := 7) sc_Code___init__.nd rfl (Or.inl rfl)) pgs_nil))))))) (pss_cons (ps_set (i := 8) sc_Code___init__.nd rfl (Or.inl rfl) (pe_callB call_len_seq rfl (fr_len T) b_len (pa_cons (pe_fld (pv 0) rfl) pa_nil))) (pss_cons (ps_expr (pe_meth (pv 0) (c_Code T) (me_Code_check T) G_Code_check (hr.mono (by decide)) bi_Code_check .nil passF (pa_cons (pv 3) (pa_cons (pv 8) (pa_cons (pv 5) (pa_cons (pv 6) (pa_cons (pv 7) pa_nil))))))) (pss_cons (ps_expr (pe_meth (pv 0) (c_Code T) (me_Code_keep T) G_Code_keep (hr.mono (by decide)) bi_Code_keep .nil passF (pa_cons (pv 3) (pa_cons (pv 4) pa_nil)))) (pss_one (ps_for PassesOwn.never rfl (pi_reversed rfl (fr_reversed T) (pa_cons (FcR.pe_listEnum rfl (pe_call G_parts_in (hr.mono (by decide)) rfl (g_parts_in T) kp_parts_in bi_parts_in .nil passF (pa_cons (pv 3) pa_nil)) rfl (fr_list T) b_list rfl (fr_enumerate T) b_enumerate) pa_nil)) (pg_tup rfl (pgs_cons (pg_name (i := 9) sc_Code___init__.nd rfl (Or.inl rfl)) (pgs_cons (pg_name (i := 10) sc_Code___init__.nd rfl (Or.inl rfl)) pgs_nil))) (Evl.pss_cut (ps_set (i := 11) sc_Code___init__.nd rfl (Or.inl rfl) (pe_op op_add (pv 7) (pe_callTy call_int1 rfl (fr_int T) b_int (pa_cons (pe_and (pe_cmpR op_eq (pe_ix ix_tup (pv 3) pe_int (fun _ _ => rfl)) pe_str (nomark _)) (pe_one (pe_cmpR op_eq (pv 9) pe_int (nomark _)))) pa_nil)))) (pss_one (ps_expr (pe_bm PySem.F.plainAttrs_list PySem.F.slot_list_append PySem.F.type_list_append mt_append (pv 2) (pa_cons (pe_tup (pa_cons (pv 10) (pa_cons (pv 8) (pa_cons (pe_op op_add (pv 5) pe_int) (pa_cons (pe_op op_add (pv 6) (pe_callTy call_int1 rfl (fr_int T) b_int (pa_cons (pe_cmpR op_eq (pe_ix ix_tup (pv 3) pe_int (fun _ _ => rfl)) pe_str (nomark _)) pa_nil))) (pa_cons (pv 11) pa_nil)))))) pa_nil)))))))))))))))), ?_⟩
    refine ⟨fun σ' H' => σ' = L2.start N_Code___init__ [.ref p, v] ∧ ∃ q1 q2 q3, H q1 = none ∧ H q2 = none ∧ H q3 = none ∧ q2 ≠ q1 ∧ q3 ≠ q1 ∧ q3 ≠ q2 ∧ H' q1 = some (.lst []) ∧ H' q2 = some (.lst []) ∧ H' q3 = some (.lst []) ∧
      H' p = some (.ins (He.ga K "Code") dx [("statements", .ref q1), ("kinds", .ref q2), ("labels", .ref q3)]) ∧ (∀ b o, H b = some o → b ≠ p → H' b = some o) ∧ (∀ b, H' b = none → H b = none), ?_, ?_⟩
    · refine ⟨sz (by simp), fun q1 f1 => ⟨sz (by simp), fun q2 f2 => ⟨sz (by simp), fun q3 f3 => ⟨sz (by simp), fun t1 g1 => ?_⟩⟩⟩⟩
      obtain ⟨n2a, f2⟩ := up_none f2
      obtain ⟨n3b, f3⟩ := up_none f3
      obtain ⟨n3a, f3⟩ := up_none f3
      obtain ⟨n1c, g1⟩ := up_none g1
      obtain ⟨n1b, g1⟩ := up_none g1
      obtain ⟨n1a, g1⟩ := up_none g1
      have p1 := nn_of f1 hp
      have p2 := nn_of f2 hp
      have p3 := nn_of f3 hp
      have p4 := nn_of g1 hp
      refine ⟨t1, _, rfl, Evl.st_of upd_same, rfl, _, _, rfl, _, rfl, p, _, dx, _, rfl, (by rw [upd_ne p4, upd_ne p3, upd_ne p2, upd_ne p1]; exact hp), c_Code T, na_Code_statements T, (by simp), ?_⟩
      rw [fi_Code_0]
      refine ⟨_, _, rfl, _, rfl, p, _, dx, _, rfl, upd_same, c_Code T, na_Code_kinds T, (by simp), ?_⟩
      rw [fi_Code_1, upd_upd]
      refine ⟨_, _, rfl, _, rfl, p, _, dx, _, rfl, upd_same, c_Code T, na_Code_labels T, (by simp), rfl, ?_⟩
      rw [fi_Code_2, upd_upd]
      refine ⟨rfl, q1, q2, q3, f1, f2, f3, n2a, n3a, n3b, ?_, ?_, ?_, upd_same, fun b o e hb => ?_, fun b e => ?_⟩
      · rw [upd_ne p1.symm, upd_ne n1a.symm, upd_ne n3a.symm, upd_ne n2a.symm, upd_same]
      · rw [upd_ne p2.symm, upd_ne n1b.symm, upd_ne n3b.symm, upd_same]
      · rw [upd_ne p3.symm, upd_ne n1c.symm, upd_same]
      · rw [upd_ne hb, upd_ne (nn_of g1 e), upd_ne (nn_of f3 e), upd_ne (nn_of f2 e), upd_ne (nn_of f1 e)]
        exact e
      · exact (up_none (up_none (up_none (up_none (up_none e).2).2).2).2).2
    rintro σ' H1 ⟨rfl, q1, q2, q3, f1, f2, f3, n21, n31, n32, h1, h2, h3, hp1, kp1, fr1⟩
    -- self.parents, self.children = ([], [])
    refine ⟨fun σ' H' => σ' = L2.start N_Code___init__ [.ref p, v] ∧ ∃ A : CAd, A.p = p ∧ A.dx = dx ∧ A.cs = [] ∧ CL K H' A [] [] [] [] [] ∧ (∀ b ∈ A.all, b = p ∨ H b = none) ∧ (∀ b o, H b = some o → b ≠ p → H' b = some o) ∧ (∀ b, H' b = none → H b = none), ?_, ?_⟩
    · refine ⟨sz (by simp), fun q4 f4 => ⟨sz (by simp), fun q5 f5 => ⟨sz (by simp), fun t2 g2 => ?_⟩⟩⟩
      obtain ⟨n54, f5⟩ := up_none f5
      obtain ⟨m5, g2⟩ := up_none g2
      obtain ⟨m4, g2⟩ := up_none g2
      have p4 := nn_of f4 hp1
      have p5 := nn_of f5 hp1
      have pt := nn_of g2 hp1
      refine ⟨t2, _, rfl, Evl.st_of upd_same, rfl, _, _, rfl, _, rfl, p, _, dx, _, rfl, (by rw [upd_ne pt, upd_ne p5, upd_ne p4]; exact hp1), c_Code T, na_Code_parents T, (by simp), ?_⟩
      rw [fi_Code_3]
      refine ⟨_, _, rfl, _, rfl, p, _, dx, _, rfl, upd_same, c_Code T, na_Code_children T, (by simp), rfl, ?_⟩
      rw [fi_Code_4, upd_upd]
      have a1 := nn_of f4 h1
      have a2 := nn_of f4 h2
      have a3 := nn_of f4 h3
      have b1 := nn_of f5 h1
      have b2 := nn_of f5 h2
      have b3 := nn_of f5 h3
      have c1 := nn_of g2 h1
      have c2 := nn_of g2 h2
      have c3 := nn_of g2 h3
      have pn1 : p ≠ q1 := nn_of f1 hp
      have pn2 : p ≠ q2 := nn_of f2 hp
      have pn3 : p ≠ q3 := nn_of f3 hp
      refine ⟨rfl, ⟨p, dx, q1, q2, q3, q4, q5, []⟩, rfl, rfl, rfl, ⟨upd_same, ?_, ?_, ?_, ?_, ?_, rfl, fun i c x e => by simp at e, ?_⟩, ?_, fun b o e hb => ?_, fun b e => ?_⟩
      · show upd _ p _ q1 = _
        rw [upd_ne pn1.symm, upd_ne c1, upd_ne b1, upd_ne a1]
        exact h1
      · show upd _ p _ q2 = _
        rw [upd_ne pn2.symm, upd_ne c2, upd_ne b2, upd_ne a2]
        exact h2
      · show upd _ p _ q3 = _
        rw [upd_ne pn3.symm, upd_ne c3, upd_ne b3, upd_ne a3]
        exact h3
      · show upd _ p _ q4 = _
        rw [upd_ne p4.symm, upd_ne m4.symm, upd_ne n54.symm, upd_same]
      · show upd _ p _ q5 = _
        rw [upd_ne p5.symm, upd_ne m5.symm, upd_same] <;> rfl
      · show [p, q1, q2, q3, q4, q5].Nodup
        simp only [List.nodup_cons, List.mem_cons, List.not_mem_nil, or_false, not_or, List.nodup_nil, and_true, not_false_eq_true]
        exact ⟨⟨pn1, pn2, pn3, p4, p5⟩, ⟨n21.symm, n31.symm, a1, b1⟩, ⟨n32.symm, a2, b2⟩, ⟨a3, b3⟩, n54.symm⟩
      · intro b hb
        have hb : b ∈ [p, q1, q2, q3, q4, q5] := hb
        simp only [List.mem_cons, List.not_mem_nil, or_false] at hb
        rcases hb with rfl | rfl | rfl | rfl | rfl | rfl
        · exact .inl rfl
        · exact .inr f1
        · exact .inr f2
        · exact .inr f3
        · exact .inr (fr1 _ f4)
        · exact .inr (fr1 _ f5)
      · have e1 := kp1 b o e hb
        rw [upd_ne hb, upd_ne (nn_of g2 e1), upd_ne (nn_of f5 e1), upd_ne (nn_of f4 e1)]
        exact e1
      · exact fr1 _ (up_none (up_none (up_none (up_none e).2).2).2).2
    rintro σ' H2 ⟨rfl, A, rfl, rfl, ac, C, nA, kp2, fr2⟩
    -- waiting = [(statement, None, 1, 0, 0)]
    refine ⟨_, rfl, sz (by simp), fun t3 g3 => ⟨sz (by simp), fun wq gw => ?_⟩⟩
    obtain ⟨nwt, gw⟩ := up_none gw
    have gt : H2 t3 = none := g3
    have ft : F0 t3 = none := Evl.fresh_back xF (fr2 t3 gt)
    have v0 : InW K F0 H A.p wq Gd [⟨d, none, 1, 0, 0⟩] [] A [t3] (upd F0 t3 (.tup [v, .non, .int 1, .int 0, .int 0])) (upd (upd H2 t3 (.tup [v, .non, .int 1, .int 0, .int 0])) wq (.lst [.ref t3])) := by
      have C1 := (C.off (o := .tup [v, .non, .int 1, .int 0, .int 0]) (C.fresh gt))
      have nwA : wq ∉ A.all := C.fresh gw
      have C2 := C1.off (o := .lst [.ref t3]) nwA
      have xx : Ex F0 (upd F0 t3 (.tup [v, .non, .int 1, .int 0, .int 0])) := exu (Evl.Ex.refl F0) ft
      have fA : ∀ b ∈ A.all, F0 b = none := fun b hb => by
        rcases nA b hb with rfl | e
        · exact Fp
        · exact Evl.fresh_back xF e
      have ntA : t3 ∉ A.all := C.fresh gt
      refine ⟨rfl, ⟨[], C2, .nil⟩, fun b hb => ?_, nwA, ?_, upd_same, .cons upd_same (dp_ex xx hd) .nil, xx, fun b o e => ?_, fun b e1 e2 => ?_, fun b o e hb => ?_, nA, fr2 wq gw, fun i hi => ?_, fun r hr => by cases hr⟩
      · rw [upd_ne (fun z => ntA (by rw [← z]; exact hb))]
        exact fA b hb
      · rw [upd_ne nwt]
        exact Evl.fresh_back xF (fr2 wq gw)
      · by_cases z : b = t3
        · rw [z, upd_same] at e
          cases e
          rw [z, upd_ne nwt.symm, upd_same]
        · rw [upd_ne z] at e
          have e2 := xF b o e
          have nb : b ≠ A.p := fun y => by rw [y, Fp] at e; cases e
          rw [upd_ne (nn_of (fr2 wq gw) e2), upd_ne z]
          exact kp2 b o e2 nb
      · rw [upd_ne (fun z => e1 (by rw [z]; exact fr2 t3 gt))]
        exact e2
      · rw [upd_ne (nn_of (fr2 wq gw) e), upd_ne (nn_of (fr2 t3 gt) e)]
        exact kp2 b o e hb
      · rw [List.mem_singleton.mp hi]
        exact ⟨hGd, fun j e => by cases e⟩
    refine ⟨fun m σ' H' => ∃ st rows B ts F' o3 o4 o5 o6 o7 o8 o9 o10 o11, Builds m st rows fin ∧ σ' = [some (.ref A.p), some v, some (.ref wq), o3, o4, o5, o6, o7, o8, o9, o10, o11] ∧ InW K F0 H A.p wq Gd st rows B ts F' H', ⟨N, _, _, _, _, _, _, _, _, _, _, _, _, _, _, hB, rfl, v0⟩, ?_⟩
    rintro m σ' H3 ⟨st, rows, B, ts, F3, o3, o4, o5, o6, o7, o8, o9, o10, o11, bd, rfl, I3⟩
    -- waiting != []
    have hcan : PyData.canLay0 (.list (st.map wD).reverse) = true := canAll fun e he => by
      obtain ⟨i, hi, rfl⟩ := List.mem_map.mp (List.mem_reverse.mp he)
      exact can_wD (hG _ (I3.it i hi).1).1
    refine ⟨_, rfl, sz (by simp), fun p4 g4 => ?_⟩
    obtain ⟨r1, r2, r3, r4⟩ := I3.fresh g4
    have hdl : Dp K (upd H3 p4 (.lst [])) (.ref wq) (.list (st.map wD).reverse) := .lst (Evl.sq_of (by rw [upd_ne r4.symm]; exact I3.wl)) (dpA_rev (dpA_ex (exu I3.fh g4) I3.wi.dp))
    refine ⟨_, _, hdl, .lst (Evl.sq_of upd_same) .nil, hcan, rfl, min_lnil _, _, rfl, ite_of (fun h4 => ?_) (fun h4 => ?_)⟩
    · cases bd with
      | done => simp [PyData.eqv, PyData.eqvAll] at h4
      | @step n it st' _ _ ok bd =>
      cases hts : I3.wi with
      | @cons t ts' _ _ v1 ht hv1 hr =>
      have I4 := (I3.new (o := .lst []) g4).pop
      refine ⟨fun σ' H' => ∃ st rows B ts F' o3 o4 o5 o6 o7 o8 o9 o10 o11, Builds n st rows fin ∧ σ' = [some (.ref A.p), some v, some (.ref wq), o3, o4, o5, o6, o7, o8, o9, o10, o11] ∧ InW K F0 H A.p wq Gd st rows B ts F' H', fun σ' H' w => ⟨n, Nat.lt_succ_self _, w⟩, ?_⟩
      -- value, parent, deep, loops, blocks = waiting.pop()
      have wl4 : upd H3 p4 (.lst []) wq = some (.lst ((ts'.map V.ref).reverse ++ [.ref t])) := by
        rw [upd_ne r4.symm, I3.wl] <;> simp
      refine ⟨_, rfl, Or.inl ⟨rfl, _, Evl.sq_of wl4⟩, wq, _, .ref t, rfl, rfl, wl4, by simp, ?_⟩
      rw [List.dropLast_concat]
      refine ⟨t, wV v1 it, rfl, Evl.st_of (I4.fh _ _ ht), rfl, _, _, rfl, _, _, rfl, _, _, rfl, _, _, rfl, _, _, rfl, rfl, ?_⟩
      -- number = len(self.kinds)
      obtain ⟨L1, C4, dL4⟩ := id I4.code
      have ob4 : ∀ {H' : Hp} {L1 L2 L3 L4 : List V} {Cs : List (List V)}, CL K H' B L1 L2 L3 L4 Cs → H' A.p = some (.ins (He.ga K "Code") B.dx (cFs B)) := fun C => by rw [← I3.ap]; exact C.ob
      refine ⟨_, rfl, A.p, _, _, _, _, rfl, ob4 C4, c_Code T, na_Code_kinds T, fl_Code_kinds _ _ _ _ _, B.a2, _, rfl, .inl (Evl.sq_of C4.h2), ?_⟩
      have hgi := hG _ (I3.it it List.mem_cons_self).1
      obtain ⟨k1, k2, k3, k4⟩ := id ok
      have ln : (rows.map fun r => V.str (kindD r.d)).length = rows.length := List.length_map _
      -- self.check(..)
      refine ⟨_, rfl, A.p, _, _, rfl, ob4 C4, fm_Code_check _ _ _ _ _, _, rfl, _, rfl, _, rfl, _, rfl, _, rfl, .ref A.p, v1, it.d, _, _, _, _, rfl, dp_ex I4.fh hv1, hgi.1, hgi.2.1, (by rw [ln]; omega), (by omega), (by omega), k4, fun H5 x5 => ?_⟩
      have I5 := I4.ext (Evl.Ex.refl _) (I4.fh.trans x5) x5 fun _ _ e => e
      obtain ⟨L1', C5, dL5⟩ := id I5.code
      -- self.keep(value, parent)
      refine ⟨_, rfl, A.p, _, _, rfl, ob4 C5, fm_Code_keep _ _ _ _ _, _, rfl, _, rfl, F3, B, rows, v1, it.d, _, it.par, (by rw [← I3.ap] <;> rfl), I5.fh, I5.code, I5.na, hv1, k4, (by omega), fun i e => ?_, fun c H6 hc6 cd6 kp6 => ?_⟩
      · have li := (I3.it it List.mem_cons_self).2 i e
        refine ⟨rows[i], List.getElem?_eq_getElem li, ?_⟩
        have := I3.ch rows[i] (List.getElem_mem li)
        omega
      have I6 := I5.kept hc6 cd6 kp6
      -- for at, part in reversed(list(enumerate(parts_in(value))))
      refine ⟨_, rfl, F3, v1, it.d, _, rfl, I6.fh, hv1, k4, fun pp H7 xs fp7 x7 hl7 dA7 => ?_⟩
      have I7 := I6.ext (Evl.Ex.refl _) (I6.fh.trans x7) x7 fun _ _ e => e
      refine ⟨pp, xs, rfl, Evl.sq_of hl7, fun H8 pe te k8 fpe fte npe nd8 lte hpe hte => ?_⟩
      have L8 : ∀ b ∈ pe :: te, H7 b = none := fun b hb => by
        rcases List.mem_cons.mp hb with e | hb
        · rw [e]; exact fpe
        · exact fte b hb
      have I8 : InW K F0 H A.p wq Gd st' (addRow rows it.d it.par) { B with cs := B.cs ++ [c] } ts' (frz F3 H8 (pe :: te)) H8 :=
        I7.ext (frz_ex fun b hb => (I7.fresh (L8 b hb)).2.1) (frz_le (I7.fh.trans k8)) k8 fun b h1 h2 => by rw [frz_out (fun z => h1 (L8 b z))]; exact h2
      have lx : xs.length = (partsD it.d).length := dpA_len dA7
      have x38 : Ex F3 (frz F3 H8 (pe :: te)) := frz_ex fun b hb => (I7.fresh (L8 b hb)).2.1
      obtain ⟨kk, rr, _, ek, _, _, _⟩ := isStm_shape k4
      obtain ⟨va, vxs, rfl, vS, vA⟩ := dp_tup (ek ▸ hv1)
      cases vA with
      | @cons vk vxr _ _ vk0 vA =>
      obtain rfl := dp_str vk0
      have ekd : kindD it.d = kk := by rw [ek] <;> rfl
      refine ⟨pe, _, rfl, Evl.sq_of hpe, for_it walk_rev (fun i σ' H' => ∃ ts'' F'' o9 o10 o11, σ' = [some (.ref A.p), some v, some (.ref wq), some (.ref va), some (parV it.par), some (.int (it.deep : Int)), some (.int (it.loops : Int)), some (.int (it.blocks : Int)), some (.int ((rows.map fun r => V.str (kindD r.d)).length : Int)), o9, o10, o11] ∧
        InW K F0 H A.p wq Gd ((newIts it rows.length).drop (te.length - i) ++ st') (addRow rows it.d it.par) { B with cs := B.cs ++ [c] } ts'' F'' H' ∧ Ex (frz F3 H8 (pe :: te)) F'') ?_ ?_ ?_ ?_⟩
      · refine ⟨ts', _, o9, o10, o11, rfl, ?_, Evl.Ex.refl _⟩
        rw [Nat.sub_zero, List.drop_eq_nil_of_le (by rw [newIts_len, lte, lx]; exact Nat.le_refl _)]
        exact I8
      · rintro i σ' H' _ ⟨ts'', F'', _, _, _, _, I9, x9⟩
        exact Evl.sq_of (I9.fh _ _ (x9 _ _ (by rw [frz_in List.mem_cons_self]; exact hpe)))
      · rintro i x σ' H9x H9 hi ⟨ts'', F'', u9, u10, u11, rfl, I9, x9⟩ ⟨rfl, hx⟩
        rw [List.length_map] at hi hx
        have lj : te.length - 1 - i < te.length := by omega
        have htj : te[te.length - 1 - i]? = some te[te.length - 1 - i] := List.getElem?_eq_getElem lj
        rw [List.getElem?_map, htj] at hx
        cases hx
        have lxj : te.length - 1 - i < xs.length := by rw [← lte]; exact lj
        have hxj : xs[te.length - 1 - i]? = some xs[te.length - 1 - i] := List.getElem?_eq_getElem lxj
        have lpj : te.length - 1 - i < (partsD it.d).length := by rw [← lx]; exact lxj
        have hpj : (partsD it.d)[te.length - 1 - i]? = some (partsD it.d)[te.length - 1 - i] := List.getElem?_eq_getElem lpj
        obtain ⟨u, hu, hdu⟩ := dpA_get dA7 hpj
        rw [hxj] at hu
        cases hu
        have htu := hte _ _ _ htj hxj
        have htF : H9 te[te.length - 1 - i] = some (.tup [.int ((te.length - 1 - i : Nat) : Int), xs[te.length - 1 - i]]) := I9.fh _ _ (x9 _ _ (by rw [frz_in (List.mem_cons_of_mem _ (List.getElem_mem lj))]; exact htu))
        have vS9 : SqT K H9 va (V.str kk :: vxr) := Evl.ex_t ((x38.trans x9).trans I9.fh) vS
        refine ⟨_, _, rfl, Evl.st_of htF, rfl, _, _, rfl, _, _, rfl, rfl, ?_⟩
        -- inside = ..
        refine ⟨fun σ' H' => H' = H9 ∧ σ' = [some (.ref A.p), some v, some (.ref wq), some (.ref va), some (parV it.par), some (.int (it.deep : Int)), some (.int (it.loops : Int)), some (.int (it.blocks : Int)), some (.int ((rows.map fun r => V.str (kindD r.d)).length : Int)), some (.int ((te.length - 1 - i : Nat) : Int)), some xs[te.length - 1 - i], some (.int ((it.blocks : Int) + (if kindD it.d = "final" ∧ te.length - 1 - i = 1 then 1 else 0)))], ?_, ?_⟩
        · refine ⟨_, rfl, _, rfl, va, _, _, _, rfl, rfl, vS9, at0, rfl, _, rfl, ite_of (fun h5 => ?_) (fun h5 => ?_)⟩
          · have e5 : kk = "final" := V.str.inj (of_decide_eq_true h5)
            refine ⟨_, rfl, rfl, .inr ⟨_, rfl, _, _, rfl, rfl, rfl, ?_⟩⟩
            by_cases z : te.length - 1 - i = 1
            · rw [if_pos (show kindD it.d = "final" ∧ te.length - 1 - i = 1 from ⟨by rw [ekd, e5], z⟩), if_pos (decide_eq_true (by rw [z] <;> rfl))] <;> rfl
            · rw [if_neg (show ¬ (kindD it.d = "final" ∧ te.length - 1 - i = 1) from fun y => z y.2), if_neg (fun y => z (by have := V.int.inj (of_decide_eq_true y); omega))] <;> rfl
          · have e5 : ¬ kk = "final" := fun e => by
              have y : decide (V.str kk = V.str "final") = true := decide_eq_true (by rw [e])
              rw [y] at h5
              cases h5
            refine .inr ⟨_, rfl, _, _, rfl, rfl, rfl, ?_⟩
            rw [if_neg (show ¬ (kindD it.d = "final" ∧ te.length - 1 - i = 1) from fun y => e5 (by rw [← ekd]; exact y.1))] <;> rfl
        rintro σ' H' ⟨rfl, rfl⟩
        -- waiting.append(..)
        refine ⟨_, rfl, Or.inl ⟨rfl, _, Evl.sq_of I9.wl⟩, _, rfl, _, rfl, _, rfl, _, _, rfl, rfl, _, rfl, _, rfl, va, _, _, _, rfl, rfl, vS9, at0, rfl, .inr ⟨_, rfl, _, _, rfl, rfl, _, rfl, sz (by simp), fun tn htn => ?_⟩⟩
        obtain ⟨z1, z2, z3, z4⟩ := I9.fresh htn
        refine ⟨wq, _, _, rfl, rfl, (by rw [upd_ne z4.symm]; exact I9.wl), szl ?_, ?_⟩
        · have b1 := bd.len
          have b2 := bd.bd
          rw [List.length_append] at b1
          rw [List.length_reverse, List.length_map, I9.wi.len, List.length_append, List.length_drop]
          omega
        have I10 := I9.push (it := newIt it rows.length (te.length - 1 - i) (partsD it.d)[te.length - 1 - i]) (v := xs[te.length - 1 - i]) htn (dp_ex (x38.trans x9) hdu) ⟨hgi.2.2 _ (List.getElem_mem lpj), fun j e => by cases e; rw [addRow_len]; omega⟩
        have e6 : (newIts it rows.length).drop (te.length - (i + 1)) = newIt it rows.length (te.length - 1 - i) (partsD it.d)[te.length - 1 - i] :: (newIts it rows.length).drop (te.length - i) := by
          have e7 : te.length - (i + 1) = te.length - 1 - i := by omega
          have l7 : te.length - 1 - i < (newIts it rows.length).length := by rw [newIts_len]; exact lpj
          have g7 : (newIts it rows.length)[te.length - 1 - i] = newIt it rows.length (te.length - 1 - i) (partsD it.d)[te.length - 1 - i] := by
            have y := newIts_get (n := rows.length) hpj
            rw [List.getElem?_eq_getElem l7] at y
            exact Option.some.inj y
          rw [e7, List.drop_eq_getElem_cons l7, g7]
          congr 2
          omega
        refine ⟨tn :: ts'', upd F'' tn (.tup (wV xs[te.length - 1 - i] (newIt it rows.length (te.length - 1 - i) (partsD it.d)[te.length - 1 - i]))), _, _, _, rfl, ?_, x9.trans (exu (Evl.Ex.refl _) z2)⟩
        rw [e6, List.cons_append]
        have eH : upd (upd H' tn (.tup (wV xs[te.length - 1 - i] (newIt it rows.length (te.length - 1 - i) (partsD it.d)[te.length - 1 - i])))) wq (.lst (((tn :: ts'').map V.ref).reverse)) =
            upd (upd H' tn (.tup [xs[te.length - 1 - i], .int ((rows.map fun r => V.str (kindD r.d)).length : Int), .int ((it.deep : Int) + 1), .int ((it.loops : Int) + (if decide (V.str kk = V.str "while") = true then 1 else 0)), .int ((it.blocks : Int) + (if kindD it.d = "final" ∧ te.length - 1 - i = 1 then 1 else 0))])) wq (.lst ((ts''.map V.ref).reverse ++ [.ref tn])) := by
          rw [wV_new, ln, ekd, List.map_cons, List.reverse_cons]
        rw [eH] at I10
        exact I10
      · rintro σ' H9 ⟨ts'', F'', u9, u10, u11, rfl, I9, x9⟩
        rw [List.length_map, Nat.sub_self, List.drop_zero] at I9
        exact ⟨_, _, _, _, _, _, _, _, _, _, _, _, _, _, bd, rfl, I9⟩
    · rw [eqv_lnil] at h4
      cases bd with
      | step ok bd => simp at h4
      | done =>
      have I5 := I3.new (o := .lst []) g4
      obtain ⟨vs, C5, dL5⟩ := id I5.code
      have xf : Ex F3 (frz F3 (upd H3 p4 (.lst [])) B.all) := frz_ex I5.na
      refine q B (frz F3 (upd H3 p4 (.lst [])) B.all) _ I5.ap ⟨I5.ff.trans xf, frz_le I5.fh, fun b h1 h2 h3 => ?_, fun b o e hb => I5.kp b o e hb⟩ ⟨vs, ?_, dpA_ex xf dL5⟩
      · rw [frz_out (fun z => by
          rcases I5.nh b z with y | y
          · exact h3 y
          · exact h1 y)]
        exact I5.nw b h1 h2
      · have at_ : ∀ {b : Addr} {o : HO}, b ∈ B.all → upd H3 p4 (.lst []) b = some o → frz F3 (upd H3 p4 (.lst [])) B.all b = some o := fun hb e => by rw [frz_in hb]; exact e
        exact ⟨at_ (by simp [CAd.all]) C5.ob, at_ (in_all1 B) C5.h1, at_ (in_all2 B) C5.h2, at_ (in_all3 B) C5.h3, at_ (in_all4 B) C5.h4, at_ (in_all5 B) C5.h5, C5.cl, fun i c x h1 h2 => at_ (in_allc (List.mem_of_getElem? h1)) (C5.cc i c x h1 h2), C5.nd⟩
theorem ok_Code___init__ (T : Tx w h K mg) : Ok P w K mg base 6 ("Code", some "__init__") ["self", "statement"] (sp_Code___init__ K) := by
  obtain ⟨fd, a, b, c, _⟩ := okF_Code___init__ (P := P) (base := base) T
  exact ⟨fd, a, b, c⟩
end
theorem make_of {H H2 : Hp} {q dx C : Addr} {fs : List (Str × V)} (e : upd (upd H dx (.own q)) q (.ins C dx fs) = H2) (nq : H q = none) (nd : H dx = none) : Ex H H2 ∧ H2 q = some (.ins C dx fs) := by
  subst e
  refine ⟨fun b o hb => ?_, upd_same⟩
  rw [upd_ne (ne_of_none hb nq), upd_ne (ne_of_none hb nd)]
  exact hb
end Fc
set_option maxRecDepth 100000
set_option maxHeartbeats 4000000
namespace FcM
inductive Way where
  | nrm
  | ret
  | rai
  | brk (k : Nat)
  | cnt (k : Nat)
  deriving DecidableEq
inductive Node where
  | do_
  | call
  | ret
  | rai
  | brk (k : Nat)
  | cnt (k : Nat)
  | iff (a b : Nat)
  | whl (a : Nat)
  | seq (l : List Nat)
  | tr (a b : Nat)
  | fin (a b : Nat)
def Node.ch : Node → List Nat
  | .iff a b => [a, b]
  | .whl a => [a]
  | .seq l => l
  | .tr a b => [a, b]
  | .fin a b => [a, b]
  | _ => []
structure Tab where
  len : Nat
  nd : Nat → Node
  pr : Nat → Option Nat
structure Tab.WF (t : Tab) (lp : Nat → Nat) : Prop where
  ne : 0 < t.len
  root : t.pr 0 = none
  lp0 : lp 0 = 0
  dn : ∀ n, n < t.len → ∀ c ∈ (t.nd n).ch, n < c ∧ c < t.len ∧ t.pr c = some n ∧ lp c = lp n + (match t.nd n with | .whl _ => 1 | _ => 0)
  nd : ∀ n, n < t.len → (t.nd n).ch.Nodup
  pu : ∀ n p, n < t.len → t.pr n = some p → p < t.len
  sq : ∀ n l, n < t.len → t.nd n = .seq l → l ≠ []
  bk : ∀ n k, n < t.len → t.nd n = .brk k → 1 ≤ k ∧ k ≤ lp n
  ct : ∀ n k, n < t.len → t.nd n = .cnt k → 1 ≤ k ∧ k ≤ lp n
inductive Ent (t : Tab) : Nat → Nat → Nat → Prop
  | here {n : Nat} (h : ∀ l, t.nd n ≠ .seq l) (h2 : ∀ a b, t.nd n ≠ .tr a b) (h3 : ∀ a b, t.nd n ≠ .fin a b) : Ent t 0 n n
  | seq {k n c e : Nat} {l : List Nat} (h : t.nd n = .seq (c :: l)) (r : Ent t k c e) : Ent t (k + 1) n e
  | tr {k n a b e : Nat} (h : t.nd n = .tr a b) (r : Ent t k a e) : Ent t (k + 1) n e
  | fin {k n a b e : Nat} (h : t.nd n = .fin a b) (r : Ent t k a e) : Ent t (k + 1) n e
/-- the height of a part -/
inductive Hg (t : Tab) : Nat → Nat → Prop
  | mk {h n : Nat} (r : ∀ c ∈ (t.nd n).ch, Hg t h c) : Hg t (h + 1) n
def decW : Way → Way
  | .brk k => if k = 1 then .nrm else .brk (k - 1)
  | .cnt k => .cnt (k - 1)
  | w => w
def again (w : Way) : Bool := decide (w = .nrm) || decide (w = .cnt 1)
abbrev Pd := List (Nat × Way)
/-- a part is left in a way: the walker's next place, or the end -/
inductive Lv (t : Tab) : Nat → Way → Pd → Nat ⊕ Way → Pd → Prop
  | top {n : Nat} {w : Way} {P : Pd} (h : t.pr n = none) : Lv t n w P (.inr w) P
  | seqN {n p m k e : Nat} {l l1 l2 : List Nat} {P : Pd} (h : t.pr n = some p) (hd : t.nd p = .seq l) (hl : l = l1 ++ n :: m :: l2) (he : Ent t k m e) : Lv t n .nrm P (.inl e) P
  | seqU {n p : Nat} {w : Way} {l : List Nat} {P P' : Pd} {r : Nat ⊕ Way} (h : t.pr n = some p) (hd : t.nd p = .seq l) (hw : w ≠ .nrm ∨ l.getLast? = some n) (up : Lv t p w P r P') : Lv t n w P r P'
  | whlA {n p : Nat} {w : Way} {P : Pd} (h : t.pr n = some p) (hd : t.nd p = .whl n) (hw : again w = true) : Lv t n w P (.inl p) P
  | whlU {n p : Nat} {w : Way} {P P' : Pd} {r : Nat ⊕ Way} (h : t.pr n = some p) (hd : t.nd p = .whl n) (hw : again w = false) (up : Lv t p (decW w) P r P') : Lv t n w P r P'
  | tryH {n p b k e : Nat} {P : Pd} (h : t.pr n = some p) (hd : t.nd p = .tr n b) (he : Ent t k b e) : Lv t n .rai P (.inl e) P
  | tryU {n p a b : Nat} {w : Way} {P P' : Pd} {r : Nat ⊕ Way} (h : t.pr n = some p) (hd : t.nd p = .tr a b) (hw : w ≠ .rai ∨ n ≠ a) (up : Lv t p w P r P') : Lv t n w P r P'
  | iffU {n p a b : Nat} {w : Way} {P P' : Pd} {r : Nat ⊕ Way} (h : t.pr n = some p) (hd : t.nd p = .iff a b) (up : Lv t p w P r P') : Lv t n w P r P'
  | finB {n p b k e : Nat} {w : Way} {P : Pd} (h : t.pr n = some p) (hd : t.nd p = .fin n b) (he : Ent t k b e) : Lv t n w P (.inl e) (P ++ [(p, w)])
  | finE {n p a : Nat} {P : Pd} (h : t.pr n = some p) (hd : t.nd p = .fin a n) (hn : n ≠ a) : Lv t n .nrm P (.inl p) P
  | finO {n p a : Nat} {w : Way} {P P' : Pd} {x : Nat × Way} {r : Nat ⊕ Way} (h : t.pr n = some p) (hd : t.nd p = .fin a n) (hn : n ≠ a) (hw : w ≠ .nrm) (up : Lv t p w P r P') : Lv t n w (P ++ [x]) r P'
structure Cfg where
  at_ : Nat ⊕ Way
  pd : Pd
  us : Nat
  vs : List Nat
def asks : Node → Bool
  | .call => true
  | .iff _ _ => true
  | .whl _ => true
  | _ => false
/-- the way of a place that does not ask -/
def wayN : Node → Way
  | .ret => .ret
  | .rai => .rai
  | .brk k => .brk k
  | .cnt k => .cnt k
  | _ => .nrm
def quiet : Node → Prop
  | .do_ => True
  | .ret => True
  | .rai => True
  | .brk _ => True
  | .cnt _ => True
  | _ => False
/-- what a place does with an answer: where the walker stands then -/
inductive Dp1 (t : Tab) (s : Nat) (x : Bool) : Pd → Nat ⊕ Way → Pd → Prop
  | iff {a b k e : Nat} {P : Pd} (h : t.nd s = .iff a b) (he : Ent t k (if x then b else a) e) : Dp1 t s x P (.inl e) P
  | whlT {a k e : Nat} {P : Pd} (h : t.nd s = .whl a) (hx : x = true) (he : Ent t k a e) : Dp1 t s x P (.inl e) P
  | whlF {a : Nat} {P P' : Pd} {r : Nat ⊕ Way} (h : t.nd s = .whl a) (hx : x = false) (l : Lv t s .nrm P r P') : Dp1 t s x P r P'
  | call {P P' : Pd} {r : Nat ⊕ Way} (h : t.nd s = .call) (l : Lv t s (if x then .rai else .nrm) P r P') : Dp1 t s x P r P'
  | fin {a b q : Nat} {w : Way} {P P' : Pd} {r : Nat ⊕ Way} (h : t.nd s = .fin a b) (l : Lv t s w P r P') : Dp1 t s x (P ++ [(q, w)]) r P'
  | quiet {P P' : Pd} {r : Nat ⊕ Way} (h : quiet (t.nd s)) (l : Lv t s (wayN (t.nd s)) P r P') : Dp1 t s x P r P'
inductive Step (t : Tab) (bits : List Bool) : Cfg → Cfg → Prop
  | ask {s : Nat} {x : Bool} {P P' : Pd} {u : Nat} {v : List Nat} {r : Nat ⊕ Way} (h : asks (t.nd s) = true) (hu : bits[u]? = some x) (d : Dp1 t s x P r P') : Step t bits ⟨.inl s, P, u, v⟩ ⟨r, P', u + 1, v ++ [s]⟩
  | on {s : Nat} {P P' : Pd} {u : Nat} {v : List Nat} {r : Nat ⊕ Way} (h : asks (t.nd s) = false) (d : Dp1 t s false P r P') : Step t bits ⟨.inl s, P, u, v⟩ ⟨r, P', u, v ++ [s]⟩
inductive Stop (t : Tab) (bits : List Bool) : Cfg → Prop
  | fin {w : Way} {P : Pd} {u : Nat} {v : List Nat} : Stop t bits ⟨.inr w, P, u, v⟩
  | wait {s : Nat} {P : Pd} {u : Nat} {v : List Nat} (h : asks (t.nd s) = true) (hu : bits[u]? = none) : Stop t bits ⟨.inl s, P, u, v⟩
inductive Re (t : Tab) (bits : List Bool) (B : Nat) : Nat → Cfg → Cfg → Prop
  | stop {c : Cfg} (h : Stop t bits c) (hb : c.pd.length ≤ B) : Re t bits B 0 c c
  | step {n : Nat} {c d e : Cfg} (h : Step t bits c d) (hb : c.pd.length ≤ B) (r : Re t bits B n d e) : Re t bits B (n + 1) c e
abbrev Wt := (Nat × Pd) ⊕ Way
abbrev Rs := Wt × Nat × List Nat
def loopF (bits : List Bool) (n : Nat) (P : Pd) (body : Nat → List Nat → Rs) : Nat → Nat → List Nat → Rs
  | 0, u, v => (.inl (n, P), u, v)
  | f + 1, u, v => match bits[u]? with
    | none => (.inl (n, P), u, v)
    | some false => (.inr .nrm, u + 1, v ++ [n])
    | some true => match body (u + 1) (v ++ [n]) with
      | (.inl x, u', v') => (.inl x, u', v')
      | (.inr w, u', v') => if again w = true then loopF bits n P body f u' v' else (.inr (decW w), u', v')
def seqF (go : Nat → Nat → List Nat → Rs) : List Nat → Rs → Rs
  | [], r => r
  | c :: cs, (w, u, v) => if w = .inr .nrm then seqF go cs (go c u v) else seqF go cs (w, u, v)
def finF (n : Nat) (w : Way) : Rs → Rs
  | (.inl x, u, v) => (.inl x, u, v)
  | (.inr w2, u, v) => if w2 = .nrm then (.inr w, u, v ++ [n]) else (.inr w2, u, v)
def goF (t : Tab) (bits : List Bool) : Nat → Nat → Pd → Nat → List Nat → Rs
  | 0, n, P, u, v => (.inl (n, P), u, v)
  | h + 1, n, P, u, v => match t.nd n with
    | .whl a => loopF bits n P (goF t bits h a P) (bits.length + 1) u v
    | .fin a b => match goF t bits h a P u v with
      | (.inl x, u1, v1) => (.inl x, u1, v1)
      | (.inr w, u1, v1) => finF n w (goF t bits h b (P ++ [(n, w)]) u1 v1)
    | .call => match bits[u]? with
      | none => (.inl (n, P), u, v)
      | some x => (.inr (if x then .rai else .nrm), u + 1, v ++ [n])
    | .iff a b => match bits[u]? with
      | none => (.inl (n, P), u, v)
      | some x => goF t bits h (if x then b else a) P (u + 1) (v ++ [n])
    | .seq l => seqF (fun c => goF t bits h c P) l (.inr .nrm, u, v)
    | .tr a b => match goF t bits h a P u v with
      | (.inr .rai, u1, v1) => goF t bits h b P u1 v1
      | r => r
    | d => (.inr (wayN d), u, v ++ [n])
def WOk (l : Nat) : Way → Prop
  | .brk k => 1 ≤ k ∧ k ≤ l
  | .cnt k => 1 ≤ k ∧ k ≤ l
  | _ => True
section
variable {t : Tab} {lp : Nat → Nat} {bits : List Bool}
/-- behind leaving n in the way w the walker comes to cf -/
def After (t : Tab) (bits : List Bool) (B n : Nat) (w : Way) (P : Pd) (u : Nat) (v : List Nat) (cf : Cfg) : Prop := ∃ r P' N, Lv t n w P r P' ∧ Re t bits B N ⟨r, P', u, v⟩ cf
/-- from the entry of n the walker comes to cf -/
def From (t : Tab) (bits : List Bool) (B n : Nat) (P : Pd) (u : Nat) (v : List Nat) (cf : Cfg) : Prop := ∃ k e N, Ent t k n e ∧ Re t bits B N ⟨.inl e, P, u, v⟩ cf
/-- what the walker does of what the law reckons -/
def Good (t : Tab) (bits : List Bool) (B : Nat) (lp : Nat → Nat) (n : Nat) (P : Pd) (u : Nat) (v : List Nat) : Rs → Prop
  | (.inr w, u', v') => u ≤ u' ∧ u' ≤ bits.length ∧ WOk (lp n) w ∧ ∀ cf, After t bits B n w P u' v' cf → From t bits B n P u v cf
  | (.inl x, u', v') => u ≤ u' ∧ u' ≤ bits.length ∧ ∃ cf, From t bits B n P u v cf ∧ cf.vs = v' ∧ cf.us = u' ∧ cf.at_ = .inl x.1 ∧ cf.pd = x.2
end
end FcM
set_option maxRecDepth 100000
set_option maxHeartbeats 4000000
namespace FcM
section
variable {t : Tab} {lp : Nat → Nat} {bits : List Bool} {B : Nat}
theorem bit_lt {u : Nat} {x : Bool} (h : bits[u]? = some x) : u + 1 ≤ bits.length := (List.getElem?_eq_some_iff.mp h).1
theorem from_wait {n : Nat} {P : Pd} {u : Nat} {v : List Nat} (he : Ent t 0 n n) (ha : asks (t.nd n) = true) (hu : bits[u]? = none) (hB : P.length ≤ B) : From t bits B n P u v ⟨.inl n, P, u, v⟩ := ⟨0, n, 0, he, .stop (.wait ha hu) hB⟩
theorem Ent.self {k n e : Nat} (h : Ent t k n e) (h1 : ∀ l, t.nd n ≠ .seq l) (h2 : ∀ a b, t.nd n ≠ .tr a b) (h3 : ∀ a b, t.nd n ≠ .fin a b) : e = n := by
  cases h with
  | here => rfl
  | seq h _ => exact absurd h (h1 _)
  | tr h _ => exact absurd h (h2 _ _)
  | fin h _ => exact absurd h (h3 _ _)
theorem seqF_stop {go : Nat → Nat → List Nat → Rs} {w : Wt} {u : Nat} {v : List Nat} (hw : w ≠ .inr .nrm) : ∀ cs : List Nat, seqF go cs (w, u, v) = (w, u, v)
  | [] => rfl
  | c :: cs => by
    show (if w = .inr .nrm then _ else seqF go cs (w, u, v)) = _
    rw [if_neg hw, seqF_stop hw cs]
theorem dec_ok {l : Nat} {w : Way} (h : WOk (l + 1) w) (ha : again w = false) : WOk l (decW w) := by
  cases w with
  | nrm => trivial
  | ret => trivial
  | rai => trivial
  | brk k =>
    show WOk l (if k = 1 then .nrm else .brk (k - 1))
    by_cases hk : k = 1
    · rw [if_pos hk]; trivial
    · rw [if_neg hk]
      have h1 : 1 ≤ k ∧ k ≤ l + 1 := h
      show 1 ≤ k - 1 ∧ k - 1 ≤ l
      omega
  | cnt k =>
    have h1 : 1 ≤ k ∧ k ≤ l + 1 := h
    have hk : k ≠ 1 := fun z => by subst z; simp [again] at ha
    show 1 ≤ k - 1 ∧ k - 1 ≤ l
    omega
/-- the loop of a while at n with the part a -/
theorem loop_good (W : t.WF lp) {n a : Nat} (hn : n < t.len) (hd : t.nd n = .whl a) {body : Nat → List Nat → Rs} {P : Pd} (hB : P.length ≤ B) (hb : ∀ u v, u ≤ bits.length → Good t bits B lp a P u v (body u v)) :
    ∀ f u v, bits.length - u < f → u ≤ bits.length → Good t bits B lp n P u v (loopF bits n P body f u v) := by
  have he : Ent t 0 n n := .here (fun l => by rw [hd]; exact fun z => nomatch z) (fun a b => by rw [hd]; exact fun z => nomatch z) (fun a b => by rw [hd]; exact fun z => nomatch z)
  have ha : asks (t.nd n) = true := by rw [hd]; rfl
  obtain ⟨c1, c2, c3, c4⟩ := W.dn n hn a (by rw [hd]; exact List.mem_singleton.mpr rfl)
  rw [hd] at c4
  have c4 : lp a = lp n + 1 := c4
  intro f
  induction f with
  | zero => exact fun u v h => absurd h (Nat.not_lt_zero _)
  | succ f ih =>
    intro u v hf hu
    cases hx : bits[u]? with
    | none =>
      have e : loopF bits n P body (f + 1) u v = (.inl (n, P), u, v) := by simp only [loopF, hx]
      rw [e]
      exact ⟨Nat.le_refl _, hu, _, from_wait he ha hx hB, rfl, rfl, rfl, rfl⟩
    | some x =>
      have hl := bit_lt hx
      cases x with
      | false =>
        have e : loopF bits n P body (f + 1) u v = (.inr .nrm, u + 1, v ++ [n]) := by simp only [loopF, hx]
        rw [e]
        refine ⟨by omega, hl, trivial, fun cf h => ?_⟩
        obtain ⟨r, P', N, l, re⟩ := h
        exact ⟨0, n, N + 1, he, .step (.ask ha hx (.whlF hd rfl l)) hB re⟩
      | true =>
        have g := hb (u + 1) (v ++ [n]) hl
        have up : ∀ cf, From t bits B a P (u + 1) (v ++ [n]) cf → From t bits B n P u v cf := fun cf h => by
          obtain ⟨k, e, N, en, re⟩ := h
          exact ⟨0, n, N + 1, he, .step (.ask ha hx (.whlT hd rfl en)) hB re⟩
        rcases hr : body (u + 1) (v ++ [n]) with ⟨w, u', v'⟩
        rw [hr] at g
        cases w with
        | inl x =>
          have e : loopF bits n P body (f + 1) u v = (.inl x, u', v') := by simp only [loopF, hx, hr]
          rw [e]
          obtain ⟨g1, g2, cf, g3, g4⟩ := g
          exact ⟨by omega, g2, cf, up cf g3, g4⟩
        | inr w =>
          obtain ⟨g1, g2, g3, g4⟩ := g
          by_cases hw : again w = true
          · have e : loopF bits n P body (f + 1) u v = loopF bits n P body f u' v' := by simp only [loopF, hx, hr, hw, if_true]
            rw [e]
            have g := ih u' v' (by omega) g2
            have go : ∀ cf, From t bits B n P u' v' cf → From t bits B n P u v cf := fun cf h => by
              obtain ⟨k, e', N, en, re⟩ := h
              have z := en.self (fun l => by rw [hd]; exact fun z => nomatch z) (fun a b => by rw [hd]; exact fun z => nomatch z) (fun a b => by rw [hd]; exact fun z => nomatch z)
              subst z
              exact up cf (g4 cf ⟨_, _, _, .whlA c3 hd hw, re⟩)
            rcases hr2 : loopF bits n P body f u' v' with ⟨w2, u2, v2⟩
            rw [hr2] at g
            cases w2 with
            | inl x =>
              obtain ⟨k1, k2, cf, k3, k4⟩ := g
              exact ⟨by omega, k2, cf, go cf k3, k4⟩
            | inr w2 =>
              obtain ⟨k1, k2, k3, k4⟩ := g
              exact ⟨by omega, k2, k3, fun cf h => go cf (k4 cf h)⟩
          · have hw : again w = false := by simpa using hw
            have e : loopF bits n P body (f + 1) u v = (.inr (decW w), u', v') := by simp [loopF, hx, hr, hw]
            rw [e]
            refine ⟨by omega, g2, dec_ok (by rw [c4] at g3; exact g3) hw, fun cf h => ?_⟩
            obtain ⟨r, P', N, l, re⟩ := h
            exact up cf (g4 cf ⟨r, P', N, .whlU c3 hd hw l, re⟩)
theorem seq_good (W : t.WF lp) {n : Nat} {l : List Nat} (hn : n < t.len) (hd : t.nd n = .seq l) {go : Nat → Nat → List Nat → Rs} {P : Pd} (hb : ∀ c ∈ l, ∀ u v, u ≤ bits.length → Good t bits B lp c P u v (go c u v)) :
    ∀ (cs l1 : List Nat) (c u : Nat) (v : List Nat), l = l1 ++ c :: cs → u ≤ bits.length → (match seqF go (c :: cs) (.inr .nrm, u, v) with
      | (.inr w, u', v') => u ≤ u' ∧ u' ≤ bits.length ∧ WOk (lp n) w ∧ ∀ cf, After t bits B n w P u' v' cf → From t bits B c P u v cf
      | (.inl x, u', v') => u ≤ u' ∧ u' ≤ bits.length ∧ ∃ cf, From t bits B c P u v cf ∧ cf.vs = v' ∧ cf.us = u' ∧ cf.at_ = .inl x.1 ∧ cf.pd = x.2) := by
  intro cs
  induction cs with
  | nil =>
    intro l1 c u v hl hu
    have hc : c ∈ l := by rw [hl]; simp
    obtain ⟨c1, c2, c3, c4⟩ := W.dn n hn c (by rw [hd]; exact hc)
    rw [hd] at c4
    have c4 : lp c = lp n := c4
    have g := hb c hc u v hu
    have e : seqF go [c] (.inr .nrm, u, v) = go c u v := by simp [seqF]
    rw [e]
    rcases hr : go c u v with ⟨w, u', v'⟩
    rw [hr] at g
    cases w with
    | inl x => exact g
    | inr w =>
      obtain ⟨g1, g2, g3, g4⟩ := g
      refine ⟨g1, g2, by rw [← c4]; exact g3, fun cf h => ?_⟩
      obtain ⟨r, P', N, lv, re⟩ := h
      exact g4 cf ⟨r, P', N, .seqU c3 hd (.inr (by rw [hl]; simp)) lv, re⟩
  | cons m cs ih =>
    intro l1 c u v hl hu
    have hc : c ∈ l := by rw [hl]; simp
    obtain ⟨c1, c2, c3, c4⟩ := W.dn n hn c (by rw [hd]; exact hc)
    rw [hd] at c4
    have c4 : lp c = lp n := c4
    have g := hb c hc u v hu
    have e : seqF go (c :: m :: cs) (.inr .nrm, u, v) = seqF go (m :: cs) (go c u v) := by simp [seqF]
    rw [e]
    rcases hr : go c u v with ⟨w, u', v'⟩
    rw [hr] at g
    cases w with
    | inl x =>
      rw [seqF_stop (w := .inl x) (fun z => nomatch z)]
      exact g
    | inr w =>
      obtain ⟨g1, g2, g3, g4⟩ := g
      by_cases hw : w = .nrm
      · subst hw
        have i := ih (l1 ++ [c]) m u' v' (by rw [hl]; simp) g2
        rcases hr2 : seqF go (m :: cs) (.inr .nrm, u', v') with ⟨w2, u2, v2⟩
        rw [hr2] at i
        have go' : ∀ cf, From t bits B m P u' v' cf → From t bits B c P u v cf := fun cf h => by
          obtain ⟨k, e', N, en, re⟩ := h
          exact g4 cf ⟨_, _, _, .seqN c3 hd hl en, re⟩
        cases w2 with
        | inl x =>
          obtain ⟨k1, k2, cf, k3, k4⟩ := i
          exact ⟨by omega, k2, cf, go' cf k3, k4⟩
        | inr w2 =>
          obtain ⟨k1, k2, k3, k4⟩ := i
          exact ⟨by omega, k2, k3, fun cf h => go' cf (k4 cf h)⟩
      · rw [seqF_stop (fun z => hw (Sum.inr.inj z))]
        refine ⟨g1, g2, by rw [← c4]; exact g3, fun cf h => ?_⟩
        obtain ⟨r, P', N, lv, re⟩ := h
        exact g4 cf ⟨r, P', N, .seqU c3 hd (.inl hw) lv, re⟩
theorem quiet_good (W : t.WF lp) {n : Nat} (hn : n < t.len) (hq : quiet (t.nd n)) {P : Pd} {u : Nat} {v : List Nat} (hB : P.length ≤ B) (hu : u ≤ bits.length) : Good t bits B lp n P u v (.inr (wayN (t.nd n)), u, v ++ [n]) := by
  have he : Ent t 0 n n := .here (fun l e => by rw [e] at hq; exact hq) (fun a b e => by rw [e] at hq; exact hq) (fun a b e => by rw [e] at hq; exact hq)
  have ha : asks (t.nd n) = false := by
    cases e : t.nd n <;> rw [e] at hq <;> first | rfl | exact hq.elim
  refine ⟨Nat.le_refl _, hu, ?_, fun cf h => ?_⟩
  · cases e : t.nd n with
    | brk k => exact W.bk n k hn e
    | cnt k => exact W.ct n k hn e
    | do_ => trivial
    | ret => trivial
    | rai => trivial
    | call => trivial
    | iff a b => trivial
    | whl a => trivial
    | seq l => trivial
    | tr a b => trivial
    | fin a b => trivial
  · obtain ⟨r, P', N, lv, re⟩ := h
    exact ⟨0, n, N + 1, he, .step (.on ha (.quiet hq lv)) hB re⟩
theorem main (W : t.WF lp) : ∀ h n, Hg t h n → n < t.len → ∀ (P : Pd) (u : Nat) (v : List Nat), P.length + h ≤ B → u ≤ bits.length → Good t bits B lp n P u v (goF t bits h n P u v) := by
  intro h
  induction h with
  | zero => exact fun n hg => nomatch hg
  | succ h ih =>
    intro n hg hn P u v hPB hu
    have hB : P.length ≤ B := by omega
    have hP : P.length + h ≤ B := by omega
    cases hg with
    | mk hg =>
    have q : ∀ d, t.nd n = d → quiet d → goF t bits (h + 1) n P u v = (.inr (wayN d), u, v ++ [n]) → Good t bits B lp n P u v (goF t bits (h + 1) n P u v) := fun d e hq e2 => by
      rw [e2, ← e]
      exact quiet_good W hn (by rw [e]; exact hq) hB hu
    cases hd : t.nd n with
    | do_ => exact q _ hd trivial (by simp only [goF, hd])
    | ret => exact q _ hd trivial (by simp only [goF, hd])
    | rai => exact q _ hd trivial (by simp only [goF, hd])
    | brk k => exact q _ hd trivial (by simp only [goF, hd])
    | cnt k => exact q _ hd trivial (by simp only [goF, hd])
    | whl a =>
      have e : goF t bits (h + 1) n P u v = loopF bits n P (goF t bits h a P) (bits.length + 1) u v := by simp only [goF, hd]
      rw [e]
      have ma : a ∈ (t.nd n).ch := by rw [hd]; exact List.mem_singleton.mpr rfl
      obtain ⟨c1, c2, c3, c4⟩ := W.dn n hn a ma
      exact loop_good W hn hd hB (fun u v hu => ih a (hg a ma) c2 P u v hP hu) _ u v (by omega) hu
    | call =>
      have he : Ent t 0 n n := .here (fun l => by rw [hd]; exact fun z => nomatch z) (fun a b => by rw [hd]; exact fun z => nomatch z) (fun a b => by rw [hd]; exact fun z => nomatch z)
      have ha : asks (t.nd n) = true := by rw [hd]; rfl
      cases hx : bits[u]? with
      | none =>
        have e : goF t bits (h + 1) n P u v = (.inl (n, P), u, v) := by simp only [goF, hd, hx]
        rw [e]
        exact ⟨Nat.le_refl _, hu, _, from_wait he ha hx hB, rfl, rfl, rfl, rfl⟩
      | some x =>
        have e : goF t bits (h + 1) n P u v = (.inr (if x then .rai else .nrm), u + 1, v ++ [n]) := by simp only [goF, hd, hx]
        rw [e]
        refine ⟨by omega, bit_lt hx, by cases x <;> trivial, fun cf h => ?_⟩
        obtain ⟨r, P', N, lv, re⟩ := h
        exact ⟨0, n, N + 1, he, .step (.ask ha hx (.call hd lv)) hB re⟩
    | iff a b =>
      have he : Ent t 0 n n := .here (fun l => by rw [hd]; exact fun z => nomatch z) (fun a b => by rw [hd]; exact fun z => nomatch z) (fun a b => by rw [hd]; exact fun z => nomatch z)
      have ha : asks (t.nd n) = true := by rw [hd]; rfl
      cases hx : bits[u]? with
      | none =>
        have e : goF t bits (h + 1) n P u v = (.inl (n, P), u, v) := by simp only [goF, hd, hx]
        rw [e]
        exact ⟨Nat.le_refl _, hu, _, from_wait he ha hx hB, rfl, rfl, rfl, rfl⟩
      | some x =>
        have e : goF t bits (h + 1) n P u v = goF t bits h (if x then b else a) P (u + 1) (v ++ [n]) := by simp only [goF, hd, hx]
        rw [e]
        have mc : (if x then b else a) ∈ (t.nd n).ch := by rw [hd]; cases x <;> simp [Node.ch]
        obtain ⟨c1, c2, c3, c4⟩ := W.dn n hn _ mc
        rw [hd] at c4
        have c4 : lp (if x then b else a) = lp n := c4
        have g := ih _ (hg _ mc) c2 P (u + 1) (v ++ [n]) hP (bit_lt hx)
        have up : ∀ cf, From t bits B (if x then b else a) P (u + 1) (v ++ [n]) cf → From t bits B n P u v cf := fun cf h => by
          obtain ⟨k, e', N, en, re⟩ := h
          exact ⟨0, n, N + 1, he, .step (.ask ha hx (.iff hd en)) hB re⟩
        rcases hr : goF t bits h (if x then b else a) P (u + 1) (v ++ [n]) with ⟨w, u', v'⟩
        rw [hr] at g
        cases w with
        | inl x =>
          obtain ⟨g1, g2, cf, g3, g4⟩ := g
          exact ⟨by omega, g2, cf, up cf g3, g4⟩
        | inr w =>
          obtain ⟨g1, g2, g3, g4⟩ := g
          refine ⟨by omega, g2, by rw [← c4]; exact g3, fun cf h => ?_⟩
          obtain ⟨r, P', N, lv, re⟩ := h
          exact up cf (g4 cf ⟨r, P', N, .iffU c3 hd lv, re⟩)
    | seq l =>
      have e : goF t bits (h + 1) n P u v = seqF (fun c => goF t bits h c P) l (.inr .nrm, u, v) := by simp only [goF, hd]
      rw [e]
      have hne := W.sq n l hn hd
      obtain ⟨c, cs, rfl⟩ : ∃ c cs, l = c :: cs := by
        cases l with
        | nil => exact absurd rfl hne
        | cons c cs => exact ⟨c, cs, rfl⟩
      have mem : ∀ c' ∈ c :: cs, c' ∈ (t.nd n).ch := fun c' hc => by rw [hd]; exact hc
      have g := seq_good W hn hd (go := fun c => goF t bits h c P) (P := P) (fun c' hc u v hu => ih c' (hg c' (mem c' hc)) (W.dn n hn c' (mem c' hc)).2.1 P u v hP hu) cs [] c u v rfl hu
      have up : ∀ cf, From t bits B c P u v cf → From t bits B n P u v cf := fun cf h => by
        obtain ⟨k, e', N, en, re⟩ := h
        exact ⟨k + 1, e', N, .seq hd en, re⟩
      rcases hr : seqF (fun c => goF t bits h c P) (c :: cs) (.inr .nrm, u, v) with ⟨w, u', v'⟩
      rw [hr] at g
      cases w with
      | inl x =>
        obtain ⟨g1, g2, cf, g3, g4⟩ := g
        exact ⟨g1, g2, cf, up cf g3, g4⟩
      | inr w =>
        obtain ⟨g1, g2, g3, g4⟩ := g
        exact ⟨g1, g2, g3, fun cf h => up cf (g4 cf h)⟩
    | tr a b =>
      have ma : a ∈ (t.nd n).ch := by rw [hd]; simp [Node.ch]
      have mb : b ∈ (t.nd n).ch := by rw [hd]; simp [Node.ch]
      obtain ⟨c1, c2, c3, c4⟩ := W.dn n hn a ma
      obtain ⟨b1, b2, b3, b4⟩ := W.dn n hn b mb
      rw [hd] at c4 b4
      have c4 : lp a = lp n := c4
      have b4 : lp b = lp n := b4
      have nab : b ≠ a := by
        have z := W.nd n hn
        rw [hd] at z
        simp [Node.ch] at z
        exact fun y => z y.symm
      have g := ih a (hg a ma) c2 P u v hP hu
      have up : ∀ cf, From t bits B a P u v cf → From t bits B n P u v cf := fun cf h => by
        obtain ⟨k, e', N, en, re⟩ := h
        exact ⟨k + 1, e', N, .tr hd en, re⟩
      rcases hr : goF t bits h a P u v with ⟨w, u', v'⟩
      rw [hr] at g
      cases w with
      | inl x =>
        have e : goF t bits (h + 1) n P u v = (.inl x, u', v') := by simp only [goF, hd, hr]
        rw [e]
        obtain ⟨g1, g2, cf, g3, g4⟩ := g
        exact ⟨g1, g2, cf, up cf g3, g4⟩
      | inr w =>
        obtain ⟨g1, g2, g3, g4⟩ := g
        by_cases hw : w = .rai
        · subst hw
          have e : goF t bits (h + 1) n P u v = goF t bits h b P u' v' := by simp only [goF, hd, hr]
          rw [e]
          have i := ih b (hg b mb) b2 P u' v' hP g2
          have go' : ∀ cf, From t bits B b P u' v' cf → From t bits B n P u v cf := fun cf h => by
            obtain ⟨k, e', N, en, re⟩ := h
            exact up cf (g4 cf ⟨_, _, _, .tryH c3 hd en, re⟩)
          rcases hr2 : goF t bits h b P u' v' with ⟨w2, u2, v2⟩
          rw [hr2] at i
          cases w2 with
          | inl x =>
            obtain ⟨k1, k2, cf, k3, k4⟩ := i
            exact ⟨by omega, k2, cf, go' cf k3, k4⟩
          | inr w2 =>
            obtain ⟨k1, k2, k3, k4⟩ := i
            refine ⟨by omega, k2, by rw [← b4]; exact k3, fun cf h => ?_⟩
            obtain ⟨r, P', N, lv, re⟩ := h
            exact go' cf (k4 cf ⟨r, P', N, .tryU b3 hd (.inr nab) lv, re⟩)
        · have e : goF t bits (h + 1) n P u v = (.inr w, u', v') := by
            simp only [goF, hd, hr]
            cases w <;> first | rfl | exact absurd rfl hw
          rw [e]
          refine ⟨g1, g2, by rw [← c4]; exact g3, fun cf h => ?_⟩
          obtain ⟨r, P', N, lv, re⟩ := h
          exact up cf (g4 cf ⟨r, P', N, .tryU c3 hd (.inl hw) lv, re⟩)
    | fin a b =>
      have ma : a ∈ (t.nd n).ch := by rw [hd]; simp [Node.ch]
      have mb : b ∈ (t.nd n).ch := by rw [hd]; simp [Node.ch]
      obtain ⟨c1, c2, c3, c4⟩ := W.dn n hn a ma
      obtain ⟨b1, b2, b3, b4⟩ := W.dn n hn b mb
      rw [hd] at c4 b4
      have c4 : lp a = lp n := c4
      have b4 : lp b = lp n := b4
      have nab : b ≠ a := by
        have z := W.nd n hn
        rw [hd] at z
        simp [Node.ch] at z
        exact fun y => z y.symm
      have g := ih a (hg a ma) c2 P u v hP hu
      have up : ∀ cf, From t bits B a P u v cf → From t bits B n P u v cf := fun cf h => by
        obtain ⟨k, e', N, en, re⟩ := h
        exact ⟨k + 1, e', N, .fin hd en, re⟩
      rcases hr : goF t bits h a P u v with ⟨w, u', v'⟩
      rw [hr] at g
      cases w with
      | inl x =>
        have e : goF t bits (h + 1) n P u v = (.inl x, u', v') := by simp only [goF, hd, hr]
        rw [e]
        obtain ⟨g1, g2, cf, g3, g4⟩ := g
        exact ⟨g1, g2, cf, up cf g3, g4⟩
      | inr w =>
        obtain ⟨g1, g2, g3, g4⟩ := g
        have e : goF t bits (h + 1) n P u v = finF n w (goF t bits h b (P ++ [(n, w)]) u' v') := by simp only [goF, hd, hr]
        rw [e]
        have i := ih b (hg b mb) b2 (P ++ [(n, w)]) u' v' (by simp; omega) g2
        have go' : ∀ cf, From t bits B b (P ++ [(n, w)]) u' v' cf → From t bits B n P u v cf := fun cf h => by
          obtain ⟨k, e', N, en, re⟩ := h
          exact up cf (g4 cf ⟨_, _, _, .finB c3 hd en, re⟩)
        rcases hr2 : goF t bits h b (P ++ [(n, w)]) u' v' with ⟨w2, u2, v2⟩
        rw [hr2] at i
        cases w2 with
        | inl x =>
          obtain ⟨k1, k2, cf, k3, k4⟩ := i
          exact ⟨by omega, k2, cf, go' cf k3, k4⟩
        | inr w2 =>
          obtain ⟨k1, k2, k3, k4⟩ := i
          by_cases hw : w2 = .nrm
          · subst hw
            have e2 : finF n w (.inr .nrm, u2, v2) = (.inr w, u2, v2 ++ [n]) := by simp [finF]
            rw [e2]
            refine ⟨by omega, k2, by rw [← c4]; exact g3, fun cf h => ?_⟩
            obtain ⟨r, P', N, lv, re⟩ := h
            exact go' cf (k4 cf ⟨_, _, _, .finE b3 hd nab, .step (.on (by rw [hd]; rfl) (.fin hd lv)) (by simp; omega) re⟩)
          · have e2 : finF n w (.inr w2, u2, v2) = (.inr w2, u2, v2) := by simp [finF, hw]
            rw [e2]
            refine ⟨by omega, k2, by rw [← b4]; exact k3, fun cf h => ?_⟩
            obtain ⟨r, P', N, lv, re⟩ := h
            exact go' cf (k4 cf ⟨r, P', N, .finO b3 hd nab hw lv, re⟩)
theorem Re.vs {N : Nat} {c d : Cfg} (h : Re t bits B N c d) : c.vs.length ≤ d.vs.length := by
  induction h with
  | stop => exact Nat.le_refl _
  | step h hb r ih =>
    cases h with
    | ask _ _ _ => exact Nat.le_trans (by simp) ih
    | on _ _ => exact Nat.le_trans (by simp) ih
theorem Re.quiet {N s : Nat} {P : Pd} {u : Nat} {v : List Nat} {d : Cfg} (h : Re t bits B N ⟨.inl s, P, u, v⟩ d) (ha : asks (t.nd s) = false) : ∃ M r P', N = M + 1 ∧ Dp1 t s false P r P' ∧ Re t bits B M ⟨r, P', u, v ++ [s]⟩ d := by
  cases h with
  | stop h =>
    cases h with
    | wait h _ => rw [ha] at h; cases h
  | step h _ r =>
    cases h with
    | ask h _ _ => rw [ha] at h; cases h
    | on _ d => exact ⟨_, _, _, rfl, d, r⟩
theorem Re.waits {N s : Nat} {P : Pd} {u : Nat} {v : List Nat} {d : Cfg} (h : Re t bits B N ⟨.inl s, P, u, v⟩ d) (ha : asks (t.nd s) = true) (hu : bits[u]? = none) : d = ⟨.inl s, P, u, v⟩ := by
  cases h with
  | stop h => rfl
  | step h _ r =>
    cases h with
    | ask _ h d => rw [hu] at h; cases h
    | on h _ => rw [ha] at h; cases h
end
end FcM
set_option maxRecDepth 100000
set_option maxHeartbeats 4000000
namespace Fc
open PySem PySem.Spec PyProof.Rows L2 FcR
open Evl (Ex)
open FcM (Way Node Tab)
inductive SV (l : Int) : PyData → Prop
  | do_ (x : Str) : SV l (.tuple [.str "do", .str x])
  | call (x : Str) : SV l (.tuple [.str "call", .str x])
  | iff (x : Str) (a b : PyData) : SV l (.tuple [.str "if", .str x, a, b])
  | whl (x : Str) (a : PyData) : SV l (.tuple [.str "while", .str x, a])
  | seq (p : PyData) (ps : List PyData) : SV l (.tuple [.str "seq", .tuple (p :: ps)])
  | brk (n : Int) (h1 : 1 ≤ n) (h2 : n ≤ l) : SV l (.tuple [.str "break", .int n])
  | cnt (n : Int) (h1 : 1 ≤ n) (h2 : n ≤ l) : SV l (.tuple [.str "continue", .int n])
  | ret : SV l (.tuple [.str "return"])
  | rai : SV l (.tuple [.str "raise"])
  | tr (a b : PyData) : SV l (.tuple [.str "try", a, b])
  | fin (a b : PyData) : SV l (.tuple [.str "final", a, b])
theorem lk_mem {l : List (Str × Int)} {k : Str} {n : Int} (h : l.lookup k = some n) : (k, n) ∈ l := by
  induction l with
  | nil => cases h
  | cons p l ih =>
    obtain ⟨a, b⟩ := p
    by_cases e : k == a
    · rw [List.lookup, e] at h
      cases h
      have z : k = a := by simpa using e
      rw [z]
      exact List.mem_cons_self
    · have e' : (k == a) = false := by simpa using e
      rw [List.lookup, e'] at h
      exact List.mem_cons_of_mem _ (ih h)
theorem isName_str {d : PyData} (h : isName d = true) : ∃ x, d = .str x := by
  cases d <;> first | exact ⟨_, rfl⟩ | cases h
theorem isNum_int {d : PyData} {a b : Int} (h : isNum a b d = true) : ∃ n, d = .int n ∧ a ≤ n ∧ n ≤ b := by
  cases d <;> first | (refine ⟨_, rfl, ?_⟩; simpa [isNum] using h) | cases h
theorem ne_tup {d : PyData} (h : nonEmptyT d = true) : ∃ p ps, d = .tuple (p :: ps) := by
  cases d with
  | tuple l => cases l with
    | nil => cases h
    | cons p ps => exact ⟨p, ps, rfl⟩
  | _ => cases h
theorem len_of {r : List PyData} {n : Int} {m : Nat} (h : (r.length : Int) + 1 = n) (e : n = (m : Int) + 1) : r.length = m := by omega
theorem sv_of {d : PyData} {l : Int} (h : isStm d l = true) : SV l d := by
  obtain ⟨k, r, n, rfl, hk, hl, h⟩ := isStm_shape h
  have hm := lk_mem hk
  simp only [kSizes, List.mem_cons, List.not_mem_nil, or_false, Prod.mk.injEq] at hm
  rcases hm with ⟨rfl, rfl⟩ | ⟨rfl, rfl⟩ | ⟨rfl, rfl⟩ | ⟨rfl, rfl⟩ | ⟨rfl, rfl⟩ | ⟨rfl, rfl⟩ | ⟨rfl, rfl⟩ | ⟨rfl, rfl⟩ | ⟨rfl, rfl⟩ | ⟨rfl, rfl⟩ | ⟨rfl, rfl⟩
  · rw [if_pos (by decide)] at h
    match r, len_of (m := 1) hl rfl, h with
    | [a], _, h => obtain ⟨x, rfl⟩ := isName_str h; exact .do_ x
  · rw [if_pos (by decide)] at h
    match r, len_of (m := 1) hl rfl, h with
    | [a], _, h => obtain ⟨x, rfl⟩ := isName_str h; exact .call x
  · rw [if_pos (by decide)] at h
    match r, len_of (m := 3) hl rfl, h with
    | [a, b, c], _, h => obtain ⟨x, rfl⟩ := isName_str h; exact .iff x b c
  · rw [if_pos (by decide)] at h
    match r, len_of (m := 2) hl rfl, h with
    | [a, b], _, h => obtain ⟨x, rfl⟩ := isName_str h; exact .whl x b
  · rw [if_neg (by decide), if_neg (by decide), if_neg (by decide)] at h
    match r, len_of (m := 1) hl rfl, h with
    | [a], _, h => obtain ⟨p, ps, rfl⟩ := ne_tup h; exact .seq p ps
  · rw [if_neg (by decide), if_pos (by decide)] at h
    match r, len_of (m := 1) hl rfl, h with
    | [a], _, h => obtain ⟨x, rfl, h1, h2⟩ := isNum_int h; exact .brk x h1 h2
  · rw [if_neg (by decide), if_pos (by decide)] at h
    match r, len_of (m := 1) hl rfl, h with
    | [a], _, h => obtain ⟨x, rfl, h1, h2⟩ := isNum_int h; exact .cnt x h1 h2
  · match r, len_of (m := 0) hl rfl with
    | [], _ => exact .ret
  · match r, len_of (m := 0) hl rfl with
    | [], _ => exact .rai
  · match r, len_of (m := 2) hl rfl with
    | [a, b], _ => exact .tr a b
  · match r, len_of (m := 2) hl rfl with
    | [a, b], _ => exact .fin a b
/-- the number of a jump -/
def numD : PyData → Nat
  | .tuple [_, .int n] => n.toNat
  | _ => 0
def ndOf (r : Row) : Node :=
  if kindD r.d = "do" then .do_ else if kindD r.d = "call" then .call else if kindD r.d = "return" then .ret else if kindD r.d = "raise" then .rai else
  if kindD r.d = "break" then .brk (numD r.d) else if kindD r.d = "continue" then .cnt (numD r.d) else if kindD r.d = "seq" then .seq r.ch else
  if kindD r.d = "while" then .whl (r.ch.getD 0 0) else if kindD r.d = "if" then .iff (r.ch.getD 0 0) (r.ch.getD 1 0) else
  if kindD r.d = "try" then .tr (r.ch.getD 0 0) (r.ch.getD 1 0) else .fin (r.ch.getD 0 0) (r.ch.getD 1 0)
def tabOf (rows : List Row) : Tab := ⟨rows.length, fun n => match rows[n]? with | some r => ndOf r | none => .do_, fun n => rows[n]?.bind Row.par⟩
def wl (d : PyData) : Nat := if kindD d = "while" then 1 else 0
/-- what is built so far -/
structure BI (st : List WIt) (rows : List Row) (ls : List Nat) : Prop where
  ll : ls.length = rows.length
  dn : ∀ (n : Nat) (r : Row) (l : Nat), rows[n]? = some r → ls[n]? = some l → ∀ c ∈ r.ch, n < c ∧ ∃ r' : Row, rows[c]? = some r' ∧ r'.par = some n ∧ ls[c]? = some (l + wl r.d)
  as : ∀ (n : Nat) (r : Row), rows[n]? = some r → r.ch.Pairwise (· < ·)
  pt : ∀ (n : Nat) (r : Row), rows[n]? = some r → (r.ch.map fun c => (rows[c]?.map Row.d).getD .none) ++ (st.filter fun i => decide (i.par = some n)).map WIt.d = partsD r.d
  sm : ∀ (n : Nat) (r : Row) (l : Nat), rows[n]? = some r → ls[n]? = some l → isStm r.d (l : Int) = true
  it : ∀ i ∈ st, (i.par = none → rows = [] ∧ i.loops = 0 ∧ st.length = 1) ∧ ∀ p : Nat, i.par = some p → ∃ (r : Row) (l : Nat), rows[p]? = some r ∧ ls[p]? = some l ∧ i.loops = l + wl r.d
  up : ∀ (n : Nat) (r : Row) (p : Nat), rows[n]? = some r → r.par = some p → p < n ∧ ∃ rp : Row, rows[p]? = some rp ∧ n ∈ rp.ch
  rt : ∀ r : Row, rows[0]? = some r → r.par = none
  l0 : ∀ l : Nat, ls[0]? = some l → l = 0
theorem addRow_get {rows : List Row} {d : PyData} {par : Option Nat} {n : Nat} {r : Row} (h : (addRow rows d par)[n]? = some r) :
    (n = rows.length ∧ r = ⟨d, par, []⟩) ∨ (∃ r0, rows[n]? = some r0 ∧ r.d = r0.d ∧ r.par = r0.par ∧ ((par = some n ∧ r.ch = r0.ch ++ [rows.length]) ∨ (par ≠ some n ∧ r = r0))) := by
  obtain ⟨bs, hb, hl, hg⟩ : ∃ bs : List Row, addRow rows d par = bs ++ [⟨d, par, []⟩] ∧ bs.length = rows.length ∧ ∀ (n : Nat) (r : Row), bs[n]? = some r → ∃ r0, rows[n]? = some r0 ∧ r.d = r0.d ∧ r.par = r0.par ∧ ((par = some n ∧ r.ch = r0.ch ++ [rows.length]) ∨ (par ≠ some n ∧ r = r0)) := by
    cases par with
    | none => exact ⟨rows, rfl, rfl, fun n r h => ⟨r, h, rfl, rfl, .inr ⟨(fun z => nomatch z), rfl⟩⟩⟩
    | some i =>
      refine ⟨addCh rows i rows.length, rfl, addCh_len _ _ _, fun n r h => ?_⟩
      rw [addCh_eq, List.getElem?_modify] at h
      cases e : rows[n]? with
      | none => rw [e] at h; simp at h
      | some r0 =>
        rw [e] at h
        by_cases z : i = n
        · subst z
          simp at h
          refine ⟨r0, rfl, ?_, ?_, .inl ⟨rfl, ?_⟩⟩ <;> rw [← h] <;> rfl
        · simp [z] at h
          exact ⟨r0, rfl, by rw [h], by rw [h], .inr ⟨fun y => z (Option.some.inj y), h.symm⟩⟩
  rw [hb] at h
  rcases Nat.lt_or_ge n rows.length with lt | ge
  · rw [List.getElem?_append_left (by rw [hl]; exact lt)] at h
    exact .inr (hg n r h)
  · rw [List.getElem?_append_right (by rw [hl]; exact ge), hl] at h
    have e : n - rows.length = 0 := by
      have := (List.getElem?_eq_some_iff.mp h).1
      simp at this
      omega
    rw [e] at h
    simp at h
    exact .inl ⟨by omega, h.symm⟩
theorem addRow_old {rows : List Row} {d : PyData} {par : Option Nat} {n : Nat} {r0 : Row} (h : rows[n]? = some r0) : ∃ r, (addRow rows d par)[n]? = some r ∧ r.d = r0.d ∧ r.par = r0.par := by
  have lt := (List.getElem?_eq_some_iff.mp h).1
  have lt2 : n < (addRow rows d par).length := by rw [addRow_len]; omega
  refine ⟨_, List.getElem?_eq_getElem lt2, ?_⟩
  rcases addRow_get (List.getElem?_eq_getElem lt2) with ⟨e, _⟩ | ⟨r1, h1, h2, h3, _⟩
  · omega
  · rw [h] at h1
    cases h1
    exact ⟨h2, h3⟩
theorem addRow_new {rows : List Row} {d : PyData} {par : Option Nat} : (addRow rows d par)[rows.length]? = some ⟨d, par, []⟩ := by
  have lt2 : rows.length < (addRow rows d par).length := by rw [addRow_len]; omega
  rw [List.getElem?_eq_getElem lt2]
  rcases addRow_get (List.getElem?_eq_getElem lt2) with ⟨_, e⟩ | ⟨r1, h1, _⟩
  · rw [e]
  · have := (List.getElem?_eq_some_iff.mp h1).1
    omega
theorem addRow_d {rows : List Row} {d : PyData} {par : Option Nat} {c : Nat} (hc : c < rows.length) : ((addRow rows d par)[c]?.map Row.d) = rows[c]?.map Row.d := by
  obtain ⟨r, h1, h2, _⟩ := addRow_old (d := d) (par := par) (List.getElem?_eq_getElem hc)
  rw [h1, List.getElem?_eq_getElem hc, Option.map_some, Option.map_some, h2]
theorem BI.step {it : WIt} {st : List WIt} {rows : List Row} {ls : List Nat} (b : BI (it :: st) rows ls) (ok : okIt it rows.length) : BI (newIts it rows.length ++ st) (addRow rows it.d it.par) (ls ++ [it.loops]) := by
  have lsl : ∀ {n l : Nat}, ls[n]? = some l → (ls ++ [it.loops])[n]? = some l := fun {n l} h => by
    rw [List.getElem?_append_left (List.getElem?_eq_some_iff.mp h).1]
    exact h
  have lsn : (ls ++ [it.loops])[rows.length]? = some it.loops := by rw [List.getElem?_append_right (by rw [b.ll]; exact Nat.le_refl _), b.ll, Nat.sub_self] <;> rfl
  have lso : ∀ {n l : Nat}, n < rows.length → (ls ++ [it.loops])[n]? = some l → ls[n]? = some l := fun {n l} hn h => by
    rw [List.getElem?_append_left (by rw [b.ll]; exact hn)] at h
    exact h
  obtain ⟨i1, i2⟩ := b.it it List.mem_cons_self
  have new_par : ∀ i ∈ newIts it rows.length, i.par = some rows.length ∧ i.loops = it.loops + wl it.d := fun i hi => by
    obtain ⟨j, hj, rfl⟩ := List.mem_mapIdx.mp hi
    exact ⟨rfl, rfl⟩
  refine ⟨by rw [List.length_append, addRow_len, b.ll] <;> rfl, fun n r l hr hl c hc => ?_, fun n r hr => ?_, fun n r hr => ?_, fun n r l hr hl => ?_, fun i hi => ?_, fun n r p hr hp => ?_, fun r hr => ?_, fun l hl => ?_⟩
  · rcases addRow_get hr with ⟨rfl, rfl⟩ | ⟨r0, h0, hd, hp, h⟩
    · cases hc
    · have lt := (List.getElem?_eq_some_iff.mp h0).1
      have hl0 := lso lt hl
      have old : ∀ c ∈ r0.ch, n < c ∧ ∃ r' : Row, (addRow rows it.d it.par)[c]? = some r' ∧ r'.par = some n ∧ (ls ++ [it.loops])[c]? = some (l + wl r.d) := fun c hc => by
        obtain ⟨x1, r', x2, x3, x4⟩ := b.dn n r0 l h0 hl0 c hc
        obtain ⟨r2, y1, y2, y3⟩ := addRow_old (d := it.d) (par := it.par) x2
        exact ⟨x1, r2, y1, y3.trans x3, by rw [hd]; exact lsl x4⟩
      rcases h with ⟨hp, hch⟩ | ⟨_, e⟩
      · rw [hch] at hc
        rcases List.mem_append.mp hc with hc | hc
        · exact old c hc
        · have e := List.mem_singleton.mp hc
          subst e
          refine ⟨lt, _, addRow_new, hp, ?_⟩
          obtain ⟨r1, l1, z1, z2, z3⟩ := i2 n hp
          rw [h0] at z1
          cases z1
          rw [hl0] at z2
          cases z2
          rw [lsn, z3, hd]
      · rw [e] at hc
        exact old c hc
  · rcases addRow_get hr with ⟨rfl, rfl⟩ | ⟨r0, h0, hd, hp, h⟩
    · exact .nil
    · rcases h with ⟨hp, hch⟩ | ⟨_, e⟩
      · rw [hch, List.pairwise_append]
        refine ⟨b.as n r0 h0, List.pairwise_singleton _ _, fun c hc y hy => ?_⟩
        rw [List.mem_singleton.mp hy]
        obtain ⟨l, hl⟩ : ∃ l, ls[n]? = some l := ⟨_, List.getElem?_eq_getElem (by rw [b.ll]; exact (List.getElem?_eq_some_iff.mp h0).1)⟩
        obtain ⟨_, r', x2, _⟩ := b.dn n r0 l h0 hl c hc
        exact (List.getElem?_eq_some_iff.mp x2).1
      · rw [e]
        exact b.as n r0 h0
  · rcases addRow_get hr with ⟨rfl, rfl⟩ | ⟨r0, h0, hd, hp, h⟩
    · show ([] : List Nat).map _ ++ _ = _
      rw [List.map_nil, List.nil_append, List.filter_append, List.map_append]
      have e1 : (newIts it rows.length).filter (fun i => decide (i.par = some rows.length)) = newIts it rows.length := List.filter_eq_self.mpr fun i hi => decide_eq_true (new_par i hi).1
      have e2 : st.filter (fun i => decide (i.par = some rows.length)) = [] := List.filter_eq_nil_iff.mpr fun i hi z => by
        obtain ⟨r1, l1, z1, _⟩ := (b.it i (List.mem_cons_of_mem _ hi)).2 _ (of_decide_eq_true z)
        have := (List.getElem?_eq_some_iff.mp z1).1
        omega
      rw [e1, e2, List.map_nil, List.append_nil]
      show (newIts it rows.length).map WIt.d = partsD it.d
      unfold newIts
      apply List.ext_getElem?
      intro j
      rw [List.getElem?_map, List.getElem?_mapIdx]
      cases (partsD it.d)[j]? <;> rfl
    · have lt := (List.getElem?_eq_some_iff.mp h0).1
      obtain ⟨l, hl⟩ : ∃ l, ls[n]? = some l := ⟨_, List.getElem?_eq_getElem (by rw [b.ll]; exact lt)⟩
      have p0 := b.pt n r0 h0
      have e1 : (newIts it rows.length).filter (fun i => decide (i.par = some n)) = [] := List.filter_eq_nil_iff.mpr fun i hi z => by
        have z1 := (new_par i hi).1
        rw [of_decide_eq_true z] at z1
        have := Option.some.inj z1
        omega
      have e3 : (r0.ch.map fun c => ((addRow rows it.d it.par)[c]?.map Row.d).getD .none) = r0.ch.map fun c => (rows[c]?.map Row.d).getD .none := List.map_congr_left fun c hc => by
        obtain ⟨_, r', x2, _⟩ := b.dn n r0 l h0 hl c hc
        rw [addRow_d (List.getElem?_eq_some_iff.mp x2).1]
      rw [List.filter_append, e1, List.nil_append, hd]
      rcases h with ⟨hp, hch⟩ | ⟨hp, e⟩
      · rw [hch, List.map_append, e3, ← p0, List.filter_cons, if_pos (decide_eq_true hp), List.map_cons, List.append_assoc]
        congr 1
        show [(((addRow rows it.d it.par)[rows.length]?).map Row.d).getD .none] ++ _ = _
        rw [addRow_new] <;> rfl
      · rw [e, e3, ← p0, List.filter_cons, if_neg (by simpa using hp)]
  · rcases addRow_get hr with ⟨rfl, rfl⟩ | ⟨r0, h0, hd, hp, h⟩
    · rw [lsn] at hl
      cases hl
      exact ok.2.2.2
    · rw [hd]
      exact b.sm n r0 l h0 (lso (List.getElem?_eq_some_iff.mp h0).1 hl)
  · rcases List.mem_append.mp hi with hi | hi
    · obtain ⟨z1, z2⟩ := new_par i hi
      refine ⟨(fun e => by rw [z1] at e; cases e), fun p hp => ?_⟩
      rw [z1] at hp
      cases hp
      exact ⟨_, _, addRow_new, lsn, z2⟩
    · obtain ⟨z1, z2⟩ := b.it i (List.mem_cons_of_mem _ hi)
      refine ⟨fun e => ?_, fun p hp => ?_⟩
      · have z3 := (z1 e).2.2
        have := List.length_pos_of_mem hi
        rw [List.length_cons] at z3
        omega
      · obtain ⟨r, l, y1, y2, y3⟩ := z2 p hp
        obtain ⟨r2, x1, x2, _⟩ := addRow_old (d := it.d) (par := it.par) y1
        exact ⟨r2, l, x1, lsl y2, by rw [x2]; exact y3⟩
  · have keep : ∀ {rp : Row} {x : Nat}, rows[p]? = some rp → x ∈ rp.ch → ∃ rp' : Row, (addRow rows it.d it.par)[p]? = some rp' ∧ x ∈ rp'.ch := fun {rp x} h1 h2 => by
      obtain ⟨r2, y1, _⟩ := addRow_old (d := it.d) (par := it.par) h1
      refine ⟨r2, y1, ?_⟩
      rcases addRow_get y1 with ⟨e, _⟩ | ⟨r3, z1, _, _, z4⟩
      · have := (List.getElem?_eq_some_iff.mp h1).1
        omega
      · rw [h1] at z1
        cases z1
        rcases z4 with ⟨_, e⟩ | ⟨_, e⟩
        · rw [e]; exact List.mem_append_left _ h2
        · rw [e]; exact h2
    rcases addRow_get hr with ⟨e, rfl⟩ | ⟨r0, h0, hd, hp2, h⟩
    · obtain ⟨rp, l, y1, _⟩ := i2 p hp
      have lt := (List.getElem?_eq_some_iff.mp y1).1
      obtain ⟨r2, y2, _⟩ := addRow_old (d := it.d) (par := it.par) y1
      refine ⟨by omega, r2, y2, ?_⟩
      rcases addRow_get y2 with ⟨e2, _⟩ | ⟨r3, z1, _, _, z4⟩
      · omega
      · rcases z4 with ⟨_, e2⟩ | ⟨e2, _⟩
        · rw [e2, e]; exact List.mem_append_right _ (List.mem_singleton.mpr rfl)
        · exact absurd hp e2
    · rw [hp2] at hp
      obtain ⟨y1, rp, y2, y3⟩ := b.up n r0 p h0 hp
      exact ⟨y1, keep y2 y3⟩
  · rcases addRow_get hr with ⟨e, rfl⟩ | ⟨r0, h0, hd, hp, h⟩
    · show it.par = none
      cases e2 : it.par with
      | none => rfl
      | some p =>
        obtain ⟨r, l, y1, _⟩ := i2 p e2
        have := (List.getElem?_eq_some_iff.mp y1).1
        omega
    · rw [hp]
      exact b.rt r0 h0
  · by_cases hz : rows.length = 0
    · have e : ls = [] := List.eq_nil_of_length_eq_zero (by rw [b.ll]; exact hz)
      subst e
      simp at hl
      cases e2 : it.par with
      | none => rw [← hl]; exact (i1 e2).2.1
      | some p =>
        obtain ⟨r, l, y1, _⟩ := i2 p e2
        have := (List.getElem?_eq_some_iff.mp y1).1
        omega
    · exact b.l0 l (lso (by omega) hl)
theorem BI.all : ∀ {m : Nat} {st : List WIt} {rows fin : List Row}, Builds m st rows fin → ∀ {ls : List Nat}, BI st rows ls → ∃ ls', BI [] fin ls'
  | _, _, _, _, .done _, ls, b => ⟨ls, b⟩
  | _, _, _, _, .step ok h, _, b => BI.all h (b.step ok)
theorem BI.start (d : PyData) : BI [⟨d, none, 1, 0, 0⟩] [] [] :=
  ⟨rfl, fun n r l h => by simp at h, fun n r h => by simp at h, fun n r h => by simp at h, fun n r l h => by simp at h, fun i hi => by
    rw [List.mem_singleton.mp hi]
    exact ⟨fun _ => ⟨rfl, rfl, rfl⟩, fun p hp => nomatch hp⟩, fun n r p h => by simp at h, fun r h => by simp at h, fun l h => by simp at h⟩
/-- the rows of a code: what its runs rest on -/
structure TW (rows : List Row) (lp : Nat → Nat) : Prop where
  wf : (tabOf rows).WF lp
  sv : ∀ (n : Nat) (r : Row), rows[n]? = some r → SV (lp n : Int) r.d ∧ r.ch.length = (partsD r.d).length ∧ r.ch = (ndOf r).ch
  pu : ∀ (n : Nat) (r : Row) (p : Nat), rows[n]? = some r → r.par = some p → p < n ∧ p < rows.length ∧ n ∈ ((tabOf rows).nd p).ch
  pr : ∀ (n : Nat) (r : Row), rows[n]? = some r → ∀ (j c : Nat), r.ch[j]? = some c → ∃ r' : Row, rows[c]? = some r' ∧ (partsD r.d)[j]? = some r'.d
theorem len_two {α : Type} {l : List α} (h : l.length = 2) : ∃ a b, l = [a, b] := by
  match l, h with
  | [a, b], _ => exact ⟨a, b, rfl⟩
theorem len_one {α : Type} {l : List α} (h : l.length = 1) : ∃ a, l = [a] := by
  match l, h with
  | [a], _ => exact ⟨a, rfl⟩
theorem nd_ch {r : Row} {l : Int} (h : SV l r.d) (hl : r.ch.length = (partsD r.d).length) : r.ch = (ndOf r).ch := by
  obtain ⟨d, par, ch⟩ := r
  cases h with
  | do_ x => exact List.eq_nil_of_length_eq_zero (hl.trans rfl)
  | call x => exact List.eq_nil_of_length_eq_zero (hl.trans rfl)
  | ret => exact List.eq_nil_of_length_eq_zero (hl.trans rfl)
  | rai => exact List.eq_nil_of_length_eq_zero (hl.trans rfl)
  | brk n h1 h2 => exact List.eq_nil_of_length_eq_zero (hl.trans rfl)
  | cnt n h1 h2 => exact List.eq_nil_of_length_eq_zero (hl.trans rfl)
  | iff x a b =>
    obtain ⟨a, b, rfl⟩ := len_two (hl.trans rfl)
    rfl
  | whl x a =>
    obtain ⟨a, rfl⟩ := len_one (hl.trans rfl)
    rfl
  | seq p ps => rfl
  | tr a b =>
    obtain ⟨a, b, rfl⟩ := len_two (hl.trans rfl)
    rfl
  | fin a b =>
    obtain ⟨a, b, rfl⟩ := len_two (hl.trans rfl)
    rfl
theorem nd_wl {r : Row} {l : Int} (h : SV l r.d) : wl r.d = (match ndOf r with | .whl _ => 1 | _ => 0) := by
  obtain ⟨d, par, ch⟩ := r
  cases h <;> rfl
theorem tab_nd {rows : List Row} {n : Nat} {r : Row} (h : rows[n]? = some r) : (tabOf rows).nd n = ndOf r := by
  show (match rows[n]? with | some r => ndOf r | none => .do_) = ndOf r
  rw [h]
theorem nd_seq {r : Row} {l : Int} {cs : List Nat} (h : SV l r.d) (hl : r.ch.length = (partsD r.d).length) (e : ndOf r = .seq cs) : cs ≠ [] := by
  obtain ⟨d, par, ch⟩ := r
  cases h with
  | seq p ps =>
    cases e
    intro z
    rw [show ch = [] from z] at hl
    cases hl
  | _ => cases e
theorem nd_brk {r : Row} {l : Nat} {k : Nat} (h : SV (l : Int) r.d) (e : ndOf r = .brk k) : 1 ≤ k ∧ k ≤ l := by
  obtain ⟨d, par, ch⟩ := r
  cases h with
  | brk n h1 h2 =>
    cases e
    show 1 ≤ n.toNat ∧ n.toNat ≤ l
    omega
  | _ => cases e
theorem nd_cnt {r : Row} {l : Nat} {k : Nat} (h : SV (l : Int) r.d) (e : ndOf r = .cnt k) : 1 ≤ k ∧ k ≤ l := by
  obtain ⟨d, par, ch⟩ := r
  cases h with
  | cnt n h1 h2 =>
    cases e
    show 1 ≤ n.toNat ∧ n.toNat ≤ l
    omega
  | _ => cases e
theorem tw_of {fin : List Row} {ls : List Nat} (b : BI [] fin ls) (hne : 0 < fin.length) : TW fin (fun n => ls.getD n 0) := by
  have lpn : ∀ {n l : Nat}, ls[n]? = some l → ls.getD n 0 = l := fun h => by rw [List.getD_eq_getElem?_getD, h] <;> rfl
  have lex : ∀ {n : Nat} {r : Row}, fin[n]? = some r → ∃ l, ls[n]? = some l := fun {n r} h => ⟨_, List.getElem?_eq_getElem (by rw [b.ll]; exact (List.getElem?_eq_some_iff.mp h).1)⟩
  have pt : ∀ (n : Nat) (r : Row), fin[n]? = some r → (r.ch.map fun c => (fin[c]?.map Row.d).getD .none) = partsD r.d := fun n r h => by
    have z := b.pt n r h
    rw [List.filter_nil, List.map_nil, List.append_nil] at z
    exact z
  have sv : ∀ (n : Nat) (r : Row), fin[n]? = some r → SV (ls.getD n 0 : Int) r.d ∧ r.ch.length = (partsD r.d).length ∧ r.ch = (ndOf r).ch := fun n r h => by
    obtain ⟨l, hl⟩ := lex h
    rw [lpn hl]
    have s := sv_of (b.sm n r l h hl)
    have e : r.ch.length = (partsD r.d).length := by rw [← pt n r h, List.length_map]
    exact ⟨s, e, nd_ch s e⟩
  have at_ : ∀ n, n < fin.length → ∃ r, fin[n]? = some r ∧ (tabOf fin).nd n = ndOf r := fun n hn => ⟨_, List.getElem?_eq_getElem hn, tab_nd (List.getElem?_eq_getElem hn)⟩
  refine ⟨⟨hne, ?_, ?_, fun n hn c hc => ?_, fun n hn => ?_, fun n p hn hp => ?_, fun n l hn hd => ?_, fun n k hn hd => ?_, fun n k hn hd => ?_⟩, sv, fun n r p h hp => ?_, fun n r h j c hj => ?_⟩
  · show fin[0]?.bind Row.par = none
    rw [List.getElem?_eq_getElem hne]
    exact b.rt _ (List.getElem?_eq_getElem hne)
  · obtain ⟨l, hl⟩ := lex (List.getElem?_eq_getElem hne)
    rw [lpn hl]
    exact b.l0 l hl
  · obtain ⟨r, hr, e⟩ := at_ n hn
    obtain ⟨s1, s2, s3⟩ := sv n r hr
    rw [e, ← s3] at hc
    obtain ⟨l, hl⟩ := lex hr
    obtain ⟨x1, r', x2, x3, x4⟩ := b.dn n r l hr hl c hc
    refine ⟨x1, (List.getElem?_eq_some_iff.mp x2).1, ?_, ?_⟩
    · show fin[c]?.bind Row.par = some n
      rw [x2]
      exact x3
    · rw [e, lpn x4, lpn hl, nd_wl s1]
      try (cases ndOf r <;> rfl)
  · obtain ⟨r, hr, e⟩ := at_ n hn
    rw [e, ← (sv n r hr).2.2]
    exact (b.as n r hr).imp fun h => Nat.ne_of_lt h
  · obtain ⟨r, hr, e⟩ := at_ n hn
    have hp : fin[n]?.bind Row.par = some p := hp
    rw [hr] at hp
    obtain ⟨_, rp, y2, _⟩ := b.up n r p hr hp
    exact (List.getElem?_eq_some_iff.mp y2).1
  · obtain ⟨r, hr, e⟩ := at_ n hn
    rw [e] at hd
    exact nd_seq (sv n r hr).1 (sv n r hr).2.1 hd
  · obtain ⟨r, hr, e⟩ := at_ n hn
    rw [e] at hd
    exact nd_brk (sv n r hr).1 hd
  · obtain ⟨r, hr, e⟩ := at_ n hn
    rw [e] at hd
    exact nd_cnt (sv n r hr).1 hd
  · obtain ⟨y1, rp, y2, y3⟩ := b.up n r p h hp
    exact ⟨y1, (List.getElem?_eq_some_iff.mp y2).1, by rw [tab_nd y2, ← (sv p rp y2).2.2]; exact y3⟩
  · obtain ⟨l, hl⟩ := lex h
    obtain ⟨_, r', x2, _⟩ := b.dn n r l h hl c (List.mem_of_getElem? hj)
    refine ⟨r', x2, ?_⟩
    rw [← pt n r h, List.getElem?_map, hj, Option.map_some, x2] <;> rfl
end Fc
set_option maxRecDepth 100000
set_option maxHeartbeats 4000000
namespace Fc
open PySem PySem.Spec PyProof.Rows L2 FcR
open Evl (Ex)
open FcM (Way Node Tab)
theorem row_at {rows : List Row} {n : Nat} (h : n < rows.length) : ∃ r, rows[n]? = some r := ⟨_, List.getElem?_eq_getElem h⟩
end Fc
set_option maxRecDepth 100000
set_option maxHeartbeats 4000000
namespace FcM
section
variable {t : Tab} {bits : List Bool}
def Bd (w u : Nat) (v : List Nat) (r : Rs) : Prop := u ≤ r.2.1 ∧ r.2.2.length ≤ v.length + w * (r.2.1 - u + 1)
theorem Bd.mono {w w' u : Nat} {v : List Nat} {r : Rs} (h : Bd w u v r) (e : w ≤ w') : Bd w' u v r := ⟨h.1, Nat.le_trans h.2 (Nat.add_le_add_left (Nat.mul_le_mul_right _ e) _)⟩
theorem Bd.seq {w1 w2 u u1 u2 : Nat} {v v1 v2 : List Nat} {x y : Wt} (a : Bd w1 u v (x, u1, v1)) (b : Bd w2 u1 v1 (y, u2, v2)) : Bd (w1 + w2) u v (y, u2, v2) := by
  obtain ⟨a1, a2⟩ := a
  obtain ⟨b1, b2⟩ := b
  dsimp only at a1 a2 b1 b2
  refine ⟨Nat.le_trans a1 b1, ?_⟩
  dsimp only
  have e1 : w1 * (u1 - u + 1) ≤ w1 * (u2 - u + 1) := Nat.mul_le_mul_left _ (by omega)
  have e2 : w2 * (u2 - u1 + 1) ≤ w2 * (u2 - u + 1) := Nat.mul_le_mul_left _ (by omega)
  rw [Nat.add_mul]
  omega
end
end FcM
set_option maxRecDepth 100000
set_option maxHeartbeats 4000000
namespace FcM
inductive Lay (t : Tab) : Nat → List Nat → Prop
  | top {n : Nat} (h : t.pr n = none) : Lay t n []
  | blk {n p a : Nat} {l : List Nat} (h : t.pr n = some p) (hd : t.nd p = .fin a n) (hn : n ≠ a) (r : Lay t p l) : Lay t n (l ++ [p])
  | up {n p : Nat} {l : List Nat} (h : t.pr n = some p) (hd : ∀ a, t.nd p = .fin a n → n = a) (r : Lay t p l) : Lay t n l
section
variable {t : Tab} {lp : Nat → Nat} {bits : List Bool} {B : Nat}
/-- as a place -/
def LayP (t : Tab) (s : Nat) (l : List Nat) : Prop := match t.nd s with
  | .fin _ _ => ∃ l', l = l' ++ [s] ∧ Lay t s l'
  | _ => Lay t s l
theorem LayP.of {s : Nat} {l : List Nat} (h : ∀ a b, t.nd s ≠ .fin a b) (r : Lay t s l) : LayP t s l := by
  unfold LayP
  split
  · rename_i a b e; exact absurd e (h a b)
  · exact r
theorem LayP.get {s : Nat} {l : List Nat} (h : ∀ a b, t.nd s ≠ .fin a b) (r : LayP t s l) : Lay t s l := by
  unfold LayP at r
  split at r
  · rename_i a b e; exact absurd e (h a b)
  · exact r
end
end FcM
set_option maxRecDepth 100000
set_option maxHeartbeats 4000000
namespace Fc
open PySem PySem.Spec PyProof.Rows L2 FcR
open Evl (Ex)
open FcM (Way Node Tab Pd Rs Wt)
theorem intsV_app (l : List Nat) (n : Nat) : intsV l ++ [.int (n : Int)] = intsV (l ++ [n]) := by unfold intsV; rw [List.map_append] <;> rfl
theorem intsV_len (l : List Nat) : (intsV l).length = l.length := by unfold intsV; rw [List.length_map]
end Fc
set_option maxRecDepth 100000
set_option maxHeartbeats 4000000
namespace Fc
open PySem PySem.Spec PyProof.Rows L2 FcR
open Evl (Ex)
/-- what is raised: C(y), its field f -/
def RaisesA (K : PySem.W.Frag) (C f : Str) (H : Hp) (y : V) (E : XK) : Prop := ∀ H' d, Ex H H' → H d = none → H' d = some (.xd [(f, y)]) → E (.ref (He.ga K C)) (some d) H'
section
variable {P : Program} {w : World} {h : Heap} {K : PySem.W.Frag} {mg : Str → Option Value} {base : Heap}
abbrev N_InvalidTable___init__ : List Str := ["self", "at"]
theorem sc_InvalidTable___init__ : FnScope N_InvalidTable___init__ ["self", "at"] (defScope sd_InvalidTable___init__) := ⟨rfl, rfl, rfl, by decide +kernel, rfl, by decide +kernel, by decide +kernel⟩
theorem okF_InvalidTable___init__ (T : Tx w h K mg) : ∃ fd, FnOk P w K mg base (CX P w) 1 (He.fAd K ("InvalidTable", some "__init__")) fd ["self", "at"] (FcX.spX K (He.ga K "InvalidTable") "at") ∧ Binds K fd ["self", "at"] [] ∧ PySem.W.keepIn K (.ref (He.fAd K ("InvalidTable", some "__init__"))) = true ∧ FunD K "__init__" "InvalidTable.__init__" (defArgs sd_InvalidTable___init__) (defBody sd_InvalidTable___init__) (defScope sd_InvalidTable___init__) [] [] (He.fAd K ("InvalidTable", some "__init__")) fd := by
  obtain ⟨fd, F⟩ := F_InvalidTable___init__ T
  refine ⟨fd, ?_, F.bindsN (fun _ _ _ _ _ _ us hl => match us, hl with | [_, _], _ => rfl), F.kp, F⟩
  refine F.ok sc_InvalidTable___init__ (fun vs H Q E h => ?_) (fun cdv A outer s H vs Q E hr h => ?_)
  · obtain ⟨a, y, rfl, ea, q⟩ := h
    rfl
  · obtain ⟨a, y, rfl, ea, q⟩ := h
    refine ⟨_, PSs.nox (pss_one (FcX.ps_xst (pv 0) (pv 1))), ?_⟩
    exact ⟨y, rfl, .ref a, rfl, a, _, rfl, x_InvalidTable T, (xi_InvalidTable T).tk, ea, fun dx h1 h2 => q dx h1 h2⟩
end
end Fc
set_option maxRecDepth 100000
set_option maxHeartbeats 4000000
namespace FcL
open PySem PySem.Spec PyProof.Rows L2 FcR FcX LamX NdefX
structure LF where
  params : Arguments
  body : Expr
  scope : Scope
  qual : Str
  cl : List (Str × Addr)
  c : Addr
  dV : Value
abbrev LF.fd (F : LF) (pm ctv : Value) : FuncData :=
  { name := "<lambda>", qualname := F.qual, params := F.params, body := .expr F.body, scope := F.scope, globals := mainGlobals, closure := F.cl, defaults := F.dV, kwdefaults := .none, doc := .none, pyModule := pm, annotations := none, code := .ref F.c, closureTuple := ctv, builtins := builtinsNs }
abbrev LF.nf (F : LF) : NF := ⟨"<lambda>", F.qual, F.params, [], F.scope, F.cl, F.c⟩
/-- the object at f is the lambda F -/
def LamO (f : Addr) (F : LF) : HO := .ext fun h => ∃ pm ctv : Value, h.get? f = some ({ cls := .type "function", data := .func (F.fd pm ctv) } : Obj)
theorem lamO_ne {f : Addr} {F : LF} (ps : Array Value) : LamO f F ≠ .tbl ps := fun z => by
  unfold LamO at z
  cases z
/-- its defaults -/
def Dfl (H : Hp) (dV : Value) (ds : List V) : Prop := (dV = .none ∧ ds = []) ∨ ∃ T, dV = .ref T ∧ ds ≠ [] ∧ H T = some (.tup ds)
theorem Dfl.ex {H H' : Hp} {dV : Value} {ds : List V} (d : Dfl H dV ds) (e : ∀ b o, H b = some o → (∀ ps, o ≠ .tbl ps) → H' b = some o) : Dfl H' dV ds := by
  rcases d with z | ⟨T, a, b, c⟩
  · exact .inl z
  · exact .inr ⟨T, a, b, e _ _ c fun ps z => by cases z⟩
/-- the lambda stands there -/
structure LamAt (H : Hp) (f : Addr) (F : LF) (ds : List V) : Prop where
  ob : H f = some (LamO f F)
  co : H F.c = some (CodeO F.c F.qual)
  df : Dfl H F.dV ds
theorem LamAt.ex {H H' : Hp} {f : Addr} {F : LF} {ds : List V} (d : LamAt H f F ds) (e : ∀ b o, H b = some o → (∀ ps, o ≠ .tbl ps) → H' b = some o) : LamAt H' f F ds :=
  ⟨e _ _ d.ob lamO_ne, e _ _ d.co codeO_ne, d.df.ex e⟩
/-- what the captured cells hold, in the base -/
abbrev CellsB (base : Heap) (cl : List (Str × Addr)) (fr : List Str) (ws : List (Option V)) : Prop := CellsAt cl fr ws base (fun _ => none)
abbrev LSp := List (Option V) → Hp → VK → XK → Prop
/-- what a call of the lambda promises -/
structure LOk (P : Program) (w : World) (K : PySem.W.Frag) (mg : Str → Option Value) (base : Heap) (k : Nat) (F : LF) (ds : List V) (fr : List Str) (sp : LSp) : Prop where
  run : ∀ (A : Around) (outer : List Env) (s : Shared) (H : Hp) (f : Addr) (ws : List (Option V)) (Q : VK) (E : XK), Room k A → Env0 P w K mg base A outer s H → LamAt H f F ds → CellsB base F.cl fr ws → sp ws H Q E →
    codeAny (model P w) A (.call (.ref f) ⟨[], []⟩) (CR (L2.CX P w) outer P w H s Q E) s
theorem LOk.mono {P : Program} {w : World} {K : PySem.W.Frag} {mg : Str → Option Value} {base : Heap} {j k : Nat} {F : LF} {ds : List V} {fr : List Str} {sp : LSp} (o : LOk P w K mg base j F ds fr sp) (h : j ≤ k) : LOk P w K mg base k F ds fr sp :=
  ⟨fun A outer s H f ws Q E hr => o.run A outer s H f ws Q E (hr.mono h)⟩
theorem cellsAt_of {P : Program} {w : World} {K : PySem.W.Frag} {mg : Str → Option Value} {base : Heap} {A : Around} {outer : List Env} {s : Shared} {H : Hp} {cl : List (Str × Addr)} {fr : List Str} {ws : List (Option V)} (e0 : Env0 P w K mg base A outer s H) (C : CellsB base cl fr ws) : CellsAt cl fr ws s.heap H := by
  have up : ∀ {c : Addr} {v : Option Value}, base.IsCell c v → s.heap.IsCell c v := fun {c v} ⟨o, ho, hd⟩ => ⟨o, (e0.bs _ _ ho).1, hd⟩
  refine ⟨C.len, fun y c e => ?_, C.inj, fun i y e => ?_⟩
  · obtain ⟨_, v, o, ho, hd⟩ := C.all y c e
    exact ⟨(e0.bs _ _ ho).2, v, up ⟨o, ho, hd⟩⟩
  · obtain ⟨c, hc, hv⟩ := C.has i y e
    refine ⟨c, hc, fun v ev => ?_⟩
    obtain ⟨u, r, z⟩ := hv v ev
    exact ⟨u, r, up z⟩
section
variable {P : Program} {w : World} {K : PySem.W.Frag} {mg : Str → Option Value} {base : Heap} {N ps fr : List Str} {F : LF} {k : Nat} {ds : List V} {sp : LSp}
theorem lok_of (S : NScope N ps fr F.scope) (hl : ds.length = ps.length) (hb : ∀ (s : Shared) (pm ctv : Value) (us : List Value), Vals ds us → ((F.dV = .none ∧ us = []) ∨ ∃ T o n, F.dV = .ref T ∧ us ≠ [] ∧ s.heap.get? T = some o ∧ o.data = .seq us.toArray n) → BindsTo s (F.fd pm ctv) ⟨[], []⟩ (ps.zip us))
    (hbody : ∀ (A : Around) (outer : List Env) (s : Shared) (H : Hp) (f : Addr) (ws : List (Option V)) (Q : VK) (E : XK), Room k (A.deeper (envF F.nf f s.heap.objs.size)) → ws.length = fr.length → sp ws H Q E →
      ∃ t, PE (ncx (L2.CX P w) P w K mg base N F.nf f A outer s H E) F.body t ∧ t (startF N ds ws) H Q) : LOk P w K mg base (k + 1) F ds fr sp := by
  refine ⟨fun A outer s H f ws Q E hr e0 la C hsp => ?_⟩
  have lim : s.heap.NoLimit := e0.mod.nolimit.keeps fun b o e => (e0.bs b o e).1
  obtain ⟨⟨pm, ctv, ho⟩, _, _⟩ := e0.hok f _ la.ob
  have Ca := cellsAt_of e0 C
  obtain ⟨us, r, hus⟩ : ∃ us, Vals ds us ∧ ((F.dV = .none ∧ us = []) ∨ ∃ T o n, F.dV = .ref T ∧ us ≠ [] ∧ s.heap.get? T = some o ∧ o.data = .seq us.toArray n) := by
    rcases la.df with ⟨z1, z2⟩ | ⟨T, z1, z2, z3⟩
    · rw [z2]
      exact ⟨[], .nil, .inl ⟨z1, rfl⟩⟩
    · obtain ⟨_, its, rv, ob, e1, _, n, e2⟩ := e0.hok T _ z3
      exact ⟨its, rv, .inr ⟨T, ob, n, z1, fun z => z2 (List.length_eq_zero_iff.mp (by rw [rv.length, z] <;> rfl)), e1, e2⟩⟩
  refine PySem.W.kla_callFunE hr.depth ho rfl S.co S.gen rfl (codeO_at e0.hok la.co) (hb s pm ctv us r hus _ _ _ _ ?_)
  refine wpAny_newFunctionEnv S.nocell (fun ⟨n, _⟩ hy => S.par n (List.of_mem_zip hy).1) (fun h₁ hns hsb => ⟨lim.fresh _ hsb, ?_⟩) S.kind
  show codeAny _ _ (.expr F.body (envF F.nf f s.heap.objs.size)) _ _
  have kp : ∀ b o, s.heap.get? b = some o → h₁.get? b = some o := fun b o e => hsb.extBut b o (Nat.ne_of_lt (Heap.lt_size e)) (Heap.get?_push_of_some _ e)
  obtain ⟨t, ht, hq⟩ := hbody A outer s H f ws Q E (hr.deeper _) C.len hsp
  have J := inv_startN (CX := L2.CX P w) (f := f) (E := E) (F := F.nf) (tk := s.toks + (ps.zip us).length) S hr.hd e0 hl r Ca hns kp
  refine PySem.W.kla_codeExpr (wpAny_mono (ht.run [] _ _ H Q J hq) (fun v s' hv => ?_) fun e s' he => he)
  obtain ⟨w', H', J', rv, q⟩ := hv
  exact ⟨w', H', J'.os, J'.bare, J'.base, J'.hok, rv, q⟩
end
def tCallLam (base : Heap) (i : Nat) (S : LF → List V → List Str → LSp → Prop) (W : WX) : TE := fun σ H Q => ∃ f F ds fr sp ws, σ[i]? = some (some (.ref f)) ∧ S F ds fr sp ∧ LamAt H f F ds ∧ CellsB base F.cl fr ws ∧ sp ws H Q (WE W σ)
theorem pe_callLam {X : Cx} {k i : Nat} {x : Str} {p pos : Pos} {W : WX} {S : LF → List V → List Str → LSp → Prop} (A : ∀ F ds fr sp, S F ds fr sp → LOk X.prog X.w X.K X.mg X.base k F ds fr sp) (hr : Room k X.A) (hN : X.N[i]? = some x) (hv : Vis X.env.scope x) (tk : Takes X W)
    (hdb : (x == ("__debug__" : Str)) = false := by decide) (hcd : (x == ("__classdict__" : Str)) = false := by decide) : PE X (.Call (.Name x p) [] [] pos) (tCallLam X.base i S W) := by
  refine ⟨fun pins s σ H Q I h => ?_⟩
  obtain ⟨f, F, ds, fr, sp, ws, hs, hS, la, C, hq⟩ := h
  refine wpAny_Call_Name_kw (thn ((pe_var (pos := p) hN hv hdb hcd).run pins s σ H (fun v H1 => v = .ref f ∧ H1 = H) I ⟨.ref f, hs, rfl, rfl⟩) fun u s1 ⟨v, H1, I1, r1, q1⟩ => ?_)
  obtain ⟨rfl, rfl⟩ := q1
  obtain rfl : u = Value.ref f := r1
  obtain ⟨⟨pm, ctv, ho⟩, _, _⟩ := I1.hok f _ la.ob
  refine PySem.W.callWith_F0 (first := []) ⟨_, _, _, _, ho⟩ ?_
  refine wpAny_call (codeAny_mono ((A F ds fr sp hS).run X.A X.stack s1 _ f ws Q (WE W σ) hr I1.env0 la C hq) fun r s2 h2 => ?_)
  cases r with
  | error e => exact passAt tk σ pins _ _ e s2 I1 h2
  | ok fl =>
    cases fl with
    | ret u => exact I1.after h2
    | next => exact False.elim h2
    | brk => exact False.elim h2
    | cont => exact False.elim h2
/-- the cells of the frame stand apart from the base and the frames -/
def Far (X : Cx) : Prop := ∀ y c, X.env.cells.lookup y = some c → X.base.get? c = none ∧ c ∉ frs X.stack
theorem far_of {X : Cx} {pins : List (Addr × Obj)} {σ : L2.St} {H : Hp} {s : Shared} (I : Inv X pins σ H s) (hf : ∀ y, X.fn y = true) : Far X := fun y c e => by
  have ab := I.ok.cab y c (hf y) e
  refine ⟨?_, fun z => ?_⟩
  · cases q : X.base.get? c with
    | none => rfl
    | some o => exact absurd (Heap.lt_size q) (Nat.not_lt.mpr (Nat.le_trans I.ok.bsz ab))
  · have out : c ∉ X.fs := fun z => by
      obtain ⟨_, o, ho, _⟩ := I.ok.funs.mem z
      exact absurd (Heap.lt_size ho) (Nat.not_lt.mpr ab)
    rcases I.ok.stk with q | ⟨q1, q2⟩
    · rw [q] at z
      exact out z
    · rw [q1] at z
      obtain ⟨ev, he, hq⟩ := List.mem_filterMap.mp z
      rcases List.mem_cons.mp he with e1 | e1
      · rw [e1, q2] at hq
        exact I.cne y c e (Option.some.inj hq).symm
      · exact out (List.mem_filterMap.mpr ⟨ev, e1, hq⟩)
/-- the base grown by the cells of the frame env, which hold what σ says -/
structure Grown (X : Cx) (env : Env) (N : List Str) (σ : L2.St) (base' : Heap) : Prop where
  up : ∀ b o, X.base.get? b = some o → base'.get? b = some o
  kin : X.K.In base'
  cells : ∀ (Y : Cx) (cl : List (Str × Addr)) (fr : List Str) (js : List Nat), Y.env = env → Y.N = N → Caps Y cl fr js → CellsB base' cl fr (js.map (slotAt σ))
theorem Grown.env0 {X Y : Cx} {pins pinsY : List (Addr × Obj)} {σ σY : L2.St} {H HY : Hp} {s sY : Shared} (I : Inv X pins σ H s) (IY : Inv Y pinsY σY HY sY) (far : ∀ y c, Y.env.cells.lookup y = some c → X.base.get? c = none ∧ c ∉ frs X.stack)
    (kp : ∀ y c o, Y.env.cells.lookup y = some c → sY.heap.get? c = some o → s.heap.get? c = some o ∧ H c = none) :
    ∃ base', Grown X Y.env Y.N σY base' ∧ Env0 X.prog X.w X.K X.mg base' X.A X.stack s H := by
  classical
  let Hh : Hp := fun b => if (∃ o, X.base.get? b = some o) ∨ (∃ y, Y.env.cells.lookup y = some b) then none else some (.own 0)
  have e0 := I.env0
  have hb : ∀ b o, X.base.get? b = some o → (hidT s.heap Hh).get? b = some o := fun b o e => hidT_get (e0.bs b o e).1 (if_pos (.inl ⟨o, e⟩))
  have hc : ∀ y c o, Y.env.cells.lookup y = some c → sY.heap.get? c = some o → (hidT s.heap Hh).get? c = some o := fun y c o e ho => hidT_get (kp y c o e ho).1 (if_pos (.inr ⟨y, e⟩))
  have bk : ∀ b o, (hidT s.heap Hh).get? b = some o → s.heap.get? b = some o ∧ H b = none ∧ ((∃ o, X.base.get? b = some o) ∨ (∃ y, Y.env.cells.lookup y = some b)) := fun b o e => by
    obtain ⟨h1, h2⟩ := of_hidT e
    by_cases q : (∃ o, X.base.get? b = some o) ∨ (∃ y, Y.env.cells.lookup y = some b)
    · refine ⟨h1, ?_, q⟩
      rcases q with ⟨o', z⟩ | ⟨y, z⟩
      · exact (e0.bs b o' z).2
      · obtain ⟨v, oc, hoc, _⟩ := IY.cell y b z
        exact (kp y b oc z hoc).2
    · have z : Hh b = some (.own 0) := if_neg q
      rw [z] at h2
      cases h2
  have up : ∀ {c : Addr} {v : Option Value} {y : Str}, Y.env.cells.lookup y = some c → sY.heap.IsCell c v → (hidT s.heap Hh).IsCell c v := fun {c v y} e ⟨o, ho, hd⟩ => ⟨o, hc y c o e ho, hd⟩
  have mod : Mod X.K X.mg (hidT s.heap Hh) := by
    obtain ⟨m1, m2, ⟨mb, m3, m4⟩, m5⟩ := e0.mod
    exact ⟨m1.keeps hb, m2.keeps hb, ⟨mb, m3.keeps hb, m4⟩, m5.keeps hb⟩
  refine ⟨hidT s.heap Hh, ⟨hb, mod.kin, fun Z cl fr js eZ eN cp => ?_⟩, e0.frames, mod, fun b o e => ⟨(bk b o e).1, (bk b o e).2.1⟩, Nat.le_of_eq (hidT_size _ _), ?_, e0.frf, e0.hok, e0.bare⟩
  · have cpY : Caps Y cl fr js := by
      obtain ⟨c1, c2, c3, c4⟩ := cp
      rw [eZ] at c1 c2 c3
      rw [eN] at c4
      exact ⟨c1, c2, c3, c4⟩
    have C := cells_of IY cpY
    refine ⟨C.len, fun y c e => ⟨rfl, ?_⟩, C.inj, fun i y e => ?_⟩
    · obtain ⟨_, v, z⟩ := C.all y c e
      exact ⟨v, up (cpY.sub y c e) z⟩
    · obtain ⟨c, h1, h2⟩ := C.has i y e
      refine ⟨c, h1, fun v ev => ?_⟩
      obtain ⟨u, r, z⟩ := h2 v ev
      exact ⟨u, r, up (cpY.sub y c h1) z⟩
  · have all : ∀ l : List Env, (∀ b ∈ frs l, b ∈ frs X.stack) → s.heap.FunFrames X.base l → s.heap.FunFrames (hidT s.heap Hh) l := by
      intro l
      induction l with
      | nil => intro _ _; trivial
      | cons env r ih =>
        intro hs hl
        obtain ⟨hk, ⟨L, o, hf, hn, ho, hd⟩, hr⟩ := hl
        have hL : L ∈ frs X.stack := hs L (List.mem_filterMap.mpr ⟨env, List.mem_cons_self, hf⟩)
        refine ⟨hk, ⟨L, o, hf, ?_, ho, hd⟩, ih (fun b hb => hs b ?_) hr⟩
        · cases q : (hidT s.heap Hh).get? L with
          | none => rfl
          | some o' =>
            rcases (bk L o' q).2.2 with ⟨_, z⟩ | ⟨y, z⟩
            · rw [hn] at z
              cases z
            · exact absurd hL (far y L z).2
        · obtain ⟨ev, he, hq⟩ := List.mem_filterMap.mp hb
          exact List.mem_filterMap.mpr ⟨ev, List.mem_cons_of_mem _ he, hq⟩
    exact all _ (fun _ hb => hb) e0.funs
def tCallG (X : Cx) (env : Env) (N : List Str) (σM : L2.St) (sp : Heap → Sp) (t : TA) : TE := fun σ H Q => t σ H fun vs H1 => ∀ base', Grown X env N σM base' → sp base' vs H1 Q (fun _ _ _ => False)
theorem run_g {X Y : Cx} {pins pinsY : List (Addr × Obj)} {σ σY : L2.St} {H HY : Hp} {s sY : Shared} {k : Nat} {f : Addr} {fd : FuncData} {ps : List Str} {sp : Heap → Sp} {Q : VK} {us : List Value} {vs : List V}
    (F : ∀ base', (∀ b o, X.base.get? b = some o → base'.get? b = some o) → FnG X.prog X.w X.K X.mg base' k f fd ps (sp base')) (hgd : X.A.guards = some []) (hr : Room k X.A) (hb : Binds X.K fd ps [])
    (I : Inv X pins σ H s) (IY : Inv Y pinsY σY HY sY) (far : ∀ y c, Y.env.cells.lookup y = some c → X.base.get? c = none ∧ c ∉ frs X.stack)
    (kp : ∀ y c o, Y.env.cells.lookup y = some c → sY.heap.get? c = some o → s.heap.get? c = some o ∧ H c = none) (r : Vals vs us) (h : ∀ base', Grown X Y.env Y.N σY base' → sp base' vs H Q (fun _ _ _ => False)) :
    wpAny (model X.prog X.w) X.A (call (.ref f) us) (EP X pins σ Q) X.xe s := by
  obtain ⟨base', gr, e0⟩ := Grown.env0 I IY far kp
  exact run_fnG (F base' gr.up) hgd hr hb e0 I r (h base' gr)
def tCallGs (X : Cx) (sp : Heap → Sp) (t : TA) : TE := fun σ => tCallG X X.env X.N σ sp t σ
theorem pe_callG {X : Cx} {k : Nat} {f : Addr} {fd : FuncData} {ps : List Str} {sp : Heap → Sp} {x : Str} {p pos : Pos} {e : Expr} {es : List Expr} {t : TA}
    (F : ∀ base', (∀ b o, X.base.get? b = some o → base'.get? b = some o) → FnG X.prog X.w X.K X.mg base' k f fd ps (sp base')) (hgd : X.A.guards = some []) (hr : Room k X.A) (hg : Gl X x) (hm : X.mg x = some (.ref f)) (hk : PySem.W.keepIn X.K (.ref f) = true) (hb : Binds X.K fd ps [])
    (hfn : ∀ y, X.fn y = true) (ha : PA X (e :: es) t) (hdb : (x == ("__debug__" : Str)) = false := by decide)
    (he : starEach (e :: es) X.env = (false, eval e X.env) :: starEach es X.env := by rfl) (hpl : (backTo pos (starEach es X.env)).any (·.1) = false := by rfl) : PE X (.Call (.Name x p) (e :: es) [] pos) (tCallGs X sp t) := by
  refine ⟨fun pins s σ H Q I h => ?_⟩
  refine wpAny_Call_Name_kw (ld_glob I hg hm ?_ hdb)
  refine PySem.W.callWith_K (h₀ := X.base) I.ok.mod.kin hk (thn (ha.run pos pins s σ H _ I h) fun us s1 ⟨vs, H1, I1, r, q⟩ => ⟨I1.kIn, ?_⟩) he hpl
  exact run_g F hgd hr hb I1 I1 (far_of I1 hfn) (fun y c o e ho => ⟨ho, I1.freeC y c e⟩) r q
end FcL
set_option maxRecDepth 100000
set_option maxHeartbeats 4000000
namespace FcL
open PySem PySem.Spec PyProof.Rows L2 FcR FcX LamX NdefX
section
variable {M : Model} {A : Around} {E : Value → Shared → Prop} {s : Shared} {F : LF} {env : Env} {c P : Addr} {ps : Array Value} {pos : Pos} {line : Nat} {mg : Str → Option Value} {Q : Value → Shared → Prop}
/-- what is left once the defaults are there -/
theorem tail_made (hcl : closureFor F.scope env = pure F.cl) (hgl : env.globals = mainGlobals) (hg : s.heap.Ns mainGlobals mg) (hco : env.code = .ref c) (C : PySem.W.CodeHd s.heap c P) (hP : s.heap.get? P = some { cls := .none, data := .fields ps }) (ht : TriplesOk ps.toList) (gP : mainGlobals ≠ P) (hb : s.heap.BuiltinsAt mg P)
    (new : codeAmong pos ps.toList = none → ∀ (c' : Addr) (ctv : Value) (h' : Heap) (tk : Tok), Heap.ExtBut P s.heap h' → s.heap.objs.size ≤ c' → c' < h'.objs.size → h'.CodeRec (.ref c') F.qual → h'.get? P = some { cls := .none, data := .fields (ps ++ #[rawInt pos.line, rawInt pos.col, .ref c']) } →
      Q (.ref h'.objs.size) { s with heap := h'.push { cls := .type "function", data := .func ({ F with c := c' }.fd ((mg "__name__").getD .none) ctv) }, toks := tk })
    (hit : ∀ c', codeAmong pos ps.toList = some (.ref c') → ∀ (ctv : Value) (h' : Heap) (tk : Tok), (∀ b o, s.heap.get? b = some o → h'.get? b = some o) → s.heap.objs.size ≤ h'.objs.size →
      Q (.ref h'.objs.size) { s with heap := h'.push { cls := .type "function", data := .func ({ F with c := c' }.fd ((mg "__name__").getD .none) ctv) }, toks := tk })
    (hcv : ∀ cv, codeAmong pos ps.toList = some cv → ∃ c', cv = .ref c') :
    wpAny M A (makeTail "<lambda>" F.qual F.params (.expr F.body) F.scope env F.dV .none none pos line) Q E s := by
  obtain ⟨bm, ob, b1, b2, _, b3, b4, b5, b6, b7⟩ := hb
  have up1 : ∀ (oT : Obj) b o, s.heap.get? b = some o → (s.heap.push oT).get? b = some o := fun oT b o e => Heap.get?_push_of_some _ e
  unfold makeTail
  rw [hcl, hgl]
  refine wpAny_bind (wpAny_pure ?_)
  cases hc : codeAmong pos ps.toList with
  | none =>
    cases hF : F.cl with
    | nil =>
      simp only [List.isEmpty_nil, if_true]
      refine wpAny_bind (wpAny_pure (wpAny_bind (wpAny_functionCodeX hco (C.code hP ht) (C.tab hP) hc fun c' h' tk hx k1 k2 _ k3 k4 _ => ?_)))
      have hg' := hg.extBut hx gP
      refine wpAny_bind (wpAny_builtinsFor hg' b1 b2 (hx _ _ b3 b4) b5 b6 b7 (wpAny_bind (wpAny_nsGet hg' (wpAny_bind (wpAny_pure (wpAny_newObj_type ?_ (by size_fits)))))))
      have z := new hc c' .none h' tk hx k1 k2 k3 k4.2
      unfold LF.fd at z
      rw [hF] at z
      exact z
    | cons q r =>
      simp only [List.isEmpty_cons, Bool.false_eq_true, if_false]
      refine wpAny_bind (wpAny_newTextTuple (wpAny_bind (wpAny_functionCodeX hco ((C.keeps (up1 _)).code (up1 _ _ _ hP) ht) ((C.keeps (up1 _)).tab (up1 _ _ _ hP)) hc fun c' h' tk hx k1 k2 _ k3 k4 _ => ?_)))
      have hg' := (hg.push _).extBut hx gP
      have hx' : Heap.ExtBut P s.heap h' := fun b o hb e => hx b o hb (up1 _ _ _ e)
      refine wpAny_bind (wpAny_builtinsFor hg' b1 b2 (hx' _ _ b3 b4) b5 b6 b7 (wpAny_bind (wpAny_nsGet hg' (wpAny_bind (wpAny_pure (wpAny_newObj_type ?_ (by size_fits)))))))
      have z := new hc c' (.ref s.heap.objs.size) h' tk hx' (Nat.le_trans (by rw [Heap.size_push]; omega) k1) k2 k3 k4.2
      unfold LF.fd at z
      rw [hF] at z
      exact z
  | some cv =>
    obtain ⟨c', rfl⟩ := hcv cv hc
    cases hF : F.cl with
    | nil =>
      simp only [List.isEmpty_nil, if_true]
      refine wpAny_bind (wpAny_pure (wpAny_bind (wpAny_functionCode_hit hco (C.code hP ht) hc ?_)))
      refine wpAny_bind (wpAny_builtinsFor hg b1 b2 b4 b5 b6 b7 (wpAny_bind (wpAny_nsGet hg (wpAny_bind (wpAny_pure (wpAny_newObj_type ?_ (by size_fits)))))))
      have z := hit c' hc .none s.heap s.toks (fun _ _ e => e) (Nat.le_refl _)
      unfold LF.fd at z
      rw [hF] at z
      exact z
    | cons q r =>
      simp only [List.isEmpty_cons, Bool.false_eq_true, if_false]
      refine wpAny_bind (wpAny_newTextTuple (wpAny_bind (wpAny_functionCode_hit hco ((C.keeps (up1 _)).code (up1 _ _ _ hP) ht) hc ?_)))
      refine wpAny_bind (wpAny_builtinsFor (hg.push _) b1 b2 (up1 _ _ _ b4) b5 b6 b7 (wpAny_bind (wpAny_nsGet (hg.push _) (wpAny_bind (wpAny_pure (wpAny_newObj_type ?_ (by size_fits)))))))
      have z := fun oT : Obj => hit c' hc (.ref s.heap.objs.size) (s.heap.push oT) s.toks (up1 oT) (by rw [Heap.size_push]; omega)
      unfold LF.fd at z
      rw [hF] at z
      exact z _
end
/-- all but the tables of T stays -/
def ExtT (T : List (Addr × Str)) (H H' : Hp) : Prop := ∀ b o, H b = some o → (∀ p ∈ T, p.1 ≠ b) → H' b = some o
theorem ExtT.n {T : List (Addr × Str)} {H H' : Hp} (e : ExtT T H H') (t : Tabs T H) : ExtN H H' := fun b o h n => e b o h fun p hp z => by
  obtain ⟨ps, h1, _⟩ := t p hp
  rw [z, h] at h1
  exact n ps (Option.some.inj h1)
section
variable {X : Cx} {pins : List (Addr × Obj)} {σ : L2.St} {H : Hp} {s : Shared}
theorem inv_lam {F : LF} {t' : Nat} {pm ctv : Value} (I : Inv X pins σ H s) :
    Inv X pins σ (upd H s.heap.objs.size (LamO s.heap.objs.size F)) { s with heap := s.heap.push { cls := .type "function", data := .func (F.fd pm ctv) }, toks := t' } := by
  refine I.laid (a := s.heap.objs.size) (fun b u e => Heap.get?_push_of_some _ e) (Nat.le_refl _) ?_
  have e : (s.heap.push ({ cls := .type "function", data := .func (F.fd pm ctv) } : Obj)).get? s.heap.objs.size = some ({ cls := .type "function", data := .func (F.fd pm ctv) } : Obj) := Heap.get?_push_size _ rfl
  exact ⟨⟨pm, ctv, e⟩, ⟨_, e⟩, fun h1 h2 ⟨p, t, z⟩ st => ⟨p, t, st _ z⟩⟩
/-- the lambda's object, its code object (new, or found in the table) -/
theorem lam_made {T : List (Addr × Str)} {c P : Addr} {F : LF} {pos : Pos} {E : Value → Shared → Prop} {Q : Value → Shared → Prop} {ds : List V} (I : Inv X pins σ H s) (TB : TabB X.base X.mg c P) (hco : X.env.code = .ref c)
    (hm : (P, F.qual) ∈ T) (hu : ∀ p ∈ T, p.1 = P → p.2 = F.qual) (hT : Tabs T H) (hcl : closureFor F.scope X.env = pure F.cl) (hd : Dfl H F.dV ds)
    (h : ∀ (f c' : Addr) (H1 : Hp) (s' : Shared), Inv X pins σ H1 s' → ExtT T H H1 → (∀ b, H1 b = none → H b = none) → Tabs T H1 → H f = none → LamAt H1 f { F with c := c' } ds → Q (.ref f) s') :
    wpAny (model X.prog X.w) X.A (makeTail "<lambda>" F.qual F.params (.expr F.body) F.scope X.env F.dV .none none pos pos.line) Q E s := by
  obtain ⟨ps, hP, ht, ha⟩ := hT _ hm
  have bP : s.heap.BuiltinsAt X.mg P := TB.bm.keeps I.bk
  have hP' : s.heap.get? P = some { cls := .none, data := .fields ps } := I.hok P _ hP
  refine tail_made (mg := X.mg) (c := c) (P := P) hcl I.ok.glob (I.mod.glob.keeps I.bk) hco (TB.code.keeps I.bk) hP' ht TB.gP bP (fun hc c' ctv h' tk hx hge hlt hrec htb => ?_) (fun c' hc ctv h' tk hx hsz => ?_) fun cv hc => ?_
  · obtain ⟨c2, oc, vs, t, e2, hoc, hdd, hv⟩ := hrec
    cases e2
    have nC : H c' = none := I.hok.fresh hge
    have I1 := inv_table (t' := tk) (more := #[rawInt pos.line, rawInt pos.col, .ref c']) (h' := h') I hP (fun b o hb e => hx b o hb e) htb hge ⟨oc, vs, t, hoc, hdd, hv⟩
    have hE : ExtN H (upd (upd H P (.tbl (ps ++ #[rawInt pos.line, rawInt pos.col, .ref c']))) c' (CodeO c' F.qual)) := fun b o e n => by
      rw [upd_ne (ne_of_none e nC), upd_ne (fun z => n ps (Option.some.inj (e.symm.trans (by rw [z]; exact hP))))]
      exact e
    have eL : (ps ++ #[rawInt pos.line, rawInt pos.col, .ref c']).toList = ps.toList ++ [rawInt pos.line, rawInt pos.col, .ref c'] := by simp
    have T1 : Tabs T (upd (upd H P (.tbl (ps ++ #[rawInt pos.line, rawInt pos.col, .ref c']))) c' (CodeO c' F.qual)) := fun p hp => by
      by_cases hb : p.1 = P
      · rw [hu p hp hb, hb]
        refine ⟨_, by rw [upd_ne (ne_of_none hP nC), upd_same], by rw [eL]; exact PySem.TriplesOk_snoc _ _ _ _ ht, fun p' cv hcv => ?_⟩
        rw [eL] at hcv
        rcases among_app _ ht hcv with z | z
        · obtain ⟨c0, e1, e2⟩ := ha p' cv z
          exact ⟨c0, e1, hE _ _ e2 codeO_ne⟩
        · exact ⟨c', z, upd_same⟩
      · obtain ⟨ps', a1, a2, a3⟩ := hT p hp
        refine ⟨ps', by rw [upd_ne (ne_of_none a1 nC), upd_ne hb]; exact a1, a2, fun p' cv hcv => ?_⟩
        obtain ⟨c0, e1, e2⟩ := a3 p' cv hcv
        exact ⟨c0, e1, hE _ _ e2 codeO_ne⟩
    have nF := I1.hok.fresh (Nat.le_refl _)
    have I2 := inv_lam (F := { F with c := c' }) (t' := tk) (pm := (X.mg "__name__").getD .none) (ctv := ctv) I1
    have hT2 : ExtT T H (upd (upd (upd H P (.tbl (ps ++ #[rawInt pos.line, rawInt pos.col, .ref c']))) c' (CodeO c' F.qual)) h'.objs.size (LamO h'.objs.size { F with c := c' })) := fun b o e n => by
      have z : upd (upd H P (.tbl (ps ++ #[rawInt pos.line, rawInt pos.col, .ref c']))) c' (CodeO c' F.qual) b = some o := by rw [upd_ne (ne_of_none e nC), upd_ne (fun z => n _ hm z.symm)]; exact e
      exact (upd_ne (ne_of_none z nF)).trans z
    have hE2 : ExtN H (upd (upd (upd H P (.tbl (ps ++ #[rawInt pos.line, rawInt pos.col, .ref c']))) c' (CodeO c' F.qual)) h'.objs.size (LamO h'.objs.size { F with c := c' })) := fun b o e n => (upd_ne (ne_of_none (hE b o e n) nF)).trans (hE b o e n)
    refine h h'.objs.size c' _ _ I2 hT2 (fun b e => upd_none (upd_none (upd_none e))) (T1.ext fun b o e => (upd_ne (ne_of_none e nF)).trans e) (I.hok.fresh (Nat.le_trans hge (Nat.le_of_lt hlt))) ⟨upd_same, ?_, hd.ex hE2⟩
    exact (upd_ne (Nat.ne_of_lt hlt)).trans upd_same
  · obtain ⟨c2, e2, hco2⟩ := ha pos _ hc
    cases e2
    have I1 : Inv X pins σ H { s with heap := h', toks := tk } := I.kept hx
    have nF : H h'.objs.size = none := I1.hok.fresh (Nat.le_refl _)
    have I2 := inv_lam (F := { F with c := c' }) (t' := tk) (pm := (X.mg "__name__").getD .none) (ctv := ctv) I1
    have up : ∀ b o, H b = some o → upd H h'.objs.size (LamO h'.objs.size { F with c := c' }) b = some o := fun b o e => (upd_ne (ne_of_none e nF)).trans e
    exact h h'.objs.size c' _ _ I2 (fun b o e _ => up b o e) (fun b e => upd_none e) (hT.ext up) nF ⟨upd_same, up _ _ hco2, hd.ex fun b o e _ => up b o e⟩
  · obtain ⟨c2, e2, _⟩ := ha pos cv hc
    exact ⟨c2, e2⟩
end
/-- the reading of «lambda: ..» -/
def tLamV (X : Cx) (T : List (Addr × Str)) (ds : List V) (fr : List Str) (js : List Nat) (mk : List (Str × Addr) → Addr → Value → LF) : TE := fun _ H Q => Tabs T H ∧ ∀ (f : Addr) (cl : List (Str × Addr)) (c' : Addr) (dV : Value) (H1 : Hp),
  ExtT T H H1 → (∀ b, H1 b = none → H b = none) → Tabs T H1 → H f = none → LamAt H1 f (mk cl c' dV) ds → Caps X cl fr js → Q (.ref f) H1
section
variable {X : Cx} {T : List (Addr × Str)} {c P : Addr} {params : Arguments} {body : Expr} {scope : Scope} {pos : Pos} {fr : List Str} {js : List Nat}
theorem pe_lam (TB : TabB X.base X.mg c P) (hco : X.env.code = .ref c) (hm : (P, X.env.qual ++ "<lambda>") ∈ T) (hu : ∀ p ∈ T, p.1 = P → p.2 = X.env.qual ++ "<lambda>") (hn : ndefB X.env.scope scope fr = true) (hjs : js.map (fun j => X.N[j]?) = fr.map some)
    (hdef : defaultsOf params X.env = ([], [])) : PE X (.Lambda params body scope pos) (tLamV X T [] fr js fun cl c' dV => ⟨params, body, scope, X.env.qual ++ "<lambda>", cl, c', dV⟩) := by
  refine ⟨fun pins s σ H Q I h => ?_⟩
  obtain ⟨hT, h⟩ := h
  have hfr : ∀ y ∈ scope.names, y.2 = .free → ∃ c, X.env.cells.lookup y.1 = some c := fun y hy e => (ndef_free hn y hy e).elim (fun z => I.ok.has _ (.inl z)) fun z => I.ok.has _ (.inr z)
  refine PySem.W.kla_eval hdef ?_
  rw [makeFunction_eq]
  simp only [List.zip_nil_right, List.filterMap_nil, List.isEmpty_nil, if_true, pure_bind]
  refine lam_made (F := ⟨params, body, scope, X.env.qual ++ "<lambda>", cloFrom X.env.cells scope.names [], 0, .none⟩) I TB hco hm hu hT (closure_ok hfr) (.inl ⟨rfl, rfl⟩) fun f c' H1 s' I1 eN nn T1 f0 la => ?_
  exact ⟨.ref f, H1, I1, rfl, h f _ c' .none H1 eN nn T1 f0 la (Caps.made I.ok (ndef_free hn) (ndef_fr hn) hjs)⟩
end
end FcL
set_option maxRecDepth 100000
set_option maxHeartbeats 4000000
namespace FcL
open PySem PySem.Spec PyProof.Rows L2 FcR FcX LamX NdefX
section
variable {X : Cx}
end
end FcL
set_option maxRecDepth 100000
set_option maxHeartbeats 4000000
namespace FcL
open PySem PySem.Spec PyProof.Rows L2 FcR FcX LamX NdefX
/-- data, or an empty dict -/
inductive DpE (K : PySem.W.Frag) (H : Hp) : V → PyData → Prop
  | dp {v : V} {d : PyData} (h : Dp K H v d) (c : PyData.canLay0 d = true) : DpE K H v d
  | dict {a : Addr} (h : H a = some (.dK [])) : DpE K H (.ref a) (.dict [])
section
variable {X : Cx} {k : Nat}
end
end FcL
namespace Fc
open PySem
end Fc
set_option maxRecDepth 100000
set_option maxHeartbeats 4000000
namespace FcL
open PySem PySem.Spec PyProof.Rows L2 FcR FcX LamX NdefX
section
variable {X : Cx} {k : Nat} {f C : Addr} {S : Sp → Prop} {W : WX} {o i : Expr} {pos apos : Pos} {ta ti : TE} {m : Str}
end
section
variable {X : Cx} {CX : CXT} {C f : Addr} {fd : FuncData} {ps ks : List Str} {sp : Sp} {E : XK} {k : Nat} {m : Str} {o : Expr} {apos pos : Pos} {kws : List Keyword} {ta : TE} {tk : TA} {g : List Value → List Value} {gV : List V → List V}
end
end FcL
set_option maxRecDepth 100000
set_option maxHeartbeats 4000000
namespace Fc
open PySem PySem.Spec PyProof.Rows L2 FcR
open Evl (Ex)
def sp_cn (K : PySem.W.Frag) : Sp := fun vs H Q _ => ∃ (F : Hp) (A : CAd) (rows : List Row) (n : Nat), vs = [.ref A.p, .int (n : Int)] ∧ CodeH K F F A rows ∧ Ex F H ∧ n < rows.length ∧ Q .non H
section
variable {P : Program} {w : World} {h : Heap} {K : PySem.W.Frag} {mg : Str → Option Value} {base : Heap}
abbrev N_Code_check_number : List Str := ["self", "number"]
theorem sc_Code_check_number : FnScope N_Code_check_number ["self", "number"] (defScope sd_Code_check_number) := ⟨rfl, rfl, rfl, by decide +kernel, rfl, by decide +kernel, by decide +kernel⟩
theorem ok_Code_check_number (T : Tx w h K mg) : Ok P w K mg base 3 ("Code", some "check_number") ["self", "number"] (sp_cn K) := by
  obtain ⟨fd, F⟩ := F_Code_check_number T
  refine ⟨fd, ?_, F.bindsN (fun _ _ _ _ _ _ us hl => match us, hl with | [_, _], _ => rfl), F.kp⟩
  obtain ⟨fd_is_between, G_is_between, bi_is_between, kp_is_between⟩ := ok_is_between (P := P) (base := base) T
  refine F.ok sc_Code_check_number (fun vs H Q E h => ?_) (fun cdv A outer s H vs Q E hr h => ?_)
  · obtain ⟨F, A, rows, n, rfl, C, xF, hn, q⟩ := h
    rfl
  · obtain ⟨F, A, rows, n, rfl, C, xF, hn, q⟩ := h
    refine ⟨_, PSs.nox (pss_one (ps_if (pt_not (pt_val (pe_call G_is_between (hr.mono (by decide)) rfl (g_is_between T) kp_is_between bi_is_between .nil passF (pa_cons (pv 1) (pa_cons pe_int (pa_cons (pe_op op_sub (pe_callB call_len_seq rfl (fr_len T) b_len (pa_cons (pe_fld (pv 0) rfl) pa_nil)) pe_int) pa_nil)))))) (pss_one ps_never) pss_nil)), ?_⟩
    obtain ⟨vs, C1, _⟩ := C.ex (Evl.Ex.refl _) xF
    refine ⟨_, rfl, _, rfl, A.p, _, _, _, _, rfl, C1.ob, c_Code T, na_Code_kinds T, fl_Code_kinds _ _ _ _ _, A.a2, _, rfl, .inl (Evl.sq_of C1.h2), _, _, rfl, rfl, ?_⟩
    refine ⟨_, _, _, rfl, .inl ⟨_, rfl, ?_⟩⟩
    have e : (decide ((0 : Int) ≤ (n : Int)) && decide ((n : Int) ≤ ((rows.map fun r => V.str (kindD r.d)).length : Int) - 1)) = true := by
      rw [List.length_map]
      simp
      omega
    refine ⟨_, rfl, ?_⟩
    refine itF (by rw [e] <;> rfl) q
end
end Fc
set_option maxRecDepth 100000
set_option maxHeartbeats 4000000
namespace Fc
open PySem PySem.Spec PyProof.Rows L2 FcR
open Evl (Ex)
def BadN (K : PySem.W.Frag) (H : Hp) (u : V) (n : Nat) : Prop := (∃ i : Int, u = .int i ∧ (decide (0 ≤ i) && decide (i ≤ (n : Int) - 1)) = false) ∨
  (∃ t b1 b2, (∀ H', Ex H H' → TyX K H' u t) ∧ PySem.W.kitOne K t (.type "int") = some b1 ∧ PySem.W.kitOne K t (.type "bool") = some b2 ∧ (b1 && !b2) = false)
theorem BadN.ex {K : PySem.W.Frag} {H H' : Hp} {u : V} {n : Nat} (b : BadN K H u n) (e : Ex H H') : BadN K H' u n := by
  rcases b with z | ⟨t, b1, b2, ty, r⟩
  · exact .inl z
  · exact .inr ⟨t, b1, b2, fun H2 e2 => ty H2 (e.trans e2), r⟩
theorem RaisesA.ex {K : PySem.W.Frag} {C f : Str} {H H' : Hp} {y : V} {E : XK} (r : RaisesA K C f H y E) (e : Ex H H') : RaisesA K C f H' y E := fun H2 d x n s => r H2 d (e.trans x) (ex_none e n) s
section
variable {P : Program} {w : World} {h : Heap} {K : PySem.W.Frag} {mg : Str → Option Value} {base : Heap}
end
end Fc
set_option maxRecDepth 100000
set_option maxHeartbeats 4000000
namespace Fc
open PySem PySem.Spec PyProof.Rows L2 FcR
open Evl (Ex)
open FcM (Way Node Tab)
def isPl (r : Row) : Bool := !decide (kindD r.d ∈ (["seq", "try"] : List Str))
def sp_isp (K : PySem.W.Frag) : Sp := fun vs H Q _ => ∃ (F : Hp) (A : CAd) (rows : List Row) (n : Nat) (r : Row), vs = [.ref A.p, .int (n : Int)] ∧ CodeH K F F A rows ∧ Ex F H ∧ rows[n]? = some r ∧ ∀ H', Ex H H' → Q (.bl (isPl r)) H'
/-- the places -/
def plB (rows : List Row) (n : Nat) : Bool := match rows[n]? with
  | some r => isPl r
  | none => false
def plN (rows : List Row) : List Nat := (List.range rows.length).filter (plB rows)
def sp_places (K : PySem.W.Frag) : Sp := fun vs H Q _ => ∃ (F : Hp) (A : CAd) (rows : List Row), vs = [.ref A.p] ∧ CodeH K F F A rows ∧ Ex F H ∧ rows.length ≤ 400 ∧ ∀ (H' : Hp) (a : Addr), Ex H H' → H a = none → H' a = some (.lst (intsV (plN rows))) → Q (.ref a) H'
theorem pl_of {rows : List Row} {n : Nat} {r : Row} (h : rows[n]? = some r) : plB rows n = isPl r := by
  unfold plB
  rw [h]
theorem plN_asc (rows : List Row) : (plN rows).Pairwise (· < ·) := List.Pairwise.sublist List.filter_sublist List.pairwise_lt_range
theorem pl_step {rows : List Row} {i : Nat} {r : Row} (h : rows[i]? = some r) : (List.range (i + 1)).filter (plB rows) = (List.range i).filter (plB rows) ++ (if isPl r = true then [i] else []) := by
  rw [List.range_succ, List.filter_append]
  congr 1
  by_cases z : isPl r = true
  · rw [if_pos z, List.filter_cons_of_pos (by rw [pl_of h]; exact z)] <;> rfl
  · rw [if_neg z, List.filter_cons_of_neg (by rw [pl_of h]; exact z)] <;> rfl
theorem pl_len (rows : List Row) (i : Nat) : ((List.range i).filter (plB rows)).length ≤ i := by
  have := List.length_filter_le (plB rows) (List.range i)
  rw [List.length_range] at this
  exact this
section
variable {P : Program} {w : World} {h : Heap} {K : PySem.W.Frag} {mg : Str → Option Value} {base : Heap}
abbrev N_Code_is_place : List Str := ["self", "number"]
theorem sc_Code_is_place : FnScope N_Code_is_place ["self", "number"] (defScope sd_Code_is_place) := ⟨rfl, rfl, rfl, by decide +kernel, rfl, by decide +kernel, by decide +kernel⟩
theorem ok_Code_is_place (T : Tx w h K mg) : Ok P w K mg base 1 ("Code", some "is_place") ["self", "number"] (sp_isp K) := by
  obtain ⟨fd, F⟩ := F_Code_is_place T
  refine ⟨fd, ?_, F.bindsN (fun _ _ _ _ _ _ us hl => match us, hl with | [_, _], _ => rfl), F.kp⟩
  refine F.ok sc_Code_is_place (fun vs H Q E h => ?_) (fun cdv A outer s H vs Q E hr h => ?_)
  · obtain ⟨F, A, rows, n, r, rfl, C, xF, hw, q⟩ := h
    rfl
  · obtain ⟨F, A, rows, n, r, rfl, C, xF, hw, q⟩ := h
    refine ⟨_, PSs.nox (pss_one (ps_ret (pe_cmpR op_notIn_seq (pe_ix ix_list (pe_fld (pv 0) rfl) (pv 1) (fun _ _ => rfl)) (pe_tup (pa_cons pe_str (pa_cons pe_str pa_nil))) (by rfl)))), ?_⟩
    obtain ⟨vs, C1, _⟩ := C.ex (Evl.Ex.refl _) xF
    refine ⟨_, rfl, A.p, _, _, _, _, rfl, C1.ob, c_Code T, na_Code_kinds T, fl_Code_kinds _ _ _ _ _, _, rfl, A.a2, _, _, .str (kindD r.d), rfl, rfl, Evl.sq_of C1.h2, atI_nat (by rw [List.getElem?_map, hw] <;> rfl), sz (by simp), ?_⟩
    intro p1 n1
    generalize e1 : upd _ p1 _ = H1
    obtain ⟨x1, s1, o1⟩ := new_of e1 n1
    clear e1
    refine ⟨p1, _, rfl, .inr (Evl.st_of s1), rfl, flat_strs ["seq", "try"], ?_⟩
    have e : inV (.str (kindD r.d)) ([.str "seq", .str "try"]) = decide (kindD r.d ∈ (["seq", "try"] : List Str)) := inV_strs _ ["seq", "try"]
    rw [e]
    exact q H1 x1
abbrev N_Code_places : List Str := ["self", "number"]
theorem sc_Code_places : FnScope N_Code_places ["self"] (defScope sd_Code_places) := ⟨rfl, rfl, rfl, by decide +kernel, rfl, by decide +kernel, by decide +kernel⟩
theorem ok_Code_places (T : Tx w h K mg) : Ok P w K mg base 3 ("Code", some "places") ["self"] (sp_places K) := by
  obtain ⟨fd, F⟩ := F_Code_places T
  refine ⟨fd, ?_, F.bindsN (fun _ _ _ _ _ _ us hl => match us, hl with | [_], _ => rfl), F.kp⟩
  obtain ⟨fd_Code_is_place, G_Code_is_place, bi_Code_is_place, kp_Code_is_place⟩ := ok_Code_is_place (P := P) (base := base) T
  refine F.ok sc_Code_places (fun vs H Q E h => ?_) (fun cdv A outer s H vs Q E hr h => ?_)
  · obtain ⟨F, A, rows, rfl, C, xF, hl, q⟩ := h
    rfl
  · obtain ⟨F, A, rows, rfl, C, xF, hl, q⟩ := h
    refine ⟨_, PSs.nox (pss_one (ps_ret (pe_lc (own := [("number", 1)]) rfl sc_Code_places.nd (pi_range1 rfl (fr_range T) (pa_cons (pe_callB call_len_seq rfl (fr_len T) b_len (pa_cons (pe_fld (pv 0) rfl) pa_nil)) pa_nil)) (blkOk_by (N := N_Code_places) (sc := defScope sd_Code_places) (by decide +kernel)) (fun _ _ _ _ _ => (pg_name (i := 1) sc_Code_places.nd rfl (Or.inl rfl))) (fun _ _ _ _ _ => (pts_one (pt_val (pe_meth (pv 0) (c_Code T) (me_Code_is_place T) G_Code_is_place (hr.mono (by decide)) bi_Code_is_place .nil passF (pa_cons (pv 1) pa_nil))))) (fun _ _ _ _ _ => (pv 1))))), ?_⟩
    obtain ⟨vs, C1, _⟩ := C.ex (Evl.Ex.refl _) xF
    refine ⟨_, rfl, A.p, _, _, _, _, rfl, C1.ob, c_Code T, na_Code_kinds T, fl_Code_kinds _ _ _ _ _, A.a2, _, rfl, .inl (Evl.sq_of C1.h2), ?_⟩
    rw [List.length_map]
    refine ⟨_, rfl, (by omega), (by omega), fun D nD => ?_⟩
    refine lc_it (walk_range (lo := 0) (n := rows.length)) (fun i H' => Ex H H' ∧ H' D = some (.lst (intsV ((List.range i).filter (plB rows))))) ?_ ?_ ?_ ?_
    · exact ⟨exu (Evl.Ex.refl _) nD, upd_same⟩
    · exact fun _ _ _ _ => True.intro
    · rintro i v2 Ja Jb hi ⟨x2, l2⟩ ⟨rfl, rfl⟩
      obtain ⟨r, hr⟩ := row_at hi
      have xF2 := xF.trans x2
      obtain ⟨vs2, C2, _⟩ := C.ex (Evl.Ex.refl _) xF2
      have ei : (0 : Int) + (i : Int) = (i : Int) := by omega
      have er := pl_step hr
      rw [er]
      refine ⟨rfl, _, rfl, A.p, _, _, rfl, C2.ob, fm_Code_is_place _ _ _ _ _, _, rfl, F, A, rows, i, r, (by show [V.ref A.p, V.int (0 + (i : Int))] = _; rw [ei]), C, xF2, hr, fun H3 x3 => ?_⟩
      refine ⟨_, rfl, ite_of (fun c => ?_) (fun c => ?_)⟩
      · rw [if_pos c]
        refine ⟨_, rfl, _, x3 _ _ l2, szl (by rw [intsV_len]; have := pl_len rows i; omega), exm (x2.trans x3) nD, ?_⟩
        rw [upd_same, ← intsV_app]
        dsimp only
        rw [ei]
      · rw [if_neg (by rw [c]; decide), List.append_nil]
        exact ⟨x2.trans x3, x3 _ _ l2⟩
    · rintro H2 ⟨x2, l2⟩
      exact q H2 D x2 nD l2
end
end Fc
set_option maxRecDepth 100000
set_option maxHeartbeats 4000000
namespace FcW
open PySem PySem.Spec PyProof.Rows L2
abbrev Ent := List Key × Addr × V
def RelE (p : Ent) (q : List Key × Addr × Value) : Prop := p.1 = q.1 ∧ p.2.1 = q.2.1 ∧ RelV p.2.2 q.2.2
/-- the dict at d is the object o, and has these entries -/
def dW (P : Program) (w : World) (d : Addr) (o : Obj) (xs : List Ent) : HO := .ext fun h => h.get? d = some o ∧ (d == sysModules) = false ∧ xs.length ≤ sizeLine ∧ o.ExactDict ∧
  ∃ ys : List (List Key × Addr × Value), Paired RelE xs ys ∧ (∃ es ep, o.data = .dict es ep ∧ es.toList = ys.map (entryOfKey (tupleKind (mixKind P w)))) ∧ (ys.map (·.1)).Nodup
def kvs (xs : List Ent) : List (List Key × V) := xs.map fun x => (x.1, x.2.2)
def putW (xs : List Ent) (k : List Key) (b : Addr) (v : V) : List Ent :=
  if (valV (kvs xs) k).isSome = true then xs.map (fun x => if x.1 = k then (x.1, x.2.1, v) else x) else xs ++ [(k, b, v)]
def KeysT (K : PySem.W.Frag) (H : Hp) (xs : List Ent) : Prop := ∀ x ∈ xs, SqT K H x.2.1 (x.1.map kV)
def WD (P : Program) (w : World) (K : PySem.W.Frag) (H : Hp) (d : Addr) (o : Obj) (xs : List Ent) : Prop := H d = some (dW P w d o xs) ∧ KeysT K H xs
theorem len_putW (xs : List Ent) (k : List Key) (b : Addr) (v : V) : (putW xs k b v).length ≤ xs.length + 1 := by
  unfold putW
  split
  · rw [List.length_map]; omega
  · rw [List.length_append]; simp
theorem kvs_put (xs : List Ent) (k : List Key) (b : Addr) (v : V) : kvs (putW xs k b v) = putK (kvs xs) k v := by
  unfold putW putK
  rw [valV_any]
  split
  · unfold kvs
    rw [List.map_map, List.map_map]
    refine List.map_congr_left fun x _ => ?_
    by_cases e : x.1 = k
    · simp [e]
    · simp [e]
  · unfold kvs; simp
theorem keysT_put {K : PySem.W.Frag} {H H' : Hp} {xs : List Ent} {k : List Key} {b : Addr} {v : V} (h : KeysT K H xs) (hb : SqT K H b (k.map kV)) (e : ∀ c ys, SqT K H c ys → SqT K H' c ys) : KeysT K H' (putW xs k b v) := by
  intro x hx
  unfold putW at hx
  split at hx
  · obtain ⟨y, hy, rfl⟩ := List.mem_map.mp hx
    by_cases z : y.1 = k
    · simp only [z, if_true]; rw [← z]; exact e _ _ (h y hy)
    · simp only [z, if_false]; exact e _ _ (h y hy)
  · rcases List.mem_append.mp hx with hx | hx
    · exact e _ _ (h x hx)
    · obtain rfl := List.mem_singleton.mp hx
      exact e _ _ hb
section
variable {P : Program} {w : World} {H : Hp} {h : Heap} {d : Addr} {o : Obj} {xs : List Ent}
theorem dw_ok {ys : List (List Key × Addr × Value)} {es : Array DictEntry} {ep : Nat} (h1 : h.get? d = some o) (h2 : (d == sysModules) = false) (h3 : xs.length ≤ sizeLine) (h4 : o.ExactDict) (h5 : Paired RelE xs ys) (h6 : o.data = .dict es ep)
    (h7 : es.toList = ys.map (entryOfKey (tupleKind (mixKind P w)))) (h8 : (ys.map (·.1)).Nodup) : ObjOk P w H h d (dW P w d o xs) :=
  ⟨⟨h1, h2, h3, h4, ys, h5, ⟨es, ep, h6, h7⟩, h8⟩, ⟨o, h1⟩, fun _ _ z k => ⟨k _ z.1, z.2⟩⟩
theorem dw_of (ok : HOk P w H h) (e : H d = some (dW P w d o xs)) : h.get? d = some o ∧ (d == sysModules) = false ∧ xs.length ≤ sizeLine ∧ o.ExactDict ∧
    ∃ ys : List (List Key × Addr × Value), Paired RelE xs ys ∧ (∃ es ep, o.data = .dict es ep ∧ es.toList = ys.map (entryOfKey (tupleKind (mixKind P w)))) ∧ (ys.map (·.1)).Nodup :=
  (show ObjOk P w H h d (dW P w d o xs) from ok d _ e).1
theorem relE_val {ys : List (List Key × Addr × Value)} (r : Paired RelE xs ys) (k : List Key) : RelO (valV (kvs xs) k) ((atKey ys k).map (·.2)) := by
  induction r with
  | nil => exact True.intro
  | @cons p q ps qs z t ih =>
    obtain ⟨z1, z2, z3⟩ := z
    by_cases e : p.1 = k
    · have e' : q.1 = k := z1.symm.trans e
      have b : atKey (q :: qs) k = some q.2 := by simp [atKey, List.find?_cons, e']
      rw [show kvs (p :: ps) = (p.1, p.2.2) :: kvs ps from rfl, valV_pos (p := (p.1, p.2.2)) e, b]; exact z3
    · have e' : ¬ q.1 = k := fun y => e (z1.trans y)
      have b : atKey (q :: qs) k = atKey qs k := by simp [atKey, List.find?_cons, e']
      rw [show kvs (p :: ps) = (p.1, p.2.2) :: kvs ps from rfl, valV_neg (p := (p.1, p.2.2)) e, b]; exact ih
theorem relE_put {ys : List (List Key × Addr × Value)} (r : Paired RelE xs ys) (k : List Key) (b : Addr) {v : V} {u : Value} (rv : RelV v u) : Paired RelE (putW xs k b v) (storedH ys k b u) := by
  have e : (valV (kvs xs) k).isSome = (atKey ys k).isSome := by rw [(relE_val r k).isSome_eq, Option.isSome_map]
  unfold putW storedH
  rw [e]
  by_cases q : (atKey ys k).isSome = true
  · rw [if_pos q, if_pos q]
    clear e q
    induction r with
    | nil => exact .nil
    | @cons p q ps qs z t ih =>
      rw [List.map_cons, List.map_cons]
      refine .cons ?_ ih
      obtain ⟨z1, z2, z3⟩ := z
      unfold putAt
      by_cases e : p.1 = k
      · rw [if_pos e, if_pos (z1.symm.trans e)]; exact ⟨z1, z2, rv⟩
      · rw [if_neg e, if_neg (fun y => e (z1.trans y))]; exact ⟨z1, z2, z3⟩
  · rw [if_neg q, if_neg q]; exact Paired.snoc r ⟨rfl, rfl, rv⟩
end
section
variable {X : Cx} {pins : List (Addr × Obj)} {σ : L2.St} {H : Hp} {s : Shared} {d b : Addr} {o : Obj} {xs : List Ent} {k : List Key} {v : V} {u : Value} {A : Around} {E : Value → Shared → Prop}
theorem key_is (I : Inv X pins σ H s) (e : SqT X.K H b (k.map kV)) : (tupleKind (mixKind X.prog X.w)).is s.heap k b := by
  obtain ⟨its, r, ⟨ob, h1, h2, n, h3⟩, _⟩ := I.tuple e
  exact ⟨ob, its.toArray, n, h1, h2, h3, by simpa using items_are r⟩
theorem mem_pair {ys : List (List Key × Addr × Value)} (r : Paired RelE xs ys) : ∀ y ∈ ys, ∃ x ∈ xs, RelE x y := by
  induction r with
  | nil => intro y hy; exact nomatch hy
  | @cons p q ps qs z t ih =>
    intro y hy
    rcases List.mem_cons.mp hy with rfl | hy
    · exact ⟨p, List.mem_cons_self, z⟩
    · obtain ⟨x, hx, e⟩ := ih y hy
      exact ⟨x, List.mem_cons_of_mem _ hx, e⟩
theorem Inv.way (I : Inv X pins σ H s) (D : WD X.prog X.w X.K H d o xs) : s.heap.get? d = some o ∧ (d == sysModules) = false ∧ xs.length ≤ sizeLine ∧ o.ExactDict ∧
    ∃ (ys : List (List Key × Addr × Value)) (es : Array DictEntry) (ep : Nat), Paired RelE xs ys ∧ o.data = .dict es ep ∧ es.toList = ys.map (entryOfKey (tupleKind (mixKind X.prog X.w))) ∧ s.heap.DictOfH (tupleKind (mixKind X.prog X.w)) d ys := by
  obtain ⟨h1, h2, h3, h4, ys, h5, ⟨es, ep, h6, h7⟩, h8⟩ := dw_of I.hok D.1
  refine ⟨h1, h2, h3, h4, ys, es, ep, h5, h6, h7, o, es, ep, h1, h4, h6, h7, fun y hy => ?_, h8⟩
  obtain ⟨x, hx, e1, e2, _⟩ := mem_pair h5 y hy
  have z := key_is I (D.2 x hx)
  rw [e1, e2] at z
  exact z
/-- d[k] -/
theorem w_getItem {Q : Value → Shared → Prop} (hu : A.units + 1 < cLine) (I : Inv X pins σ H s) (D : WD X.prog X.w X.K H d o xs) (hb : SqT X.K H b (k.map kV)) (g : valV (kvs xs) k = some v) (h : ∀ w' s', Inv X pins σ H s' → RelV v w' → Q w' s') :
    wpAny (model X.prog X.w) A (getItem (.ref d) (.ref b)) Q E s := by
  obtain ⟨_, hd, _, _, ys, es, ep, rel, _, _, dd⟩ := Inv.way I D
  obtain ⟨w', hw, rw'⟩ := RelO.some_of (v := v) (o := (atKey ys k).map (·.2)) (by rw [← g]; exact relE_val rel k)
  obtain ⟨p, hp, hp2⟩ := Option.map_eq_some_iff.mp hw
  refine wpAny_getItem_heap (tupleKind_room_in1 hu) (key_is I hb) dd hp ?_
  rw [hp2]
  exact h w' _ (I.tok _) rw'
/-- d[k], by values -/
def rWIx (P : Program) (w : World) (K : PySem.W.Frag) : R2 := fun x y H Q => ∃ (d b : Addr) (o : Obj) (xs : List Ent) (k : List Key) (v : V), x = .ref d ∧ y = .ref b ∧ WD P w K H d o xs ∧ SqT K H b (k.map kV) ∧ valV (kvs xs) k = some v ∧ Q v H
theorem ix_way (hu : X.A.units + 1 < cLine) : IxR X (rWIx X.prog X.w X.K) := by
  intro value slice pins s σ H x y v u Q I rx ry h hs
  obtain ⟨d, b, o, xs, k, z, rfl, rfl, D, hb, g, q⟩ := h
  cases rx; cases ry
  obtain ⟨_, hd, _, _, ys, es, ep, rel, _, _, dd⟩ := Inv.way I D
  have hT : s.TypeIs (.ref d) "dict" := dd.typeIs
  unfold subscriptTail
  refine wpAny_bind ?_
  rw [getitemInPython_of_ne hT.not_modules]
  refine wpAny_bind (wpAny_specialOf hT PySem.F.slot_dict_getitem.lookup ?_)
  have fin : wpAny (model X.prog X.w) X.A (subscripted slice false (.ref d) (.ref b)) (fun r s₃ => wpAny (model X.prog X.w) X.A (letTemporaryGo value (.ref d) r >>= fun _ => pure r) (EP X pins σ Q) X.xe s₃) X.xe s := by
    rw [hs]
    exact wpAny_operating (w_getItem hu I D hb g fun w' s' I' rw' => wpAny_bind (wpAny_letTemporaryGo (wpAny_pure ⟨z, H, I', rw', q⟩)))
  first
    | exact wpAny_pure (wpAny_bind fin)
    | exact wpAny_bind (wpAny_pure (wpAny_bind fin))
    | exact wpAny_bind fin
/-- d[k] = v -/
def rWSet (P : Program) (w : World) (K : PySem.W.Frag) : TSet := fun x y v H Q => ∃ (d b : Addr) (o : Obj) (xs : List Ent) (k : List Key), x = .ref d ∧ y = .ref b ∧ WD P w K H d o xs ∧ SqT K H b (k.map kV) ∧ xs.length < sizeLine ∧
  ∀ o', Q (upd H d (dW P w d o' (putW xs k b v)))
theorem set_way (hu : X.A.units + 1 < cLine) : PSet X (rWSet X.prog X.w X.K) := by
  intro pins s σ H x y v ov iv u Q I ro ri rv h
  obtain ⟨d, b, o, xs, k, rfl, rfl, D, hb, hl, q⟩ := h
  cases ro; cases ri
  obtain ⟨_, hd, hz, _, ys, es, ep, rel, _, _, dd⟩ := Inv.way I D
  refine wpAny_setItem_heap (hsz := by rw [← Paired.length rel]; exact hz) (tupleKind_room_in1 hu) (key_is I hb) dd fun h' dd' hs => ?_
  obtain ⟨o', es', ep', hq, h2, h3, h4, _, h5⟩ := dd'
  refine ⟨_, d_write (ob := dW X.prog X.w d o' (putW xs k b v)) I (by rw [D.1]; exact True.intro) hs ⟨_, hq⟩ (dw_ok hq hd ?_ h2 (relE_put rel k b rv) h3 h4 h5), q o'⟩
  have := len_putW xs k b v
  omega
/-- {} -/
def tWNew (P : Program) (w : World) : TE := fun _ H Q => ∀ p o, H p = none → Q (.ref p) (upd H p (dW P w p o []))
theorem dw_empty (h : Heap) (hb : sysModules < h.objs.size) : ObjOk X.prog X.w H (h.push { cls := .type "dict", data := .dict #[] }) h.objs.size (dW X.prog X.w h.objs.size { cls := .type "dict", data := .dict #[] } []) :=
  dw_ok (ys := []) (es := #[]) (ep := 0) (Heap.get?_push_size _ rfl) (beq_eq_false_iff_ne.mpr (Ne.symm (Nat.ne_of_lt hb))) (Nat.zero_le _) ⟨rfl, rfl, rfl⟩ .nil rfl rfl List.nodup_nil
theorem pe_wnew {pos : Pos} : PE X (.Dict [] [] pos) (tWNew X.prog X.w) := ⟨fun pins s σ H Q I h =>
  wpAny_Dict_empty ⟨.ref s.heap.objs.size, _, I.laid (a := s.heap.objs.size) (o := dW X.prog X.w s.heap.objs.size _ []) (t' := s.toks) (fun _ _ q => Heap.get?_push_of_some _ q) (Nat.le_refl _) (dw_empty s.heap I.big), rfl, h _ _ (I.hok.fresh (Nat.le_refl _))⟩⟩
end
end FcW
set_option maxRecDepth 100000
set_option maxHeartbeats 4000000
namespace FcW
open PySem PySem.Spec PyProof.Rows L2
section
variable {X : Cx} {pins : List (Addr × Obj)} {σ : L2.St} {H : Hp} {s : Shared} {d b : Addr} {o : Obj} {xs : List Ent} {k : List Key} {v : V} {u : Value} {A : Around} {E : Value → Shared → Prop}
end
section
variable {P : Program} {w : World} {K : PySem.W.Frag} {tg : Expr} {d : Addr} {o : Obj} {es : Array DictEntry} {ep : Nat} {xs : List Ent}
theorem Inv.wraw {X : Cx} {pins : List (Addr × Obj)} {σ : L2.St} {H : Hp} {s : Shared} (I : Inv X pins σ H s) (h : H d = some (dW X.prog X.w d o xs)) (hod : o.data = .dict es ep) :
    (d == sysModules) = false ∧ s.heap.DictRaw d es ep ∧ es.size = xs.length ∧ ∀ (i : Nat) (e : Ent), xs[i]? = some e → ∃ en, es[i]? = some en ∧ en.key = .ref e.2.1 ∧ RelV e.2.2 en.val := by
  obtain ⟨h1, h2, h3, h4, ys, h5, ⟨es', ep', h6, h7⟩, h8⟩ := dw_of I.hok h
  obtain ⟨rfl, rfl⟩ := dict_ep hod h6
  have l1 : es'.size = ys.length := size_of_entries h7
  have l2 : xs.length = ys.length := Paired.length h5
  refine ⟨h2, ⟨o, h1, h4, hod⟩, by omega, fun i e he => ?_⟩
  obtain ⟨y, hy, e1, e2, e3⟩ := paired_get h5 he
  have q := entry_at h7 i
  rw [hy] at q
  exact ⟨_, q, by rw [e2] <;> rfl, e3⟩
end
section
variable {X : Cx} {tg e : Expr} {td : TE} {apos cpos : Pos}
theorem raw_noDict {h : Heap} {d : Addr} {es : Array DictEntry} {ep : Nat} (hm : h.DictRaw d es ep) : ∀ b, Value.ref d = .ref b → ∃ ob, h.get? b = some ob ∧ ob.dict = none := fun b q => by
  cases q
  obtain ⟨o, h1, h2, _⟩ := hm
  exact ⟨o, h1, h2.2.1⟩
end
section
variable {P : Program} {w : World} {d : Addr} {o : Obj} {xs : List Ent}
end
end FcW
set_option maxRecDepth 100000
set_option maxHeartbeats 4000000
namespace FcW
open PySem PySem.Spec PyProof.Rows L2
section
variable {X : Cx}
theorem vals_refs : ∀ as : List Addr, Vals (as.map V.ref) (as.map Value.ref)
  | [] => .nil
  | _ :: as => .cons rfl (vals_refs as)
end
end FcW
set_option maxRecDepth 100000
set_option maxHeartbeats 4000000
namespace FcW
open PySem PySem.Spec PyProof.Rows L2
section
variable {X : Cx}
def rEqNil (K : PySem.W.Frag) : R2 := fun x y H Q => ∃ (a b : Addr) (xs : List V), x = .ref a ∧ y = .ref b ∧ SqT K H a xs ∧ SqT K H b [] ∧ Q (.bl xs.isEmpty) H
theorem op_eqNil {k : Nat} (hr : Room k X.A) : OpR X (compareOp .Eq) (rEqNil X.K) := by
  intro pins s σ H x y v u Q I rx ry h
  obtain ⟨a, b, xs, rfl, rfl, h1, h2, q⟩ := h
  cases rx
  cases ry
  obtain ⟨its, r1, t1, _⟩ := I.tuple h1
  obtain ⟨its2, r2, t2, _⟩ := I.tuple h2
  cases r2
  refine SeqAt.eq_tupleAt (e := fun _ => true) t1 t2 (by have := hr.un; omega) (fun j _ h => absurd h (by simp)) ?_
  have e : ((List.range (min its.toArray.size ([] : List Value).toArray.size)).all (fun _ => true) && its.toArray.size == ([] : List Value).toArray.size) = xs.isEmpty := by
    cases r1 <;> simp
  rw [e]
  exact ⟨.bl _, H, I, rfl, q⟩
/-- a method of such a dict -/
def tBMW (P : Program) (w : World) (r : V → List V → Hp → VK → Prop) (to : TE) (t : TA) : TE := fun σ H Q => to σ H fun x H1 => (∃ d o xs, x = .ref d ∧ H1 d = some (dW P w d o xs)) ∧ t σ H1 fun xs H2 => r x xs H2 Q
variable {o e : Expr} {es : List Expr} {to : TE} {t : TA} {name : Str} {apos cpos : Pos} {id : String} {r : V → List V → Hp → VK → Prop}
theorem pe_bmW (pa : PlainAttrs "dict") (slot : Slot "dict" name id) (hty : typeOf (.builtin id) = pure (.type "method_descriptor")) (hm : MtR X id r) (ho : PE X o to) (ha : PA X (e :: es) t)
    (hbase : attributeBase o name X.env (eval o X.env) = eval o X.env := by rfl)
    (hfew : ((backTo cpos (starEach (e :: es) X.env)).all (fun x => !x.1) && (backToKw cpos (keywordEach [] X.env)).all (fun x => x.1.isSome)
      && decide ((e :: es).length + ([] : List Keyword).length + (if ([] : List Keyword).isEmpty then 0 else 1) < 30)) = true := by rfl)
    (hline : (apos.endLine == cpos.line) = true := by rfl) (hs : starEach (e :: es) X.env = (false, eval e X.env) :: starEach es X.env := by rfl) (hplain : (backTo cpos (starEach es X.env)).any (·.1) = false := by rfl) :
    PE X (.Call (.Attribute o name apos) (e :: es) [] cpos) (tBMW X.prog X.w r to t) := by
  refine ⟨fun pins s σ H Q I h => ?_⟩
  refine wpAny_Call_method_late hbase hfew hline rfl (thn (ho.run pins s σ H _ I h) fun v s1 ⟨x, H1, I1, r1, ty, q1⟩ => ?_)
  obtain ⟨d, ob, xs, rfl, hd⟩ := ty
  obtain rfl : v = Value.ref d := r1
  obtain ⟨_, _, _, _, _, _, ⟨es', ep, hod, _⟩, _⟩ := dw_of I1.hok hd
  obtain ⟨_, hm', _, _⟩ := Inv.wraw I1 hd hod
  refine ⟨"dict", id, pa, slot, hty, hm'.typeIs, raw_noDict hm', ?_⟩
  have hA := ha.run cpos pins s1 σ H1 _ I1 q1
  rw [hs] at hA ⊢
  refine Calls.callWith_builtin (by show (false || (backTo cpos (starEach es X.env)).any (·.1)) = false; rw [hplain] <;> rfl) (Calls.evalArgs_plain ?_)
  exact thn hA fun us s2 ⟨vs, H2, I2, r2, q2⟩ => hm pins s2 σ H2 (.ref d) vs (.ref d) us Q I2 rfl r2 q2
end
end FcW
set_option maxRecDepth 100000
set_option maxHeartbeats 4000000
namespace FcW
open PySem PySem.Spec PyProof.Rows L2
section
variable {X : Cx}
end
end FcW
set_option maxRecDepth 100000
set_option maxHeartbeats 4000000
namespace FcW
open PySem PySem.Spec PyProof.Rows L2
section
variable {X : Cx}
end
end FcW
set_option maxRecDepth 100000
set_option maxHeartbeats 4000000
namespace FcS
open PySem PySem.Spec PyProof.Rows L2
section
variable {P : Program} {w : World} {A : Around} {E : Value → Shared → Prop} {s : Shared}
/-- the empty set that set() begins with -/
abbrev set0 (w : World) : Obj := { cls := .type "set", dict := none, data := .set #[] 0 (.fresh 0 0 (!w.params.followText "set-order")) }
theorem setListI {l : Addr} {items : Array Value} (ns : List Int) {Q : Value → Shared → Prop} (hh : A.handled = none) (hl : s.heap.IsList l items) (hit : IntsAre items.toList ns) (hb : ns.length + 1 < scanBound)
    (h : ∀ (h' : Heap) (tk c : Nat), SetR w h' s.heap.objs.size (fun j => decide (j ∈ ns)) c → c ≤ ns.length → (∀ b o, s.heap.get? b = some o → h'.get? b = some o) → Q (.ref s.heap.objs.size) { s with heap := h', toks := tk }) :
    wpAny (model P w) A (call (.type "set") [.ref l]) Q E s := by
  have nIt : items.size = ns.length := (Array.length_toList (xs := items)).symm.trans (IntsAre.length hit)
  obtain ⟨c, tl, hmro⟩ := F.called_set.mro
  have hmade := F.called_set.made
  have hsub := F.called_set.sub
  refine wpAny_call (codeAny_of_tree (show wpAny _ _ (callAny (.type "set") _) _ _ _ from wpAny_pure ⟨Code.quiet_builtin _ (by decide +kernel), codeAny_builtin F.entry_type_call ?_⟩))
  rw [Around.under_plain (weight_type_call_type "set" [.ref l] []) rfl]
  have nt := F.called_set.notType
  have cc := F.called_set.canCreate
  have tc := F.typeCall_set_1 (.ref l)
  repeat (any_goals (first | assumption | wp_step))
  refine codeAny_mono (code_set_led1 (.ref l) (E := E) (Q₁ := fun ob t => ob = .ref s.heap.objs.size ∧ t = { s with heap := s.heap.push (set0 w) }) ⟨rfl, rfl⟩) fun res s1 hr => ?_
  cases res with
  | error e => exact hr
  | ok fl =>
    cases fl with
    | ret ob =>
      obtain ⟨rfl, rfl⟩ := hr
      have g0 : (s.heap.push (set0 w)).get? s.heap.objs.size = some (set0 w) := Heap.get?_push_size _ rfl
      have t0 : Shared.TypeIs { s with heap := s.heap.push (set0 w) } (.ref s.heap.objs.size) "set" := ⟨_, g0, rfl⟩
      have il := F.called_set.init.lookup
      have ib := F.called_set.init.bind (.ref s.heap.objs.size)
      repeat (any_goals (first | assumption | wp_step))
      refine codeAny_mono (codeAny_call_builtin (R := wants (fun r t => r = .none ∧ ∃ h' tk c, t = { s with heap := h', toks := tk } ∧ SetR w h' s.heap.objs.size (fun j => decide (j ∈ ns)) c ∧ c ≤ ns.length ∧
          (∀ b o, s.heap.get? b = some o → h'.get? b = some o)) E) F.called_set.init.plain F.entry_set_init (check_set_init_1 t0 ?_)) fun r2 s2 hr2 => ?_
      · obtain ⟨ol, ho, hcl, nl, hdl⟩ := hl
        obtain ⟨ocls, odict, odata, oslots⟩ := ol
        simp only at hcl hdl
        subst hcl; subst hdl
        have ho1 : (s.heap.push (set0 w)).get? l = some { cls := .type "list", dict := odict, data := .seq items nl, slots := oslots } := Heap.get?_push_of_some _ ho
        have q1 := F.sub_list_set
        have q2 := F.sub_list_frozenset
        have ne : (Value.type "list" == Value.type "dict") = false := by decide
        have hl1 : (s.heap.push (set0 w)).IsList l items := ⟨_, ho1, rfl, nl, rfl⟩
        unfold Builtin.«set.__init__» noKeywords Builtin.Frozenset.updateFrom
        generalize hPI : pyIter = PI
        wp_walk
        subst hPI
        refine wpAny_pyIter_list hl1 (wpAny_bind (wpAny_runValue ?_))
        have ls : l < s.heap.objs.size := Heap.lt_size ho
        have h3 : A.in1.in1.in1.handled = none := by simp [hh]
        have zz : (s.heap.push (set0 w)).objs.size = s.heap.objs.size + 1 := Heap.size_push ..
        have neI : l ≠ (s.heap.push (set0 w)).objs.size := by rw [zz]; exact Nat.ne_of_lt (Nat.lt_succ_of_lt ls)
        have nf : s.heap.objs.size ∉ [(s.heap.push (set0 w)).objs.size, l] := by
          rw [zz]
          simp only [List.mem_cons, List.not_mem_nil, or_false, not_or]
          exact ⟨Nat.ne_of_lt (Nat.lt_succ_self _), Nat.ne_of_gt ls⟩
        have val : ∀ (i : Nat) (v : Value), items[i]? = some v → ∃ k t, ns[i]? = some k ∧ v = .int k t := fun i v hv => by
          have hi : i < ns.length := nIt ▸ (Array.getElem?_eq_some_iff.mp hv).1
          obtain ⟨t, e⟩ := PyProof.Rows.IntsAre.int_at hit i v (by rw [Array.getElem?_toList]; exact hv)
          exact ⟨ns[i], t, List.getElem?_eq_getElem hi, by rw [e, List.getD_eq_getElem?_getD, List.getElem?_eq_getElem hi] <;> rfl⟩
        refine set_update_ints ((Walks.list h3 _ l neI items).toS) s.heap.objs.size nf ns nIt hb val (items.size - 0) 0 _ (by omega) (Nat.zero_le _) ⟨⟨_, Heap.get?_push_size _ rfl, rfl, rfl⟩, (hl1.push _)⟩ ⟨0, Nat.le_refl 0, setR_new_at (Heap.get?_push_of_some _ g0)⟩ ?_
        intro s' c' hm hc' hS'
        obtain ⟨h', g2, d', tk', os'⟩ := s'
        have e1 : g2 = s.gens := hm.gens
        have e2 : d' = s.drawn := hm.drawn
        have e3 : os' = s.os := hm.os
        subst e1; subst e2; subst e3
        rw [nIt] at hc'
        show wpAny _ _ _ _ _ _
        refine wpAny_pure (show wpAny _ _ (ret Value.none) _ _ _ from wpAny_pure ⟨rfl, h', tk', c', rfl, hS', hc', fun b o e => ?_⟩)
        have b0 : b < s.heap.objs.size := Heap.lt_size e
        exact hm.heap b o (by rw [zz]; simp only [List.mem_cons, List.not_mem_nil, or_false, not_or]; exact ⟨Nat.ne_of_lt b0, Nat.ne_of_lt (Nat.lt_succ_of_lt b0)⟩) (Heap.get?_push_of_some _ (Heap.get?_push_of_some _ e))
      · cases r2 with
        | error e => exact hr2
        | ok fl2 =>
          cases fl2 with
          | ret r =>
            obtain ⟨rfl, h', tk, c', rfl, hS', hc', hk'⟩ := hr2
            repeat (any_goals (first | assumption | wp_step))
            exact h _ _ _ hS' hc' hk'
          | _ => exact hr2.elim
    | _ => exact hr.elim
end
/-- set(xs), xs a list of ints -/
def rSetL (K : PySem.W.Frag) (w : World) : List V → Hp → VK → Prop := fun xs H Q => ∃ (l : Addr) (ns : List Int), xs = [V.ref l] ∧ SqL K H l (ns.map V.int) ∧ ns.length + 1 < scanBound ∧
  ∀ (a : Addr) (ks : List Int), ks.Nodup → (∀ k, k ∈ ks ↔ k ∈ ns) → H a = none → Q (.ref a) (upd H a (SetO w a (fun j => decide (j ∈ ns)) ks.length))
theorem cr_setL {X : Cx} (hc : X.calm = true) : CallR X (.type "set") (rSetL X.K X.w) := by
  intro pins s σ H xs us Q I r h
  obtain ⟨l, ns, rfl, hl, hb, q⟩ := h
  rw [Vals.ref1 r]
  obtain ⟨its, rv, pl, hz⟩ := I.list hl
  have hn : H s.heap.objs.size = none := I.hok.fresh (Nat.le_refl _)
  refine setListI (P := X.prog) (w := X.w) ns (I.ok.hd hc) pl.isList (by simpa using ints_of_vals rv) hb fun h' tk c R _ k => ?_
  obtain ⟨o, es, ep, t, _, _, _, _, nd, hm, _, _, en, _⟩ := id R
  have el : (es.toList.map keyOf).length = c := by rw [List.length_map, Array.length_toList]; exact en
  have z := q s.heap.objs.size (es.toList.map keyOf) nd (fun j => by rw [← hm j]; exact decide_eq_true_iff) hn
  rw [el] at z
  exact ⟨.ref s.heap.objs.size, upd H s.heap.objs.size (SetO X.w s.heap.objs.size (fun j => decide (j ∈ ns)) c), I.laid (t' := tk) k (Nat.le_refl _) (setO_new R), rfl, z⟩
end FcS
set_option maxRecDepth 100000
set_option maxHeartbeats 4000000
namespace FcW
open PySem PySem.Spec PyProof.Rows L2
section
variable {X : Cx} {pins : List (Addr × Obj)} {σ : L2.St} {H : Hp} {s : Shared}
def rWLen (P : Program) (w : World) (K : PySem.W.Frag) : List V → Hp → VK → Prop := fun vs H Q => ∃ (d : Addr) (o : Obj) (xs : List Ent), vs = [V.ref d] ∧ WD P w K H d o xs ∧ Q (.int (xs.length : Int)) H
theorem line63 {n : Nat} (h : n ≤ sizeLine) : ¬ (n : Int) ≥ 2 ^ 63 := by
  have h : n ≤ 16777216 := h
  have : (2 : Int) ^ 63 = 9223372036854775808 := by decide
  omega
theorem cr_lenW : CallR X (.builtin "len") (rWLen X.prog X.w X.K) := by
  intro pins s σ H vs us Q I r h
  obtain ⟨d, o, xs, rfl, D, q⟩ := h
  rw [Vals.ref1 r]
  obtain ⟨_, _, hl, _, ys, es, ep, rel, hod, _, dd⟩ := Inv.way I D
  obtain ⟨hs, hm, hsz, _⟩ := Inv.wraw I D.1 hod
  refine PyProof.Rows.call_len_slot (n := (xs.length : Int)) dd.typeIs PySem.F.slot_dict_len (fun Q' hq => ?_) (by omega) (line63 hl) ?_
  · refine call_len_raw hs hm ?_
    rw [hsz]
    exact hq
  · exact ⟨.int (xs.length : Int), H, (I.tok _).tok _, ⟨_, rfl⟩, q⟩
def rWGet2 (P : Program) (w : World) (K : PySem.W.Frag) : V → List V → Hp → VK → Prop := fun x vs H Q => ∃ (d b : Addr) (o : Obj) (xs : List Ent) (k : List Key) (v : V), x = .ref d ∧ vs = [.ref b, v] ∧ WD P w K H d o xs ∧ SqT K H b (k.map kV) ∧ Q ((valV (kvs xs) k).getD v) H
theorem mt_getW2 (hu : X.A.units + 1 < cLine) : MtR X "dict.get" (rWGet2 X.prog X.w X.K) := by
  intro pins s σ H x vs v us Q I rx r h
  obtain ⟨d, b, o, xs, k, dv, rfl, rfl, D, hb, q⟩ := h
  cases rx
  obtain ⟨u0, us1, rfl, r0, r1⟩ : ∃ u0 us1, us = u0 :: us1 ∧ RelV (V.ref b) u0 ∧ Vals [dv] us1 := by
    cases r with
    | cons h t => exact ⟨_, _, rfl, h, t⟩
  obtain ⟨u1, rfl, ru⟩ := vals1 r1
  obtain rfl : u0 = Value.ref b := r0
  obtain ⟨_, hd, hz, _, ys, es, ep, rel, _, _, dd⟩ := Inv.way I D
  refine call_meetsIn PySem.F.slot_dict_get dd.typeIs PySem.F.entry_dict_get (PySem.F.args_dict_get_3 _ _ _) (meetsH_dict_get_default (tupleKind (mixKind X.prog X.w)) d b hd u1) ⟨tupleKind_room_in1 hu, k, ys, key_is I hb, dd, ?_⟩
  exact ⟨_, H, I.tok _, (relE_val rel k).getD (d := dv) ru, q⟩
def rSLen (w : World) : List V → Hp → VK → Prop := fun vs H Q => ∃ (a : Addr) (S : Int → Bool) (n : Nat), vs = [V.ref a] ∧ H a = some (SetO w a S n) ∧ Q (.int (n : Int)) H
theorem cr_lenS : CallR X (.builtin "len") (rSLen X.w) := by
  intro pins s σ H vs us Q I r h
  obtain ⟨a, S, n, rfl, hd, q⟩ := h
  rw [Vals.ref1 r]
  have R : SetR X.w s.heap a S n := (show ObjOk X.prog X.w H s.heap a (SetO X.w a S n) from I.hok _ _ hd).1
  obtain ⟨o, es, ep, t, ho, he, hd2, _, _, _, hb, hf, hn, _⟩ := R
  refine call_len_set ho he hd2 hf ?_ ?_
  · have hb : es.size < 4096 := hb
    have : (2 : Int) ^ 63 = 9223372036854775808 := by decide
    omega
  · rw [hn]
    exact ⟨.int (n : Int), H, (I.tok _).tok _, ⟨_, rfl⟩, q⟩
end
end FcW
namespace FcR
open PySem PySem.Spec PyProof.Rows L2
theorem b_set : bootBuiltins "set" = some (.type "set") := by decide +kernel
theorem b_dict : bootBuiltins "dict" = some (.type "dict") := by decide +kernel
end FcR
set_option maxRecDepth 100000
set_option maxHeartbeats 4000000
namespace Fc
open PySem PySem.Spec PyProof.Rows L2 FcR
open Evl (Ex)
theorem row_n1 {r : TRow} (h : r.2 ≠ []) : ¬ (HT.sIx (rowV r).length 0 none = 0 ∧ HT.sIx (rowV r).length (rowV r).length (some 1) = (rowV r).length) := by
  have e : HT.sIx (rowV r).length (rowV r).length (some ((1 : Nat) : Int)) = min 1 (rowV r).length := HT.sIx_nat ..
  rintro ⟨_, z⟩
  have z : HT.sIx (rowV r).length (rowV r).length (some ((1 : Nat) : Int)) = (rowV r).length := z
  rw [e] at z
  have l : (rowV r).length = 1 + r.2.length := by simp [rowV]; omega
  have := List.length_pos_iff.mpr h
  omega
theorem row_n2 {r : TRow} : ¬ (HT.sIx (rowV r).length 0 (some 1) = 0 ∧ HT.sIx (rowV r).length (rowV r).length none = (rowV r).length) := by
  have e : HT.sIx (rowV r).length 0 (some ((1 : Nat) : Int)) = min 1 (rowV r).length := HT.sIx_nat ..
  rintro ⟨z, _⟩
  have z : HT.sIx (rowV r).length 0 (some ((1 : Nat) : Int)) = 0 := z
  rw [e] at z
  have l : (rowV r).length = 1 + r.2.length := by simp [rowV]; omega
  omega
theorem row_c1 (r : TRow) : cutV (rowV r) none (some 1) = [.int (r.1 : Int)] := by
  have := cut_to (rowV r) 1
  exact this
theorem row_c2 (r : TRow) : cutV (rowV r) (some 1) none = r.2.map itV := by
  have := cut_from (rowV r) 1
  exact this
theorem getElem?_ints {ms : List Nat} {b : Nat} (h : b < ms.length) : (intsV ms)[b]? = some (.int ((ms.getD b 0 : Nat) : Int)) := by
  unfold intsV
  rw [List.getElem?_map, List.getElem?_eq_getElem h, List.getD_eq_getElem?_getD, List.getElem?_eq_getElem h] <;> rfl
def sp_ren (K : PySem.W.Frag) : Sp := fun vs H Q _ => ∃ (t m : Addr) (r : TRow) (ms : List Nat), vs = [.ref t, .ref m] ∧ RowAt K H t r ∧ H m = some (.lst (intsV ms)) ∧ r.2 ≠ [] ∧ r.2.length ≤ 2 ∧ (∀ b : Nat, Sum.inl b ∈ r.2 → b < ms.length) ∧ ∀ (H' : Hp) (t' : Addr), Ex H H' → H t' = none → H' t' = some (.tup (rowV (renR (fun b => ms.getD b 0) r))) → Q (.ref t') H'
def sp_renD (K : PySem.W.Frag) : Sp := fun vs H Q _ => ∃ (t m : Addr) (r : TRow) (kvs : List (Key × V)) (f : Nat → Nat), vs = [.ref t, .ref m] ∧ RowAt K H t r ∧ H m = some (.dK kvs) ∧ r.2 ≠ [] ∧ r.2.length ≤ 2 ∧ (∀ b : Nat, Sum.inl b ∈ r.2 → valV kvs (.inl (b : Int)) = some (.int (f b : Int))) ∧ ∀ (H' : Hp) (t' : Addr), Ex H H' → H t' = none → H' t' = some (.tup (rowV (renR f r))) → Q (.ref t') H'
section
variable {P : Program} {w : World} {h : Heap} {K : PySem.W.Frag} {mg : Str → Option Value} {base : Heap}
abbrev N_renumbered : List Str := ["row", "numbers", "item"]
theorem sc_renumbered : FnScope N_renumbered ["row", "numbers"] (defScope sd_renumbered) := ⟨rfl, rfl, rfl, by decide +kernel, rfl, by decide +kernel, by decide +kernel⟩
theorem ok_renumbered (T : Tx w h K mg) : Ok P w K mg base 1 ("renumbered", none) ["row", "numbers"] (sp_ren K) := by
  obtain ⟨fd, F⟩ := F_renumbered T
  refine ⟨fd, ?_, F.bindsN (fun _ _ _ _ _ _ us hl => match us, hl with | [_, _], _ => rfl), F.kp⟩
  refine F.ok sc_renumbered (fun vs H Q E h => ?_) (fun cdv A outer s H vs Q E hr h => ?_)
  · obtain ⟨t, m, r, ms, rfl, hw, hm, r0, r2, hb, q⟩ := h
    rfl
  · obtain ⟨t, m, r, ms, rfl, hw, hm, r0, r2, hb, q⟩ := h
    refine ⟨_, PSs.nox (pss_one (ps_ret (pe_op op_catT (pe_slice sl_tup (pv 0) po_none (po_some pe_int)) (pe_callTy call_tuple_of rfl (fr_tuple T) b_tuple (pa_cons (pe_lc (own := [("item", 2)]) rfl sc_renumbered.nd (pi_tup (pe_slice sl_tup (pv 0) (po_some pe_int) po_none)) (blkOk_by (N := N_renumbered) (sc := defScope sd_renumbered) (by decide +kernel)) (fun _ _ _ _ _ => (pg_name (i := 2) sc_renumbered.nd rfl (Or.inl rfl))) (fun _ _ _ _ _ => pts_nil) (fun _ _ _ _ _ => (pe_ifExp (pt_val (pe_callB (show CallR _ _ (rIsi K) from call_isi) rfl (fr_isinstance T) b_isinstance (pa_cons (pv 2) (pa_cons (pe_bltn (v := .ty "str") rfl (fr_str T) b_str rfl) pa_nil)))) (pv 2) (pe_ix (show IxR _ (rIxL K) from ix_list) (pv 1) (pv 2) (fun _ _ => rfl))))) pa_nil))))), ?_⟩
    refine ⟨_, rfl, ?_⟩
    unfold tNoPart
    refine ⟨1, rfl, t, _, rfl, hw, row_n1 r0, ?_⟩
    intro p1 n1
    generalize e1 : upd _ p1 _ = H1
    obtain ⟨x1, s1, o1⟩ := new_of e1 n1
    clear e1
    refine ⟨_, rfl, 1, rfl, t, _, rfl, Evl.ex_t x1 hw, row_n2, ?_⟩
    intro p2 n2
    generalize e2 : upd _ p2 _ = H2
    obtain ⟨x2, s2, o2⟩ := new_of e2 n2
    clear e2
    rw [row_c1] at s1
    rw [row_c2] at s2
    refine ⟨p2, rfl, ⟨_, SqT.of s2⟩, fun D nD => ?_⟩
    have hm2 := x2 _ _ (x1 _ _ hm)
    refine lc_it (walk_tup (xs := r.2.map itV)) (fun i H' => Ex H2 H' ∧ H' D = some (.lst ((r.2.take i).map fun y => itV (renI (fun b => ms.getD b 0) y)))) ?_ ?_ ?_ ?_
    · exact ⟨exu (Evl.Ex.refl _) nD, upd_same⟩
    · exact fun i H' _ ⟨e, _⟩ => Evl.ex_t e (SqT.of s2)
    · rintro i x Ja Jb hi ⟨e, l⟩ ⟨rfl, hx⟩
      rw [List.length_map] at hi
      have li : i < r.2.length := hi
      have hyi : r.2[i]? = some r.2[i] := List.getElem?_eq_getElem li
      rw [List.getElem?_map, hyi] at hx
      cases hx
      generalize r.2[i] = y at hyi
      have ty : ∀ {J : Hp}, TyX K J (itV y) (.type (tyD (itD y))) := dp_ty (dp_it y)
      have lt2 : (r.2.take i).length ≤ 2 := Nat.le_trans (List.length_take_le ..) (by omega)
      have tk := take_one hyi
      refine ⟨rfl, _, rfl, itV y, .ty "str", _, _, _, rfl, .ty _, ty, k_str _, ?_⟩
      cases y with
      | inr s =>
        refine ⟨_, rfl, _, rfl, _, l, szl (by rw [List.length_map]; omega), exm e nD, ?_⟩
        rw [upd_same, tk, List.map_append] <;> rfl
      | inl b =>
        have eb := hb b (List.mem_of_getElem? hyi)
        refine ⟨_, rfl, _, rfl, _, rfl, m, _, (b : Int), _, rfl, rfl, Evl.sq_of (e _ _ hm2), atI_nat (j := b) (by rw [getElem?_ints eb]), ?_⟩
        refine ⟨_, l, szl (by rw [List.length_map]; omega), exm e nD, ?_⟩
        rw [upd_same, tk, List.map_append] <;> rfl
    rintro H3 ⟨e3, l3⟩
    rw [List.length_map, List.take_length] at l3
    refine ⟨D, _, rfl, .inl ⟨Evl.sq_of l3, ?_⟩⟩
    intro p4 n4
    generalize e4 : upd _ p4 _ = H4
    obtain ⟨x4, s4, o4⟩ := new_of e4 n4
    clear e4
    have x24 : Ex H2 H4 := e3.trans x4
    refine ⟨p1, p4, _, _, rfl, rfl, SqT.of (x24 _ _ (x2 _ _ s1)), SqT.of s4, (fun z => by cases z), sz (by simp; omega), ?_⟩
    refine ⟨fun z => ?_, fun _ => ?_⟩
    · have := congrArg List.length z
      rw [List.length_map] at this
      exact absurd (List.length_eq_zero_iff.mp this) r0
    intro p5 n5
    generalize e5 : upd _ p5 _ = H5
    obtain ⟨x5, s5, o5⟩ := new_of e5 n5
    clear e5
    refine q H5 p5 (x1.trans (x2.trans (x24.trans x5))) (ex_none (x1.trans (x2.trans x24)) n5) ?_
    rw [s5]
    show _ = some (HO.tup (V.int (r.1 : Int) :: (r.2.map (renI (fun b => ms.getD b 0))).map itV))
    rw [List.map_map] <;> rfl
theorem ok_renumberedD (T : Tx w h K mg) : Ok P w K mg base 1 ("renumbered", none) ["row", "numbers"] (sp_renD K) := by
  obtain ⟨fd, F⟩ := F_renumbered T
  refine ⟨fd, ?_, F.bindsN (fun _ _ _ _ _ _ us hl => match us, hl with | [_, _], _ => rfl), F.kp⟩
  refine F.ok sc_renumbered (fun vs H Q E h => ?_) (fun cdv A outer s H vs Q E hr h => ?_)
  · obtain ⟨t, m, r, kvs, f, rfl, hw, hm, r0, r2, hb, q⟩ := h
    rfl
  · obtain ⟨t, m, r, kvs, f, rfl, hw, hm, r0, r2, hb, q⟩ := h
    refine ⟨_, PSs.nox (pss_one (ps_ret (pe_op op_catT (pe_slice sl_tup (pv 0) po_none (po_some pe_int)) (pe_callTy call_tuple_of rfl (fr_tuple T) b_tuple (pa_cons (pe_lc (own := [("item", 2)]) rfl sc_renumbered.nd (pi_tup (pe_slice sl_tup (pv 0) (po_some pe_int) po_none)) (blkOk_by (N := N_renumbered) (sc := defScope sd_renumbered) (by decide +kernel)) (fun _ _ _ _ _ => (pg_name (i := 2) sc_renumbered.nd rfl (Or.inl rfl))) (fun _ _ _ _ _ => pts_nil) (fun _ _ _ _ _ => (pe_ifExp (pt_val (pe_callB (show CallR _ _ (rIsi K) from call_isi) rfl (fr_isinstance T) b_isinstance (pa_cons (pv 2) (pa_cons (pe_bltn (v := .ty "str") rfl (fr_str T) b_str rfl) pa_nil)))) (pv 2) (pe_dget (hu_of hr) (pv 1) (pv 2) (fun _ _ => rfl))))) pa_nil))))), ?_⟩
    refine ⟨_, rfl, ?_⟩
    unfold tNoPart
    refine ⟨1, rfl, t, _, rfl, hw, row_n1 r0, ?_⟩
    intro p1 n1
    generalize e1 : upd _ p1 _ = H1
    obtain ⟨x1, s1, o1⟩ := new_of e1 n1
    clear e1
    refine ⟨_, rfl, 1, rfl, t, _, rfl, Evl.ex_t x1 hw, row_n2, ?_⟩
    intro p2 n2
    generalize e2 : upd _ p2 _ = H2
    obtain ⟨x2, s2, o2⟩ := new_of e2 n2
    clear e2
    rw [row_c1] at s1
    rw [row_c2] at s2
    refine ⟨p2, rfl, ⟨_, SqT.of s2⟩, fun D nD => ?_⟩
    have hm2 := x2 _ _ (x1 _ _ hm)
    refine lc_it (walk_tup (xs := r.2.map itV)) (fun i H' => Ex H2 H' ∧ H' D = some (.lst ((r.2.take i).map fun y => itV (renI (f) y)))) ?_ ?_ ?_ ?_
    · exact ⟨exu (Evl.Ex.refl _) nD, upd_same⟩
    · exact fun i H' _ ⟨e, _⟩ => Evl.ex_t e (SqT.of s2)
    · rintro i x Ja Jb hi ⟨e, l⟩ ⟨rfl, hx⟩
      rw [List.length_map] at hi
      have li : i < r.2.length := hi
      have hyi : r.2[i]? = some r.2[i] := List.getElem?_eq_getElem li
      rw [List.getElem?_map, hyi] at hx
      cases hx
      generalize r.2[i] = y at hyi
      have ty : ∀ {J : Hp}, TyX K J (itV y) (.type (tyD (itD y))) := dp_ty (dp_it y)
      have lt2 : (r.2.take i).length ≤ 2 := Nat.le_trans (List.length_take_le ..) (by omega)
      have tk := take_one hyi
      refine ⟨rfl, _, rfl, itV y, .ty "str", _, _, _, rfl, .ty _, ty, k_str _, ?_⟩
      cases y with
      | inr s =>
        refine ⟨_, rfl, _, rfl, _, l, szl (by rw [List.length_map]; omega), exm e nD, ?_⟩
        rw [upd_same, tk, List.map_append] <;> rfl
      | inl b =>
        have eb := hb b (List.mem_of_getElem? hyi)
        refine ⟨_, rfl, _, rfl, _, rfl, m, _, rfl, .inl ⟨_, .inl (b : Int), .inl (e _ _ hm2), rfl, eb.symm⟩, ?_⟩
        refine ⟨_, l, szl (by rw [List.length_map]; omega), exm e nD, ?_⟩
        rw [upd_same, tk, List.map_append] <;> rfl
    rintro H3 ⟨e3, l3⟩
    rw [List.length_map, List.take_length] at l3
    refine ⟨D, _, rfl, .inl ⟨Evl.sq_of l3, ?_⟩⟩
    intro p4 n4
    generalize e4 : upd _ p4 _ = H4
    obtain ⟨x4, s4, o4⟩ := new_of e4 n4
    clear e4
    have x24 : Ex H2 H4 := e3.trans x4
    refine ⟨p1, p4, _, _, rfl, rfl, SqT.of (x24 _ _ (x2 _ _ s1)), SqT.of s4, (fun z => by cases z), sz (by simp; omega), ?_⟩
    refine ⟨fun z => ?_, fun _ => ?_⟩
    · have := congrArg List.length z
      rw [List.length_map] at this
      exact absurd (List.length_eq_zero_iff.mp this) r0
    intro p5 n5
    generalize e5 : upd _ p5 _ = H5
    obtain ⟨x5, s5, o5⟩ := new_of e5 n5
    clear e5
    refine q H5 p5 (x1.trans (x2.trans (x24.trans x5))) (ex_none (x1.trans (x2.trans x24)) n5) ?_
    rw [s5]
    show _ = some (HO.tup (V.int (r.1 : Int) :: (r.2.map (renI (f))).map itV))
    rw [List.map_map] <;> rfl
end
end Fc
set_option maxRecDepth 100000
set_option maxHeartbeats 4000000
namespace Fc
open PySem PySem.Spec PyProof.Rows L2 FcR
open Evl (Ex)
def kvN (L : List Nat) : List (Key × V) := L.mapIdx fun i (n : Nat) => (.inl (n : Int), .int (i : Int))
structure RowsOk (n : Nat) (g : Nat → TRow) : Prop where
  ok : TOk n g
  ne : ∀ a, a < n → (g a).2 ≠ []
  le : ∀ a, a < n → (g a).2.length ≤ 2
def getR (rs : List TRow) (a : Nat) : TRow := rs.getD a (0, [])
theorem valV_snocN {kvs : List (Key × V)} {k : Key} {v : V} (h : valV kvs k = none) : putK kvs k v = kvs ++ [(k, v)] := by
  unfold putK
  rw [if_neg]
  rw [valV_any, h]; decide
theorem kvN_snoc (L : List Nat) (n : Nat) : kvN (L ++ [n]) = kvN L ++ [(.inl (n : Int), .int (L.length : Int))] := by
  unfold kvN
  rw [List.mapIdx_append]
  simp
theorem valV_app (a b : List (Key × V)) (k : Key) : valV (a ++ b) k = (valV a k).or (valV b k) := by
  induction a with
  | nil => rfl
  | cons x a ih =>
    by_cases e : x.1 = k
    · rw [List.cons_append, valV_pos e, valV_pos e] <;> rfl
    · rw [List.cons_append, valV_neg e, valV_neg e, ih]
theorem kvN_val : ∀ (k : Nat) (L : List Nat) (n : Nat), L.length = k → valV (kvN L) (.inl (n : Int)) = if n ∈ L then some (.int (L.idxOf n : Int)) else none
  | 0, L, n, h => by
    obtain rfl := List.length_eq_zero_iff.mp h
    rw [if_neg List.not_mem_nil] <;> rfl
  | k + 1, L, n, h => by
    rcases List.eq_nil_or_concat L with rfl | ⟨M, x, rfl⟩
    · cases h
    · rw [List.concat_eq_append] at h ⊢
      have hM : M.length = k := by simp at h; omega
      rw [kvN_snoc, valV_app, kvN_val k M n hM]
      by_cases e : n ∈ M
      · rw [if_pos e, if_pos (List.mem_append_left _ e), List.idxOf_append, if_pos e] <;> rfl
      · rw [if_neg e, Option.none_or]
        by_cases e2 : n = x
        · subst e2
          rw [valV_pos rfl, if_pos (by simp), List.idxOf_append, if_neg e, List.idxOf_cons_self, Nat.zero_add]
        · rw [valV_neg (fun z : (Sum.inl (x : Int) : Key) = .inl (n : Int) => e2 (by cases z; omega)), if_neg (by simp [e, e2])] <;> rfl
theorem paired_getP {α β : Type} {R : α → β → Prop} : ∀ {xs : List α} {ys : List β}, Paired R xs ys → ∀ {i : Nat} {y : β}, ys[i]? = some y → ∃ x, xs[i]? = some x ∧ R x y
  | _, _, .nil, _, _, h => by cases h
  | _, _, .cons r t, 0, y, h => by cases h; exact ⟨_, rfl, r⟩
  | _, _, .cons r t, i + 1, y, h => paired_getP t (i := i) h
theorem paired_getT {α : Type} {R : α → TRow → Prop} {ts : List α} {rs : List TRow} (h : Paired R ts rs) {x : Nat} (hx : x < rs.length) : ∃ t, ts[x]? = some t ∧ R t (getR rs x) := by
  obtain ⟨t, e, r⟩ := paired_getP h (List.getElem?_eq_getElem hx)
  refine ⟨t, e, ?_⟩
  unfold getR
  rw [List.getD_eq_getElem?_getD, List.getElem?_eq_getElem hx]
  exact r
theorem ordN_next {g : Nat → TRow} {s k x : Nat} (h : (ordN g s k)[k]? = some x) : ordN g s (k + 1) = addN (ordN g s k) (g x).2 := by
  show (match (ordN g s k)[k]? with
    | some n => addN (ordN g s k) (g n).2
    | none => ordN g s k) = _
  rw [h]
def sp_ordD (K : PySem.W.Frag) : Sp := fun vs H Q _ => ∃ (la : Addr) (s n : Nat) (kvs : List (Key × V)) (g : Nat → TRow), vs = [.ref la, .int (s : Int)] ∧ H la = some (.dK kvs) ∧ (∀ c, c < n → ∃ t, valV kvs (.inl (c : Int)) = some (.ref t) ∧ RowAt K H t (g c)) ∧ n ≤ 400 ∧ s < n ∧ RowsOk n g ∧
  ∀ (H' : Hp) (a : Addr) (us : List Addr), Ex H H' → H a = none → H' a = some (.lst (us.map V.ref)) → RowsAt K H' us (ordT g s n) → Q (.ref a) H'
section
variable {P : Program} {w : World} {h : Heap} {K : PySem.W.Frag} {mg : Str → Option Value} {base : Heap}
abbrev N_ordered : List Str := ["rows", "start", "order", "numbers", "at", "item", "one"]
theorem sc_ordered : FnScope N_ordered ["rows", "start"] (defScope sd_ordered) := ⟨rfl, rfl, rfl, by decide +kernel, rfl, by decide +kernel, by decide +kernel⟩
theorem ok_orderedD (T : Tx w h K mg) : Ok P w K mg base 5 ("ordered", none) ["rows", "start"] (sp_ordD K) := by
  obtain ⟨fd, F⟩ := F_ordered T
  refine ⟨fd, ?_, F.bindsN (fun _ _ _ _ _ _ us hl => match us, hl with | [_, _], _ => rfl), F.kp⟩
  obtain ⟨fd_renumbered, G_renumbered, bi_renumbered, kp_renumbered⟩ := ok_renumberedD (P := P) (base := base) T
  refine F.ok sc_ordered (fun vs H Q E h => ?_) (fun cdv A outer s H vs Q E hr h => ?_)
  · obtain ⟨la, s, n, kvs, g, rfl, hla, RA, n4', hs, ok, q⟩ := h
    rfl
  · obtain ⟨la, s, n, kvs, g, rfl, hla, RA, n4', hs, ok, q⟩ := h
    refine ⟨_, PSs.nox (pss_cons (ps_asg (pe_tup (pa_cons (pe_lst (pa_cons (pv 1) pa_nil)) (pa_cons (pe_disp (pps_cons (pv 1) pe_int pps_nil) (by rfl) (by rfl) (fun z => by cases z) (by decide)) (pa_cons pe_int pa_nil)))) (pg_tup rfl (pgs_cons (pg_name (i := 2) sc_ordered.nd rfl (Or.inl rfl)) (pgs_cons (pg_name (i := 3) sc_ordered.nd rfl (Or.inr rfl)) (pgs_cons (pg_name (i := 4) sc_ordered.nd rfl (Or.inl rfl)) pgs_nil))))) (pss_cons (ps_while PassesOwn.never (pt_cmpR op_lt (pv 4) (pe_callB call_len_seq rfl (fr_len T) b_len (pa_cons (pv 2) pa_nil)) (nomark _)) (pss_cons (ps_for PassesOwn.never rfl (pi_tup (pe_slice sl_tup (pe_dget (hu_of hr) (pv 0) (pe_ix ix_list (pv 2) (pv 4) (fun _ _ => rfl)) (fun _ _ => rfl)) (po_some pe_int) po_none)) (pg_name (i := 5) sc_ordered.nd rfl (Or.inl rfl)) (pss_one (ps_if (PW.pt (pw_and (pt_not (pt_val (pe_callB call_isi rfl (fr_isinstance T) b_isinstance (pa_cons (pv 5) (pa_cons (pe_bltn (v := .ty "str") rfl (fr_str T) b_str rfl) pa_nil))))) (pw_and1 (pt_cmp (pc_dnotin (hu_of hr) (pv 5) (pv 3)))))) (pss_cons (ps_asg (pe_callB call_len_seq rfl (fr_len T) b_len (pa_cons (pv 2) pa_nil)) (pg_sub (pv 3) (pv 5) (set_dict (hu_of hr)))) (pss_one (ps_expr (pe_bm PySem.F.plainAttrs_list PySem.F.slot_list_append PySem.F.type_list_append mt_append (pv 2) (pa_cons (pv 5) pa_nil))))) pss_nil))) (pss_one (ps_set (i := 4) sc_ordered.nd rfl (Or.inl rfl) (pe_op op_add (pv 4) pe_int))))) (pss_one (ps_ret (pe_lc (own := [("one", 6)]) rfl sc_ordered.nd (pi_list (pv 2)) (blkOk_by (N := N_ordered) (sc := defScope sd_ordered) (by decide +kernel)) (fun _ _ _ _ _ => (pg_name (i := 6) sc_ordered.nd rfl (Or.inl rfl))) (fun _ _ _ _ _ => pts_nil) (fun _ _ _ _ _ => (pe_call G_renumbered (hr.mono (by decide)) rfl (g_renumbered T) kp_renumbered bi_renumbered .nil passF (pa_cons (pe_dget (hu_of hr) (pv 0) (pv 6) (fun _ _ => rfl)) (pa_cons (pv 3) pa_nil))))))))), ?_⟩
    refine ⟨_, rfl, sz (by simp), ?_⟩
    intro p1 n1
    generalize e1 : upd _ p1 _ = H1
    obtain ⟨x1, s1, o1⟩ := new_of e1 n1
    clear e1
    show ∀ (p2 : Addr), H1 p2 = none → _
    intro p2 n2
    generalize e2 : upd _ p2 _ = H2
    obtain ⟨x2, s2, o2⟩ := new_of e2 n2
    clear e2
    refine ⟨_, rfl, s2, [((.inl (s : Int) : Key), V.int 0)], rfl, (by simp), ?_⟩
    rw [show mergeK [] [((.inl (s : Int) : Key), V.int 0)] = kvN [s] from rfl]
    generalize e3 : upd _ p2 _ = H3
    obtain ⟨s3, o3⟩ := set_of e3
    clear e3
    refine ⟨sz (by simp), ?_⟩
    intro p4 n4
    generalize e4 : upd _ p4 _ = H4
    obtain ⟨x4, s4, o4⟩ := new_of e4 n4
    clear e4
    have n2' : H p2 = none := ex_none x1 n2
    have p12 : p1 ≠ p2 := fun z => by rw [← z, s1] at n2; cases n2
    have p41 : p4 ≠ p1 := fun z => by rw [z, o3 _ p12, x2 _ _ s1] at n4; cases n4
    have p42 : p4 ≠ p2 := fun z => by rw [z, s3] at n4; cases n4
    have xH3 : Ex H H3 := fun b o e => by
      rw [o3 b (fun z => by rw [z, n2'] at e; cases e)]
      exact x2 _ _ (x1 _ _ e)
    have xH4 := xH3.trans x4
    refine ⟨p4, _, rfl, SqT.of s4, rfl, ?_⟩
    refine ⟨_, _, rfl, _, _, rfl, _, _, rfl, rfl, ?_⟩
    have x13' : ∀ {b : Addr} {o o' : HO} {Hq : Hp} {r : Addr}, H b = some o → H r = none → Hq b = some o → (upd Hq r o') b = some o := fun {b o o' Hq r} e n e2 => by
      rw [upd_ne (fun z => by rw [z, n] at e; cases e)]; exact e2
    refine ⟨fun m σ' H' => ∃ (k : Nat) (o5 o6 : Option V), σ' = [some (.ref la), some (.int (s : Int)), some (.ref p1), some (.ref p2), some (.int (k : Int)), o5, o6] ∧ m + k = n ∧ Ex H H' ∧ H' p1 = some (.lst (intsV (ordN g s k))) ∧ H' p2 = some (.dK (kvN (ordN g s k))), ⟨n, 0, none, none, rfl, rfl, xH4, x4 _ _ ((o3 _ p12).trans (x2 _ _ s1)), x4 _ _ s3⟩, ?_⟩
    rintro m σ' H5 ⟨k, u5, u6, rfl, mk, xH5, l5, d5⟩
    obtain ⟨nd, lt, ne, pre⟩ := ordN_ok ok.ok hs k
    have ll : (ordN g s k).length ≤ n := nd_lt nd lt
    refine ⟨_, rfl, _, rfl, p1, _, rfl, .inl (Evl.sq_of l5), _, _, rfl, rfl, ?_⟩
    rw [show (intsV (ordN g s k)).length = (ordN g s k).length from List.length_map ..]
    refine ⟨_, rfl, ite_of (fun c => ?_) (fun c => ?_)⟩
    · have c : k < (ordN g s k).length := by have := of_decide_eq_true c; omega
      refine ⟨fun σ' H' => ∃ (k' : Nat) (o5 o6 : Option V), σ' = [some (.ref la), some (.int (s : Int)), some (.ref p1), some (.ref p2), some (.int (k' : Int)), o5, o6] ∧ (m - 1) + k' = n ∧ Ex H H' ∧ H' p1 = some (.lst (intsV (ordN g s k'))) ∧ H' p2 = some (.dK (kvN (ordN g s k'))), fun σ' H' h => ⟨m - 1, by omega, h⟩, ?_⟩
      obtain ⟨x, hx⟩ : ∃ x, (ordN g s k)[k]? = some x := ⟨_, List.getElem?_eq_getElem c⟩
      have xn : x < n := lt x (List.mem_of_getElem? hx)
      have hx' : (intsV (ordN g s k))[k]? = some (.int (x : Int)) := by unfold intsV; rw [List.getElem?_map, hx] <;> rfl
      have on := ordN_next hx
      generalize ordN g s k = L at *
      obtain ⟨t, ht, rt⟩ := RA x xn; refine ⟨_, rfl, _, rfl, _, rfl, p1, _, (k : Int), _, rfl, rfl, Evl.sq_of l5, atI_nat (j := k) hx', la, _, rfl, .inl ⟨_, .inl (x : Int), .inl (xH5 _ _ hla), rfl, ht.symm⟩, ?_⟩
      refine ⟨1, rfl, ?_⟩
      unfold tNoPart
      refine ⟨t, _, rfl, Evl.ex_t xH5 rt, row_n2, ?_⟩
      intro p6 n6
      generalize e6 : upd _ p6 _ = H6
      obtain ⟨x6, s6, o6⟩ := new_of e6 n6
      clear e6
      rw [row_c2] at s6
      refine ⟨p6, rfl, ⟨_, SqT.of s6⟩, ?_⟩
      have xH6 := xH5.trans x6
      have nd6 : ∀ j, (addN L ((g x).2.take j)).Nodup := fun j => addN_nd _ nd
      have lt6 : ∀ j, ∀ y ∈ addN L ((g x).2.take j), y < n := fun j y hy => by
        rcases addN_in hy with h | h
        · exact lt y h
        · exact ok.ok x xn y (List.mem_of_mem_take h)
      have n6p : p6 ≠ p1 ∧ p6 ≠ p2 := ⟨(fun z => by rw [z, l5] at n6; cases n6), (fun z => by rw [z, d5] at n6; cases n6)⟩
      refine for_it (walk_tup (xs := (g x).2.map itV)) (fun j σ' H' => ∃ o5' : Option V, σ' = [some (.ref la), some (.int (s : Int)), some (.ref p1), some (.ref p2), some (.int (k : Int)), o5', u6] ∧ Ex H H' ∧ H' p6 = some (.tup ((g x).2.map itV)) ∧ H' p1 = some (.lst (intsV (addN L ((g x).2.take j)))) ∧ H' p2 = some (.dK (kvN (addN L ((g x).2.take j))))) ?_ ?_ ?_ ?_
      · exact ⟨_, rfl, xH6, s6, x6 _ _ l5, x6 _ _ d5⟩
      · exact fun i σ' H' _ ⟨_, _, _, e, _⟩ => SqT.of e
      · rintro j v σ' Ha H7 hj ⟨o5', rfl, xH7, s7, l7, d7⟩ ⟨rfl, hv⟩
        rw [List.length_map] at hj
        have hyi : (g x).2[j]? = some (g x).2[j] := List.getElem?_eq_getElem hj
        rw [List.getElem?_map, hyi] at hv
        cases hv
        have tk := take_one hyi
        generalize (g x).2[j] = y at hyi tk
        have ad : addN L ((g x).2.take (j + 1)) = addI (addN L ((g x).2.take j)) y := by
          rw [tk]
          show List.foldl addI L _ = _
          rw [List.foldl_append] <;> rfl
        rw [ad]
        have ndj := nd6 j
        have ltj := lt6 j
        generalize addN L ((g x).2.take j) = M at *
        have lM : M.length ≤ n := nd_lt ndj ltj
        have ty : ∀ {J : Hp}, TyX K J (itV y) (.type (tyD (itD y))) := dp_ty (dp_it y)
        refine ⟨_, rfl, itV y, .ty "str", _, _, _, rfl, .ty _, ty, k_str _, ?_⟩
        cases y with
        | inr str =>
          refine ⟨_, rfl, ?_⟩
          exact ⟨_, rfl, xH7, s7, l7, d7⟩
        | inl n =>
          have nn := ok.ok x xn n (List.mem_of_getElem? hyi)
          refine ⟨_, rfl, ?_⟩
          refine ⟨_, rfl, _, rfl, p2, _, rfl, DGet.k (k := .inl (n : Int)) d7, _, rfl, ?_⟩
          rw [kvN_val _ M n rfl]
          by_cases e : n ∈ M
          · rw [if_pos e]
            refine ⟨_, rfl, xH7, s7, ?_, ?_⟩
            · rw [l7]; show _ = some (HO.lst (intsV (if n ∈ M then M else M ++ [n]))); rw [if_pos e]
            · rw [d7]; show _ = some (HO.dK (kvN (if n ∈ M then M else M ++ [n]))); rw [if_pos e]
          · rw [if_neg e]
            refine ⟨_, rfl, p1, _, rfl, .inl (Evl.sq_of l7), _, rfl, _, rfl, p2, _, rfl, DPut.k (k := .inl (n : Int)) d7 (szl (by unfold kvN; rw [List.length_mapIdx]; omega)), ?_⟩
            rw [show putK (kvN M) (.inl (n : Int)) (V.int ((intsV M).length : Int)) = kvN (M ++ [n]) from by rw [valV_snocN (by rw [kvN_val _ M n rfl, if_neg e]), kvN_snoc, show (intsV M).length = M.length from List.length_map ..]]
            generalize e8 : upd _ p2 _ = H8
            obtain ⟨s8, o8⟩ := set_of e8
            clear e8
            refine ⟨_, rfl, .inl ⟨rfl, _, Evl.sq_of ((o8 _ p12).trans l7)⟩, _, rfl, p1, _, _, rfl, rfl, (o8 _ p12).trans l7, szl (by show (intsV M).length < 100000; rw [show (intsV M).length = M.length from List.length_map ..]; omega), ?_⟩
            generalize e9 : upd _ p1 _ = H9
            obtain ⟨s9, o9⟩ := set_of e9
            clear e9
            have en : addI M (.inl n) = M ++ [n] := if_neg e
            rw [en]
            refine ⟨_, rfl, fun b o eb => ?_, ?_, ?_, ?_⟩
            · rw [o9 b (fun z => by rw [z, n1] at eb; cases eb), o8 b (fun z => by rw [z, n2'] at eb; cases eb)]
              exact xH7 _ _ eb
            · rw [o9 _ n6p.1, o8 _ n6p.2]; exact s7
            · rw [s9]; show _ = some (HO.lst (intsV (M ++ [n]))); unfold intsV; rw [List.map_append] <;> rfl
            · rw [o9 _ (Ne.symm p12)]; exact s8
      rintro σ' H10 ⟨o5', rfl, xH10, s10, l10, d10⟩
      rw [List.length_map, List.take_length] at l10 d10
      refine ⟨_, rfl, _, _, rfl, rfl, ⟨k + 1, _, _, rfl, by omega, xH10, ?_, ?_⟩⟩
      · rw [l10, on]
      · rw [d10, on]
    have c : (ordN g s k).length ≤ k := by
      have := of_decide_eq_false c
      omega
    have fin := ordN_stay c n (by omega)
    refine ⟨_, rfl, p1, rfl, ⟨_, Evl.sq_of l5⟩, fun D nD => ?_⟩
    rw [show ordN g s k = ordN g s n from fin.symm] at l5 d5 lt ll
    have hOT : ordT g s n = (ordN g s n).map fun a => renR (fun b => (ordN g s n).idxOf b) (g a) := rfl
    have cl : ∀ a ∈ ordN g s n, ∀ b : Nat, Sum.inl b ∈ (g a).2 → b ∈ ordN g s n := by
      rw [fin]
      exact ordN_cl c
    generalize ordN g s n = L at *
    refine lc_it (walk_list (xs := intsV L)) (fun i H' => Ex H5 H' ∧ ∃ us, H' D = some (.lst (us.map V.ref)) ∧ RowsAt K H' us ((L.take i).map fun a => renR (fun b => L.idxOf b) (g a))) ?_ ?_ ?_ ?_
    · exact ⟨exu (Evl.Ex.refl _) nD, [], upd_same, .nil⟩
    · exact fun i H' _ ⟨e, _⟩ => Evl.sq_of (e _ _ l5)
    · rintro i v Ja Jb hi ⟨e, us, lD, ra⟩ ⟨rfl, hv⟩
      rw [show (intsV L).length = L.length from List.length_map ..] at hi
      have hxi : L[i]? = some L[i] := List.getElem?_eq_getElem hi
      have hv : (L.map fun n : Nat => V.int (n : Int))[i]? = some v := hv
      rw [List.getElem?_map, hxi] at hv
      cases hv
      have hm := List.mem_of_getElem? hxi
      have tk := take_one hxi
      generalize L[i] = x at hxi hm tk
      have xn : x < n := lt x hm
      obtain ⟨t, ht, rt⟩ := RA x xn; refine ⟨rfl, _, rfl, _, rfl, la, _, rfl, .inl ⟨_, .inl (x : Int), .inl (e _ _ (xH5 _ _ hla)), rfl, ht.symm⟩, ?_⟩
      refine ⟨_, rfl, t, p2, g x, kvN L, fun b => L.idxOf b, rfl, Evl.ex_t (xH5.trans e) rt, e _ _ d5, ok.ne x xn, ok.le x xn, fun b hb => by rw [kvN_val _ L b rfl, if_pos (cl x hm b hb)], fun H7 t' x7 n7 s7 => ?_⟩
      have lD7 := x7 _ _ lD
      have ul := rowsAt_len ra
      have u4 : us.length < 100000 := by rw [ul, List.length_map, List.length_take]; omega
      refine ⟨_, lD7, szl (by rw [List.length_map]; exact u4), exm (e.trans x7) nD, us ++ [t'], by rw [upd_same, List.map_append] <;> rfl, ?_⟩
      rw [tk, List.map_append]
      exact rowsAt_snoc (rowsAt_set lD7 (rowsAt_ex x7 ra)) (row_set (SqT.of s7) lD7)
    rintro H8 ⟨e, us, lD, ra⟩
    rw [show (intsV L).length = L.length from List.length_map .., List.take_length] at ra
    refine q H8 D us (xH5.trans e) (ex_none xH5 nD) lD ?_
    rw [hOT]
    exact ra
end
end Fc
set_option maxRecDepth 100000
set_option maxHeartbeats 4000000
namespace Fc
open PySem PySem.Spec PyProof.Rows L2 FcR
open Evl (Ex)
theorem kvI_snoc {κ : Type} (L : List κ) (k : κ) : ((L ++ [k]).mapIdx fun i k => ((k, V.int (i : Int)) : κ × V)) = (L.mapIdx fun i k => (k, V.int (i : Int))) ++ [(k, .int (L.length : Int))] := by
  rw [List.mapIdx_append]
  simp
theorem valI_app {κ : Type} [DecidableEq κ] (a b : List (κ × V)) (k : κ) : valV (a ++ b) k = (valV a k).or (valV b k) := by
  induction a with
  | nil => rfl
  | cons x a ih =>
    by_cases e : x.1 = k
    · rw [List.cons_append, valV_pos e, valV_pos e] <;> rfl
    · rw [List.cons_append, valV_neg e, valV_neg e, ih]
theorem kvI_val {κ : Type} [DecidableEq κ] : ∀ (j : Nat) (L : List κ) (k : κ), L.length = j → valV (L.mapIdx fun i k => ((k, V.int (i : Int)) : κ × V)) k = if k ∈ L then some (.int (ixK L k : Int)) else none
  | 0, L, n, h => by
    obtain rfl := List.length_eq_zero_iff.mp h
    rw [if_neg List.not_mem_nil] <;> rfl
  | j + 1, L, n, h => by
    rcases List.eq_nil_or_concat L with rfl | ⟨M, x, rfl⟩
    · cases h
    · rw [List.concat_eq_append] at h ⊢
      have hM : M.length = j := by simp at h; omega
      rw [kvI_snoc, valI_app, kvI_val j M n hM]
      by_cases e : n ∈ M
      · unfold ixK
        rw [if_pos e, if_pos (List.mem_append_left _ e), List.idxOf_append, if_pos e] <;> rfl
      · rw [if_neg e, Option.none_or]
        by_cases e2 : n = x
        · subst e2
          unfold ixK
          rw [valV_pos rfl, if_pos (by simp), List.idxOf_append, if_neg e, List.idxOf_cons_self, Nat.zero_add]
        · rw [valV_neg (fun z : x = n => e2 z.symm), if_neg (by simp [e, e2])] <;> rfl
theorem row_setL {K : PySem.W.Frag} {H H' : Hp} {t D : Addr} {d : List V} {xs : List V} (h : SqT K H t xs) (e : H D = some (.lst d)) (o : ∀ b, b ≠ D → H' b = H b) : SqT K H' t xs := by
  rcases h with h | h
  · refine .inl ?_
    rcases h with h | ⟨ob, h⟩
    · exact .inl (by rw [o t (fun z => by rw [z, e] at h; cases h)]; exact h)
    · exact .inr ⟨ob, by rw [o t (fun z => by rw [z, e] at h; cases h)]; exact h⟩
  · exact .inr h
theorem kV_it : ∀ y : Itm, kV (itK y) = itV y
  | .inl _ => rfl
  | .inr _ => rfl
theorem kV_row (r : TRow) : (rowK r).map kV = rowV r := by
  show V.int _ :: (r.2.map itK).map kV = _
  rw [List.map_map]
  show _ = V.int _ :: _
  congr 1
  exact List.map_congr_left fun y _ => kV_it y
theorem ix_getK {κ : Type} [DecidableEq κ] : ∀ {L : List κ} {i : Nat} {x : κ}, L.Nodup → L[i]? = some x → ixK L x = i
  | y :: L, 0, x, _, h => by
    cases h
    exact List.idxOf_cons_self
  | y :: L, i + 1, x, nd, h => by
    obtain ⟨n1, n2⟩ := List.nodup_cons.mp nd
    have := ix_getK (L := L) n2 h
    unfold ixK at this ⊢
    have hne : y ≠ x := fun z => n1 (by rw [z]; exact List.mem_of_getElem? h)
    rw [List.idxOf_cons, beq_eq_false_iff_ne.mpr hne, cond_false, this]
abbrev kvI (L : List (List Key)) : List (List Key × V) := L.mapIdx fun i k => (k, V.int (i : Int))
theorem kvI_put (L : List (List Key)) (ndL : L.Nodup) (k : List Key) : putK (kvI L) k ((valV (kvI L) k).getD (.int (L.length : Int))) = kvI (addK L k) ∧ valV (kvI (addK L k)) k = some (.int (ixK (addK L k) k : Int)) := by
  have v := kvI_val _ L k rfl
  have v2 := kvI_val _ (addK L k) k rfl
  rw [if_pos (addK_mem.mpr (.inr rfl))] at v2
  refine ⟨?_, v2⟩
  unfold addK
  by_cases e : k ∈ L
  · rw [if_pos e] at v ⊢
    rw [show valV (kvI L) k = some (V.int (ixK L k : Int)) from v]
    unfold putK
    rw [valV_any, show valV (kvI L) k = some (V.int (ixK L k : Int)) from v, if_pos (show (some (V.int (ixK L k : Int))).isSome = true from rfl)]
    refine List.ext_getElem? fun i => ?_
    rw [List.getElem?_map]
    unfold kvI
    rw [List.getElem?_mapIdx]
    cases hi : L[i]? with
    | none => rfl
    | some x =>
      show some (if x = k then (x, V.int (ixK L k : Int)) else (x, V.int (i : Int))) = some (x, V.int (i : Int))
      by_cases z : x = k
      · rw [if_pos z, z]
        congr 4
        subst z
        exact ix_getK ndL hi
      · rw [if_neg z]
  · rw [if_neg e] at v ⊢
    rw [show valV (kvI L) k = none from v]
    unfold putK
    rw [valV_any, show valV (kvI L) k = none from v, if_neg (by decide)]
    exact (kvI_snoc L k).symm
def sp_cls (K : PySem.W.Frag) : Sp := fun vs H Q _ => ∃ (la : Addr) (ts : List Addr) (rs : List TRow), vs = [.ref la] ∧ H la = some (.lst (ts.map V.ref)) ∧ RowsAt K H ts rs ∧ 1 ≤ rs.length ∧ rs.length ≤ 400 ∧ RowsOk rs.length (getR rs) ∧
  ∀ (H' : Hp) (a : Addr) (k : Nat), Ex H H' → H a = none → H' a = some (.lst (intsV (clsN rs (k + 1)))) → StopK rs k → Q (.ref a) H'
section
variable {P : Program} {w : World} {h : Heap} {K : PySem.W.Frag} {mg : Str → Option Value} {base : Heap}
abbrev N_classes_of : List Str := ["rows", "row", "marks", "many", "numbers", "later", "at", "key"]
theorem sc_classes_of : FnScope N_classes_of ["rows"] (defScope sd_classes_of) := ⟨rfl, rfl, rfl, by decide +kernel, rfl, by decide +kernel, by decide +kernel⟩
theorem ok_classes_of (T : Tx w h K mg) : Ok P w K mg base 6 ("classes_of", none) ["rows"] (sp_cls K) := by
  obtain ⟨fd, F⟩ := F_classes_of T
  refine ⟨fd, ?_, F.bindsN (fun _ _ _ _ _ _ us hl => match us, hl with | [_], _ => rfl), F.kp⟩
  obtain ⟨fd_renumbered, G_renumbered, bi_renumbered, kp_renumbered⟩ := ok_renumbered (P := P) (base := base) T
  refine F.ok sc_classes_of (fun vs H Q E h => ?_) (fun cdv A outer s H vs Q E hr h => ?_)
  · obtain ⟨la, ts, rs, rfl, hla, RA, n1', n4', ok, q⟩ := h
    rfl
  · obtain ⟨la, ts, rs, rfl, hla, RA, n1', n4', ok, q⟩ := h
    refine ⟨_, PSs.nox (pss_cons (ps_setLc (i := 2) (own := [("row", 1)]) rfl sc_classes_of.nd rfl rfl (sw_true rfl rfl rfl (by decide +kernel)) (pi_list (pv 0)) (blkOk_by (N := N_classes_of) (sc := defScope sd_classes_of) (by decide +kernel)) (fun _ _ _ _ _ => (pg_name (i := 1) sc_classes_of.nd rfl (Or.inl rfl))) (fun _ _ _ _ _ => pts_nil) (fun _ _ _ _ _ => (pe_ix (show IxR _ (rIxT K) from ix_tup) (pv 1) pe_int (fun _ _ => rfl)))) (pss_cons (ps_set (i := 3) sc_classes_of.nd rfl (Or.inl rfl) pe_int) (pss_cons (ps_while PassesOwn.never (pt_cmpR op_gt (pe_callB FcW.cr_lenS rfl (fr_len T) b_len (pa_cons (pe_callTy (FcS.cr_setL rfl) rfl (fr_set T) b_set (pa_cons (pv 2) pa_nil)) pa_nil)) (pv 3) (nomark _)) (pss_cons (ps_set (i := 3) sc_classes_of.nd rfl (Or.inl rfl) (pe_callB FcW.cr_lenS rfl (fr_len T) b_len (pa_cons (pe_callTy (FcS.cr_setL rfl) rfl (fr_set T) b_set (pa_cons (pv 2) pa_nil)) pa_nil))) (pss_cons (ps_par rfl sc_classes_of.nd (i := 4) (j := 5) rfl rfl (by decide) rfl rfl (pa_cons FcW.pe_wnew (pa_cons (pe_lst pa_nil) pa_nil)) (by rfl)) (pss_cons (ps_for PassesOwn.never rfl (pi_enum rfl (fr_enumerate T) (pa_cons (pv 0) pa_nil)) (pg_tup rfl (pgs_cons (pg_name (i := 6) sc_classes_of.nd rfl (Or.inl rfl)) (pgs_cons (pg_name (i := 1) sc_classes_of.nd rfl (Or.inl rfl)) pgs_nil))) (pss_cons (ps_set (i := 7) sc_classes_of.nd rfl (Or.inl rfl) (pe_op op_catT (pe_tup (pa_cons (pe_ix ix_list (pv 2) (pv 6) (fun _ _ => rfl)) pa_nil)) (pe_call G_renumbered (hr.mono (by decide)) rfl (g_renumbered T) kp_renumbered bi_renumbered .nil passF (pa_cons (pv 1) (pa_cons (pv 2) pa_nil))))) (pss_cons (ps_asg (FcW.pe_bmW PySem.F.plainAttrs_dict PySem.F.slot_dict_get PySem.F.type_dict_get (FcW.mt_getW2 (hu_of hr)) (pv 4) (pa_cons (pv 7) (pa_cons (pe_callB FcW.cr_lenW rfl (fr_len T) b_len (pa_cons (pv 4) pa_nil)) pa_nil))) (pg_sub (pv 4) (pv 7) (FcW.set_way (hu_of hr)))) (pss_one (ps_expr (pe_bm PySem.F.plainAttrs_list PySem.F.slot_list_append PySem.F.type_list_append mt_append (pv 5) (pa_cons (pe_ix (FcW.ix_way (hu_of hr)) (pv 4) (pv 7) (fun _ _ => rfl)) pa_nil))))))) (pss_one (ps_set (i := 2) sc_classes_of.nd rfl (Or.inl rfl) (pv 5))))))) (pss_one (ps_ret (pv 2)))))), ?_⟩
    refine ⟨_, rfl, la, rfl, ⟨_, Evl.sq_of hla⟩, fun D nD => ?_⟩
    have tl := rowsAt_len RA
    refine lc_it (walk_list (xs := ts.map V.ref)) (fun i H' => Ex H H' ∧ H' D = some (.lst (intsV ((rs.take i).map (·.1))))) ?_ ?_ ?_ ?_
    · exact ⟨exu (Evl.Ex.refl _) nD, upd_same⟩
    · exact fun i H' _ ⟨e, _⟩ => Evl.sq_of (e _ _ hla)
    · rintro i v Ja Jb hi ⟨e, lD⟩ ⟨rfl, hv⟩
      rw [List.length_map, tl] at hi
      have hri : rs[i]? = some rs[i] := List.getElem?_eq_getElem hi
      obtain ⟨t, ht, rt⟩ := paired_getP RA hri
      rw [List.getElem?_map, ht] at hv
      cases hv
      have tk := take_one hri
      generalize rs[i] = r at hri rt tk
      refine ⟨rfl, _, rfl, t, _, _, _, rfl, rfl, Evl.ex_t e rt, atI_nat (j := 0) rfl, _, lD, szl (by unfold intsV; rw [List.length_map, List.length_map, List.length_take]; omega), exm e nD, ?_⟩
      rw [upd_same, tk, List.map_append]
      unfold intsV
      rw [List.map_append] <;> rfl
    rintro H1 ⟨x1, l1⟩
    rw [List.length_map, tl, List.take_length] at l1
    have nl : ∀ j, ndist (clsN rs j) ≤ rs.length := fun j => by have := dedK_le (clsN rs j); rw [clsN_len] at this; exact this
    have ni : ∀ ms : List Nat, (ms.map fun n : Nat => (n : Int)).map V.int = intsV ms := fun ms => by unfold intsV; rw [List.map_map] <;> rfl
    refine ⟨fun m σ' H' => ∃ (k many : Nat) (p : Addr) (u1 u4 u5 u6 u7 : Option V), σ' = [some (.ref la), u1, some (.ref p), some (.int (many : Int)), u4, u5, u6, u7] ∧ Ex H H' ∧ H p = none ∧ H' p = some (.lst (intsV (clsN rs k))) ∧ m + many = rs.length ∧ ((k = 0 ∧ many = 0) ∨ ∃ j, k = j + 1 ∧ many = ndist (clsN rs j)) ∧ ∀ i, i + 1 < k → ndist (clsN rs i) < ndist (clsN rs (i + 1)),
      ⟨rs.length, 0, 0, D, _, _, _, _, _, rfl, x1, nD, l1, Nat.add_zero _, .inl ⟨rfl, rfl⟩, fun i hi => absurd hi (Nat.not_lt_zero _)⟩, ?_⟩
    rintro m σ' H2 ⟨k, many, p, u1, u4, u5, u6, u7, rfl, xH2, np, l2, mm, hk, hfs⟩
    have ln : (clsN rs k).length = rs.length := clsN_len rs k
    refine ⟨_, rfl, p, (clsN rs k).map fun n : Nat => (n : Int), rfl, Evl.sq_of (by rw [ni]; exact l2), (by rw [List.length_map, ln]; exact (show rs.length + 1 < 4096 by omega)), fun a ks nd hks na => ?_⟩
    have e1 := set_len nd hks
    generalize e3 : upd _ a _ = H3
    obtain ⟨x3, s3, o3⟩ := new_of e3 na
    clear e3
    refine ⟨a, _, _, rfl, s3, ?_⟩
    rw [e1]
    refine ⟨_, rfl, _, _, rfl, rfl, _, rfl, ite_of (fun c => ?_) (fun c => ?_)⟩
    · have c : many < ndist (clsN rs k) := by have := of_decide_eq_true c; omega
      have nk := nl k
      refine ⟨fun σ' H' => ∃ (p : Addr) (u1 u4 u5 u6 u7 : Option V), σ' = [some (.ref la), u1, some (.ref p), some (.int (ndist (clsN rs k) : Int)), u4, u5, u6, u7] ∧ Ex H H' ∧ H p = none ∧ H' p = some (.lst (intsV (clsN rs (k + 1)))), fun σ' H' ⟨p, u1, u4, u5, u6, u7, h1, h2, h3, h4⟩ => ⟨rs.length - ndist (clsN rs k), by omega, k + 1, _, p, u1, u4, u5, u6, u7, h1, h2, h3, h4, by omega, .inr ⟨k, rfl, rfl⟩, fun i hi => by
        by_cases z : i + 1 < k
        · exact hfs i z
        · rcases hk with ⟨rfl, _⟩ | ⟨j, rfl, rfl⟩
          · omega
          · rw [show i = j by omega]; exact c⟩, ?_⟩
      have l3 := x3 _ _ l2
      refine ⟨_, rfl, p, (clsN rs k).map fun n : Nat => (n : Int), rfl, Evl.sq_of (by rw [ni]; exact l3), (by rw [List.length_map, ln]; exact (show rs.length + 1 < 4096 by omega)), fun a4 ks4 nd4 hks4 na4 => ?_⟩
      have e4 := set_len nd4 hks4
      generalize e5 : upd _ a4 _ = H4
      obtain ⟨x4, s4, o4⟩ := new_of e5 na4
      clear e5
      refine ⟨a4, _, _, rfl, s4, ?_⟩
      rw [e4]
      intro p5 ob5 n5
      generalize e5 : upd _ p5 _ = H5
      obtain ⟨x5, s5, o5⟩ := new_of e5 n5
      clear e5
      refine ⟨sz (by simp), ?_⟩
      intro p6 n6
      generalize e6 : upd _ p6 _ = H6
      obtain ⟨x6, s6, o6⟩ := new_of e6 n6
      clear e6
      have x36 := x4.trans (x5.trans x6)
      have l6 := x36 _ _ l3
      have xH6 : Ex H H6 := xH2.trans (x3.trans x36)
      have n5H : H p5 = none := ex_none (xH2.trans (x3.trans x4)) n5
      have n6H : H p6 = none := ex_none (xH2.trans (x3.trans (x4.trans x5))) n6
      have p56 : p5 ≠ p6 := fun z => by rw [← z, s5] at n6; cases n6
      refine ⟨_, _, rfl, _, rfl, la, _, rfl, Evl.sq_of (xH6 _ _ hla), ?_⟩
      have lk : (keysM rs (clsN rs k)).length = rs.length := by unfold keysM; rw [List.length_map, List.length_zip, ln, Nat.min_self]
      obtain ⟨ks, hks⟩ : ∃ ks, ks = keysM rs (clsN rs k) := ⟨_, rfl⟩
      have ek : clsN rs (k + 1) = numK ks := by rw [hks] <;> rfl
      rw [← hks] at lk
      have bnd : ∀ x, x < rs.length → ∀ b : Nat, Sum.inl b ∈ (getR rs x).2 → b < (clsN rs k).length := fun x hx b hb => by rw [ln]; exact ok.ok x hx b hb
      have kat : ∀ x, x < rs.length → ks[x]? = some (keyM (clsN rs k) ((clsN rs k).getD x 0) (getR rs x)) := fun x hx => by
        rw [hks]
        unfold keysM getR
        have h1 : (clsN rs k)[x]? = some ((clsN rs k).getD x 0) := by
          rw [List.getD_eq_getElem?_getD, List.getElem?_eq_getElem (show x < (clsN rs k).length by rw [ln]; exact hx)] <;> rfl
        have h2 : rs[x]? = some (rs.getD x (0, [])) := by
          rw [List.getD_eq_getElem?_getD, List.getElem?_eq_getElem hx] <;> rfl
        have hz : ((clsN rs k).zip rs)[x]? = some ((clsN rs k).getD x 0, rs.getD x (0, [])) := List.getElem?_zip_eq_some.mpr ⟨h1, h2⟩
        rw [List.getElem?_map, hz] <;> rfl
      have np5 : p5 ≠ p := fun z => by rw [z] at n5; rw [x4 _ _ l3] at n5; cases n5
      have np6 : p6 ≠ p := fun z => by rw [z, x5 _ _ (x4 _ _ l3)] at n6; cases n6
      have mi : ∀ x, x < rs.length → (intsV (clsN rs k))[x]? = some (.int ((clsN rs k).getD x 0 : Int)) := fun x hx => getElem?_ints (by rw [ln]; exact hx)
      clear hks
      generalize clsN rs k = ms at *
      refine for_it (walk_enum (xs := ts.map V.ref)) (fun i σ' H' => ∃ (u1 u6 u7 : Option V) (ob : Obj) (XS : List FcW.Ent), σ' = [some (.ref la), u1, some (.ref p), some (.int (ndist ms : Int)), some (.ref p5), some (.ref p6), u6, u7] ∧ Ex H H' ∧ H' p = some (.lst (intsV ms)) ∧ FcW.WD P w K H' p5 ob XS ∧ FcW.kvs XS = kvI (dedK (ks.take i)) ∧ H' p6 = some (.lst (intsV ((ks.take i).map fun q => ixK (dedK (ks.take i)) q)))) ?_ ?_ ?_ ?_
      · exact ⟨_, _, _, ob5, [], rfl, xH6, l6, ⟨x6 _ _ s5, fun x hx => nomatch hx⟩, rfl, s6⟩
      · exact fun i σ' H' _ ⟨_, _, _, _, _, _, e, _⟩ => Evl.sq_of (e _ _ hla)
      · rintro i v σ' Hq Hr hi ⟨w1, w6, w7, ob, XS, rfl, xq, lp, wd, ekv, l9⟩ ⟨tp, y1, y2, rfl, n2, rfl, z1, z2⟩
        cases z1
        rw [List.length_map, tl] at hi
        have hri : rs[i]? = some rs[i] := List.getElem?_eq_getElem hi
        obtain ⟨t, ht, rt⟩ := paired_getT RA hi
        replace z2 : (ts.map V.ref)[i]? = some y2 := z2
        rw [List.getElem?_map, ht] at z2
        cases z2
        generalize e2 : upd Hq tp _ = H7
        obtain ⟨x7, s7, o7⟩ := new_of e2 n2
        clear e2
        refine ⟨tp, _, rfl, SqT.of s7, rfl, _, _, rfl, _, _, rfl, rfl, ?_⟩
        have lp7 := x7 _ _ lp
        have xq7 := xq.trans x7
        refine ⟨_, rfl, _, rfl, p, _, (i : Int), _, rfl, rfl, Evl.sq_of lp7, atI_nat (j := i) (mi i hi), sz (by simp), ?_⟩
        intro p8 n8
        generalize e8 : upd _ p8 _ = H8
        obtain ⟨x8, s8, o8⟩ := new_of e8 n8
        clear e8
        refine ⟨_, rfl, _, rfl, t, p, getR rs i, ms, rfl, Evl.ex_t (xq7.trans x8) rt, x8 _ _ lp7, ok.ne i hi, ok.le i hi, bnd i hi, fun H9 t9 x9 n9 s9 => ?_⟩
        refine ⟨p8, t9, _, _, rfl, rfl, SqT.of (x9 _ _ s8), SqT.of s9, (fun z => by cases z), sz (by have := ok.le i hi; simp [rowV, renR]; omega), ⟨fun z => (by cases z), fun _ => ?_⟩⟩
        intro p10 n10
        generalize e10 : upd _ p10 _ = H10
        obtain ⟨x10, s10, o10⟩ := new_of e10 n10
        clear e10
        have x710 := x8.trans (x9.trans x10)
        have x10' := x7.trans x710
        have hki := kat i hi
        obtain ⟨q, hq⟩ : ∃ q, q = keyM ms (ms.getD i 0) (getR rs i) := ⟨_, rfl⟩
        rw [← hq] at hki
        have s10' : SqT K H10 p10 (q.map kV) := by
          rw [hq]
          refine SqT.of ?_
          rw [s10]
          show _ = some (HO.tup (V.int _ :: (rowK _).map kV))
          rw [kV_row] <;> rfl
        have tk := take_one hki
        have dk : dedK (ks.take (i + 1)) = addK (dedK (ks.take i)) q := by rw [tk, dedK_snoc]
        have ndd := dedK_nd (ks.take i)
        have le1 : (ks.take i).length ≤ 400 := by rw [List.length_take]; omega
        have le2 : (dedK (ks.take i)).length ≤ 400 := Nat.le_trans (dedK_le _) le1
        obtain ⟨pe1, pe2⟩ := kvI_put (dedK (ks.take i)) ndd q
        have xsl : XS.length = (dedK (ks.take i)).length := by
          have := congrArg List.length ekv
          unfold FcW.kvs at this
          rw [List.length_map, List.length_mapIdx] at this
          exact this
        have wd10 : FcW.WD P w K H10 p5 ob XS := ⟨x10' _ _ wd.1, fun x hx => Evl.ex_t x10' (wd.2 x hx)⟩
        refine ⟨_, rfl, ⟨p5, ob, XS, rfl, wd10.1⟩, _, rfl, _, rfl, p5, ob, XS, rfl, wd10, p5, p10, ob, XS, q, _, rfl, rfl, wd10, s10', ?_⟩
        rw [ekv, xsl]
        refine ⟨_, rfl, _, rfl, p5, p10, ob, XS, q, rfl, rfl, wd10, s10', szl (by omega), fun ob' => ?_⟩
        obtain ⟨XS', hXS'⟩ : ∃ XS', XS' = FcW.putW XS q p10 ((valV (kvI (dedK (ks.take i))) q).getD (V.int ((dedK (ks.take i)).length : Int))) := ⟨_, rfl⟩
        rw [← hXS']
        have ekv' : FcW.kvs XS' = kvI (dedK (ks.take (i + 1))) := by
          rw [hXS', FcW.kvs_put, ekv, pe1, dk]
        generalize e11 : upd _ p5 _ = H11
        obtain ⟨s11, o11⟩ := set_of e11
        clear e11
        have k11 : ∀ c ys, SqT K H10 c ys → SqT K H11 c ys := fun c ys h => by
          rcases h with h | h
          · refine .inl ?_
            rcases h with h | ⟨o, h⟩
            · exact .inl (by rw [o11 c (fun z => by rw [z, wd10.1] at h; cases h)]; exact h)
            · exact .inr ⟨o, by rw [o11 c (fun z => by rw [z, wd10.1] at h; cases h)]; exact h⟩
          · exact .inr h
        have wd11 : FcW.WD P w K H11 p5 ob' XS' := ⟨s11, by rw [hXS']; exact FcW.keysT_put wd10.2 s10' k11⟩
        have l11 : H11 p6 = some (.lst (intsV ((ks.take i).map fun q => ixK (dedK (ks.take i)) q))) := (o11 p6 (Ne.symm p56)).trans (x10' _ _ l9)
        have xq11 : Ex H H11 := fun b o e => (o11 b (fun z => by rw [z, n5H] at e; cases e)).trans ((xq.trans x10') _ _ e)
        refine ⟨_, rfl, .inl ⟨rfl, _, Evl.sq_of l11⟩, _, rfl, _, rfl, p5, p10, ob', XS', q, _, rfl, rfl, wd11, k11 _ _ s10', by rw [ekv', dk]; exact pe2, p6, _, _, rfl, rfl, l11, szl (by unfold intsV; rw [List.length_map, List.length_map]; omega), ?_⟩
        generalize e12 : upd _ p6 _ = H12
        obtain ⟨s12, o12⟩ := set_of e12
        clear e12
        refine ⟨_, _, _, ob', XS', rfl, fun b o e => (o12 b (fun z => by rw [z, n6H] at e; cases e)).trans (xq11 _ _ e), (o12 p (Ne.symm np6)).trans ((o11 p (Ne.symm np5)).trans (x10' _ _ lp)), ⟨(o12 p5 p56).trans s11, fun x hx => ?_⟩, ekv', ?_⟩
        · exact row_setL (wd11.2 x hx) l11 o12
        · rw [s12]
          congr 2
          rw [tk, List.map_append]
          unfold intsV
          rw [List.map_append]
          congr 1
          · congr 1
            refine List.map_congr_left fun y hy => ?_
            exact (num_pre (dedK_mem.mpr hy)).symm
          · show [V.int _] = [V.int _]
            rw [← tk, dk]
      rintro σ' H13 ⟨u1, u6, u7, ob, XS, rfl, xq, lp, wd, ekv, l9⟩
      rw [List.length_map, tl, List.take_of_length_le (by omega)] at l9
      refine ⟨_, rfl, p6, _, _, _, _, _, rfl, xq, n6H, ?_⟩
      rw [l9, ek]
      rfl
    have c : ndist (clsN rs k) ≤ many := by have := of_decide_eq_false c; omega
    have pos : 1 ≤ ndist (clsN rs k) := by
      unfold ndist
      cases e : clsN rs k with
      | nil => rw [e] at ln; simp at ln; omega
      | cons x l =>
        have : x ∈ dedK (x :: l) := dedK_mem.mpr List.mem_cons_self
        exact List.length_pos_of_mem this
    rcases hk with ⟨_, rfl⟩ | ⟨j, rfl, rfl⟩
    · omega
    exact ⟨_, rfl, q H3 p j (xH2.trans x3) np (x3 _ _ l2) ⟨c, fun i hi => hfs i (by omega)⟩⟩
end
end Fc
set_option maxRecDepth 100000
set_option maxHeartbeats 4000000
namespace Fc
open PySem PySem.Spec PyProof.Rows L2 FcR
open Evl (Ex)
def endsL : List Str := ["end", "return", "raise"]
def askL : List Str := ["call", "if", "while"]
def kdR (rows : List Row) (n : Nat) : Str := kindD ((rows.getD n ⟨.none, none, []⟩).d)
structure TV (rows : List Row) (n : Nat) (r : TRow) : Prop where
  pl : plB rows r.1 = true
  ln : r.2.length = 1 + (if kdR rows r.1 ∈ askL then 1 else 0)
  it : ∀ y ∈ r.2, (∃ b : Nat, y = .inl b ∧ b < n) ∨ ∃ s, y = .inr s ∧ s ∈ endsL
def ItOk (n : Nat) (y : Itm) : Prop := (∃ b : Nat, y = .inl b ∧ b < n) ∨ ∃ s, y = .inr s ∧ s ∈ endsL
def sp_item (K : PySem.W.Frag) : Sp := fun vs H Q _ => ∃ (y : Itm) (n : Nat), vs = [itV y, .int (n : Int)] ∧ ItOk n y ∧ ∀ H', Ex H H' → Q (.bl true) H'
/-- the kinds of the places -/
def kindKV (rows : List Row) : List (Key × V) := (plN rows).map fun (p : Nat) => (.inl (p : Int), .str (kdR rows p))
theorem kindKV_val (rows : List Row) : ∀ (l : List Nat) (n : Nat), n ∈ l → valV (l.map fun (p : Nat) => ((.inl (p : Int), .str (kdR rows p)) : Key × V)) (.inl (n : Int)) = some (.str (kdR rows n))
  | p :: l, n, h => by
    by_cases e : p = n
    · rw [List.map_cons, e, valV_pos rfl]
    · rw [List.map_cons, valV_neg (fun z : (Sum.inl (p : Int) : Key) = .inl (n : Int) => e (by cases z; omega))]
      exact kindKV_val rows l n ((List.mem_cons.mp h).resolve_left (Ne.symm e))
theorem merge_ndT : ∀ (kvs acc : List (Key × V)), (kvs.map (·.1)).Nodup → (∀ kv ∈ kvs, valV acc kv.1 = none) → mergeK acc kvs = acc ++ kvs
  | [], acc, _, _ => by simp [mergeK]
  | kv :: kvs, acc, nd, h => by
    rw [List.map_cons, List.nodup_cons] at nd
    have e1 : putK acc kv.1 kv.2 = acc ++ [kv] := by
      unfold putK
      rw [if_neg]
      rw [valV_any, h kv List.mem_cons_self]; decide
    show mergeK (putK acc kv.1 kv.2) kvs = _
    rw [e1, merge_ndT kvs (acc ++ [kv]) nd.2 fun x hx => ?_, List.append_assoc]
    · rfl
    · rw [← e1, valV_put, if_neg]
      · exact h x (List.mem_cons_of_mem _ hx)
      · exact fun z => nd.1 (List.mem_map.mpr ⟨x, hx, z⟩)
theorem kindKV_merge (rows : List Row) : mergeK [] (kindKV rows) = kindKV rows := by
  have nd : ((kindKV rows).map (·.1)).Nodup := by
    unfold kindKV
    rw [List.map_map]
    have h := plN_asc rows
    refine List.Pairwise.map _ (fun a b (hab : a < b) => ?_) h
    intro z
    have z : (Sum.inl (a : Int) : Key) = .inl (b : Int) := z
    cases z
    omega
  rw [merge_ndT _ _ nd fun kv _ => rfl, List.nil_append]
def PrAt (K : PySem.W.Frag) (H : Hp) (p : Addr) (kv : Key × V) : Prop := SqT K H p [kV kv.1, kv.2]
theorem pr_snoc {K : PySem.W.Frag} {H : Hp} {t : Addr} {r : Key × V} : ∀ {ts : List Addr} {rs : List (Key × V)}, Paired (PrAt K H) ts rs → PrAt K H t r → Paired (PrAt K H) (ts ++ [t]) (rs ++ [r])
  | _, _, .nil, h => .cons h .nil
  | _, _, .cons r t, h => .cons r (pr_snoc t h)
theorem pr_len {K : PySem.W.Frag} {H : Hp} : ∀ {ts : List Addr} {rs : List (Key × V)}, Paired (PrAt K H) ts rs → ts.length = rs.length
  | _, _, .nil => rfl
  | _, _, .cons _ t => congrArg (· + 1) (pr_len t)
def sp_isrow (K : PySem.W.Frag) : Sp := fun vs H Q _ => ∃ (t ka : Addr) (rows : List Row) (n : Nat) (r : TRow), vs = [.ref t, .ref ka, .int (n : Int)] ∧ RowAt K H t r ∧ H ka = some (.dK (kindKV rows)) ∧ TV rows n r ∧ ∀ H', Ex H H' → Q (.bl true) H'
def sp_ckr (K : PySem.W.Frag) : Sp := fun vs H Q _ => ∃ (F : Hp) (A : CAd) (rows : List Row) (la : Addr) (ts : List Addr) (rs : List TRow), vs = [.ref A.p, .ref la] ∧ CodeH K F F A rows ∧ Ex F H ∧ rows.length ≤ 400 ∧ H la = some (.lst (ts.map V.ref)) ∧ RowsAt K H ts rs ∧ 1 ≤ rs.length ∧ rs.length ≤ 200 ∧ (∀ r ∈ rs, TV rows rs.length r) ∧ ∀ H', Ex H H' → Q .non H'
section
variable {P : Program} {w : World} {h : Heap} {K : PySem.W.Frag} {mg : Str → Option Value} {base : Heap}
abbrev N_is_item : List Str := ["value", "many"]
theorem sc_is_item : FnScope N_is_item ["value", "many"] (defScope sd_is_item) := ⟨rfl, rfl, rfl, by decide +kernel, rfl, by decide +kernel, by decide +kernel⟩
theorem ok_is_item (T : Tx w h K mg) : Ok P w K mg base 4 ("is_item", none) ["value", "many"] (sp_item K) := by
  obtain ⟨fd, F⟩ := F_is_item T
  refine ⟨fd, ?_, F.bindsN (fun _ _ _ _ _ _ us hl => match us, hl with | [_, _], _ => rfl), F.kp⟩
  obtain ⟨fd_is_between, G_is_between, bi_is_between, kp_is_between⟩ := ok_is_between (P := P) (base := base) T
  refine F.ok sc_is_item (fun vs H Q E h => ?_) (fun cdv A outer s H vs Q E hr h => ?_)
  · obtain ⟨y, n, rfl, hy, q⟩ := h
    rfl
  · obtain ⟨y, n, rfl, hy, q⟩ := h
    refine ⟨_, PSs.nox (pss_cons (ps_if (pt_val (pe_callB call_isi rfl (fr_isinstance T) b_isinstance (pa_cons (pv 0) (pa_cons (pe_bltn (v := .ty "str") rfl (fr_str T) b_str rfl) pa_nil)))) (pss_one (ps_ret (pe_cmpR op_in_seq (pv 0) (pe_glob (v := .ref (He.ga K "ENDS_tables")) rfl (g_ENDS_tables T) rfl) (by rfl)))) pss_nil) (pss_one (ps_ret (pe_call G_is_between (hr.mono (by decide)) rfl (g_is_between T) kp_is_between bi_is_between .nil passF (pa_cons (pv 0) (pa_cons pe_int (pa_cons (pe_op op_sub (pv 1) pe_int) pa_nil))))))), ?_⟩
    have ty : ∀ {J : Hp}, TyX K J (itV y) (.type (tyD (itD y))) := dp_ty (dp_it y)
    refine ⟨_, rfl, itV y, .ty "str", _, _, _, rfl, .ty _, ty, k_str _, ?_⟩
    rcases hy with ⟨b, rfl, hb⟩ | ⟨s, rfl, hs⟩
    · exact ⟨_, rfl, _, rfl, _, rfl, _, _, rfl, rfl, .int (b : Int), 0, _, rfl, .inl ⟨_, rfl, by rw [show (decide ((0 : Int) ≤ (b : Int)) && decide ((b : Int) ≤ (n : Int) - 1)) = true from by simp; omega]; exact q H (Evl.Ex.refl _)⟩⟩
    · refine ⟨_, rfl, _, rfl, He.ga K "ENDS_tables", _, rfl, .inr (t_ENDS_tables T _), rfl, flat_strs endsL, ?_⟩
      have e : inV (itV (.inr s)) [.str "end", .str "return", .str "raise"] = true := (inV_strs _ endsL).trans (decide_eq_true hs)
      rw [e]
      exact q H (Evl.Ex.refl _)
abbrev N_is_row : List Str := ["row", "kinds", "many", "item"]
theorem sc_is_row : FnScope N_is_row ["row", "kinds", "many"] (defScope sd_is_row) := ⟨rfl, rfl, rfl, by decide +kernel, rfl, by decide +kernel, by decide +kernel⟩
theorem ok_is_row (T : Tx w h K mg) : Ok P w K mg base 5 ("is_row", none) ["row", "kinds", "many"] (sp_isrow K) := by
  obtain ⟨fd, F⟩ := F_is_row T
  refine ⟨fd, ?_, F.bindsN (fun _ _ _ _ _ _ us hl => match us, hl with | [_, _, _], _ => rfl), F.kp⟩
  obtain ⟨fd_is_integer, G_is_integer, bi_is_integer, kp_is_integer⟩ := ok_is_integer (P := P) (base := base) T
  obtain ⟨fd_is_item, G_is_item, bi_is_item, kp_is_item⟩ := ok_is_item (P := P) (base := base) T
  refine F.ok sc_is_row (fun vs H Q E h => ?_) (fun cdv A outer s H vs Q E hr h => ?_)
  · obtain ⟨t, ka, rows, n, r, rfl, hw, hk, tv, q⟩ := h
    rfl
  · obtain ⟨t, ka, rows, n, r, rfl, hw, hk, tv, q⟩ := h
    refine ⟨_, PSs.nox (pss_cons (ps_if (PW.pt (pw_or (pt_not (pt_val (pe_callB call_isi rfl (fr_isinstance T) b_isinstance (pa_cons (pv 0) (pa_cons (pe_bltn (v := .ty "tuple") rfl (fr_tuple T) b_tuple rfl) pa_nil))))) (pw_or (pt_cmpR (FcW.op_eqNil hr) (pv 0) (pe_tup pa_nil) (nomark _)) (pw_or (pt_not (pt_val (pe_call G_is_integer (hr.mono (by decide)) rfl (g_is_integer T) kp_is_integer bi_is_integer .nil passF (pa_cons (pe_ix ix_tup (pv 0) pe_int (fun _ _ => rfl)) pa_nil)))) (pw_or1 (pt_cmp (pc_dnotin (hu_of hr) (pe_ix ix_tup (pv 0) pe_int (fun _ _ => rfl)) (pv 1)))))))) (pss_one (ps_ret pe_bl)) pss_nil) (pss_cons (ps_if (pt_cmpR op_ne (pe_callB call_len_seq rfl (fr_len T) b_len (pa_cons (pv 0) pa_nil)) (pe_op op_add pe_int (pe_callTy call_int1 rfl (fr_int T) b_int (pa_cons (pe_cmpR op_in_seq (pe_dget (hu_of hr) (pv 1) (pe_ix ix_tup (pv 0) pe_int (fun _ _ => rfl)) (fun _ _ => rfl)) (pe_glob (v := .ref (He.ga K "ASKING_tables")) rfl (g_ASKING_tables T) rfl) (by rfl)) pa_nil))) (nomark _)) (pss_one (ps_ret pe_bl)) pss_nil) (pss_one (ps_ret (pe_callB (cr_all rfl) rfl (fr_all T) b_all (pa_cons (pe_lc (own := [("item", 3)]) rfl sc_is_row.nd (pi_tup (pe_slice sl_tup (pv 0) (po_some pe_int) po_none)) (blkOk_by (N := N_is_row) (sc := defScope sd_is_row) (by decide +kernel)) (fun _ _ _ _ _ => (pg_name (i := 3) sc_is_row.nd rfl (Or.inl rfl))) (fun _ _ _ _ _ => pts_nil) (fun _ _ _ _ _ => (pe_call G_is_item (hr.mono (by decide)) rfl (g_is_item T) kp_is_item bi_is_item .nil passF (pa_cons (pv 3) (pa_cons (pv 2) pa_nil))))) pa_nil)))))), ?_⟩
    have r0 : r.2 ≠ [] := fun z => by have := tv.ln; rw [z] at this; simp at this; omega
    have pm : r.1 ∈ plN rows := List.mem_filter.mpr ⟨List.mem_range.mpr (by
      have := tv.pl
      unfold plB at this
      cases e : rows[r.1]? with
      | none => rw [e] at this; cases this
      | some x => exact (List.getElem?_eq_some_iff.mp e).1), tv.pl⟩
    refine ⟨_, rfl, .ref t, .ty "tuple", _, _, _, rfl, .ty _, ty_tup hw, k_tuple (.tuple []), _, rfl, ?_⟩
    refine ⟨_, rfl, sz (by simp), ?_⟩
    intro p1 n1
    generalize e1 : upd _ p1 _ = H1
    obtain ⟨x1, s1, o1⟩ := new_of e1 n1
    clear e1
    have hw1 := Evl.ex_t x1 hw
    have hk1 := x1 _ _ hk
    refine ⟨t, p1, _, rfl, rfl, hw1, SqT.of s1, _, rfl, ?_⟩
    refine ⟨_, rfl, t, _, _, _, rfl, rfl, hw1, atI_nat (j := 0) rfl, .int (r.1 : Int), .type "int", true, false, rfl, .base (.int _), k_ii, k_ib, _, rfl, ?_⟩
    refine ⟨_, rfl, t, _, _, _, rfl, rfl, hw1, atI_nat (j := 0) rfl, _, rfl, ka, _, rfl, DGet.k (k := .inl (r.1 : Int)) hk1, _, rfl, ?_⟩
    rw [show valV (kindKV rows) (Sum.inl (r.1 : Int)) = some (.str (kdR rows r.1)) from kindKV_val rows _ _ pm]
    refine itF rfl ?_
    refine ⟨_, rfl, t, _, rfl, .inr hw1, _, rfl, _, rfl, t, _, _, _, rfl, rfl, hw1, atI_nat (j := 0) rfl, ka, _, rfl, .inl ⟨_, .inl (r.1 : Int), .inl hk1, rfl, (kindKV_val rows _ _ pm).symm⟩, He.ga K "ASKING_tables", _, rfl, .inr (t_ASKING_tables T _), rfl, flat_strs askL, ?_⟩
    refine .inr ⟨_, rfl, _, _, rfl, rfl, ?_⟩
    have ea : inV (.str (kdR rows r.1)) [.str "call", .str "if", .str "while"] = decide (kdR rows r.1 ∈ askL) := inV_strs _ askL
    have el : (rowV r).length = 1 + r.2.length := by simp [rowV]; omega
    rw [ea, el, tv.ln]
    refine ⟨rfl, _, rfl, itF ?_ ?_⟩
    · by_cases c : kdR rows r.1 ∈ askL
      · rw [if_pos c, decide_eq_true c] <;> rfl
      · rw [if_neg c, decide_eq_false c] <;> rfl
    refine ⟨_, rfl, 1, rfl, ?_⟩
    unfold tNoPart
    refine ⟨t, _, rfl, hw1, row_n2, ?_⟩
    intro p2 n2
    generalize e2 : upd _ p2 _ = H2
    obtain ⟨x2, s2, o2⟩ := new_of e2 n2
    clear e2
    rw [row_c2] at s2
    refine ⟨p2, rfl, ⟨_, SqT.of s2⟩, fun D nD => ?_⟩
    refine lc_it (walk_tup (xs := r.2.map itV)) (fun i H' => Ex H2 H' ∧ H' D = some (.lst ((List.replicate i true).map V.bl))) ?_ ?_ ?_ ?_
    · exact ⟨exu (Evl.Ex.refl _) nD, upd_same⟩
    · exact fun i H' _ ⟨e, _⟩ => Evl.ex_t e (SqT.of s2)
    · rintro i x Ja Jb hi ⟨e, l⟩ ⟨rfl, hx⟩
      rw [List.length_map] at hi
      have li : i < r.2.length := hi
      have i2 : r.2.length ≤ 2 := by rw [tv.ln]; split <;> decide
      have hyi : r.2[i]? = some r.2[i] := List.getElem?_eq_getElem li
      rw [List.getElem?_map, hyi] at hx
      cases hx
      generalize r.2[i] = y at hyi
      refine ⟨rfl, _, rfl, _, rfl, y, n, rfl, tv.it y (List.mem_of_getElem? hyi), fun H3 x3 => ?_⟩
      refine ⟨_, x3 _ _ l, szl (by simp; omega), exm (e.trans x3) nD, ?_⟩
      rw [upd_same, List.replicate_succ', List.map_append] <;> rfl
    rintro H3 ⟨e, l⟩
    refine ⟨D, _, rfl, Evl.sq_of l, ?_⟩
    rw [show (List.replicate (r.2.map itV).length true).all id = true from by simp]
    exact q H3 (x1.trans (x2.trans e))
abbrev N_check_rows : List Str := ["code", "rows", "kinds", "at", "row", "place"]
theorem sc_check_rows : FnScope N_check_rows ["code", "rows"] (defScope sd_check_rows) := ⟨rfl, rfl, rfl, by decide +kernel, rfl, by decide +kernel, by decide +kernel⟩
theorem ok_check_rows (T : Tx w h K mg) : Ok P w K mg base 8 ("check_rows", none) ["code", "rows"] (sp_ckr K) := by
  obtain ⟨fd, F⟩ := F_check_rows T
  refine ⟨fd, ?_, F.bindsN (fun _ _ _ _ _ _ us hl => match us, hl with | [_, _], _ => rfl), F.kp⟩
  obtain ⟨fd_is_row, G_is_row, bi_is_row, kp_is_row⟩ := ok_is_row (P := P) (base := base) T
  obtain ⟨fd_InvalidTable___init__, G_InvalidTable___init__, bi_InvalidTable___init__, kp_InvalidTable___init__, FD_InvalidTable___init__⟩ := okF_InvalidTable___init__ (P := P) (base := base) T
  obtain ⟨fd_Code_places, G_Code_places, bi_Code_places, kp_Code_places⟩ := ok_Code_places (P := P) (base := base) T
  obtain ⟨tm_MOST_ROWS, m_MOST_ROWS⟩ := i_MOST_ROWS T
  refine F.ok sc_check_rows (fun vs H Q E h => ?_) (fun cdv A outer s H vs Q E hr h => ?_)
  · obtain ⟨F, A, rows, la, ts, rs, rfl, C, xF, hl, hla, RA, n1, n2, tv, q⟩ := h
    rfl
  · obtain ⟨F, A, rows, la, ts, rs, rfl, C, xF, hl, hla, RA, n1, n2, tv, q⟩ := h
    refine ⟨_, (pss_cons (ps_if (PW.pt (pw_or (pt_not (pt_val (pe_callB call_isi rfl (fr_isinstance T) b_isinstance (pa_cons (pv 1) (pa_cons (pe_bltn (v := .ty "list") rfl (fr_list T) b_list rfl) pa_nil))))) (pw_or1 (pt_not (pt_chain op_le op_le pe_int (pe_callB call_len_seq rfl (fr_len T) b_len (pa_cons (pv 1) pa_nil)) (pe_glob (v := .int 200) rfl m_MOST_ROWS ⟨_, rfl⟩)))))) (pss_one (ps_raise rfl (takes_of rfl rfl rfl rfl) (FcX.pmk_X (x_InvalidTable T) (xi_InvalidTable T) G_InvalidTable___init__ (hr.mono (by decide)) bi_InvalidTable___init__ passF rfl (g_InvalidTable T) (pe_un un_neg pe_int)))) pss_nil) (pss_cons (ps_set (i := 2) sc_check_rows.nd rfl (Or.inl rfl) (pe_callTy (call_dictP rfl) rfl (fr_dict T) b_dict (pa_cons (pe_lc (own := [("place", 5)]) rfl sc_check_rows.nd (pi_list (pe_meth0 (pv 0) (c_Code T) (me_Code_places T) G_Code_places (hr.mono (by decide)) bi_Code_places .nil (passes_call (takes_of rfl rfl rfl rfl) (fun _ _ _ _ h => h)))) (blkOk_by (N := N_check_rows) (sc := defScope sd_check_rows) (by decide +kernel)) (fun _ _ _ _ _ => (pg_name (i := 5) sc_check_rows.nd rfl (Or.inl rfl))) (fun _ _ _ _ _ => pts_nil) (fun _ _ _ _ _ => (pe_tup (pa_cons (pv 5) (pa_cons (pe_ix (show IxR _ (rIxL K) from ix_list) (show PE _ _ (tFld K _ "kinds") from pe_fld (pv 0) rfl) (pv 5) (fun _ _ => rfl)) pa_nil))))) pa_nil))) (pss_one (ps_for (passes_of rfl) rfl (pi_enum rfl (fr_enumerate T) (pa_cons (pv 1) pa_nil)) (pg_tup rfl (pgs_cons (pg_name (i := 3) sc_check_rows.nd rfl (Or.inl rfl)) (pgs_cons (pg_name (i := 4) sc_check_rows.nd rfl (Or.inl rfl)) pgs_nil))) (pss_one (ps_if (pt_not (pt_val (pe_call G_is_row (hr.mono (by decide)) rfl (g_is_row T) kp_is_row bi_is_row .nil (passes_call (takes_of rfl rfl rfl rfl) (fun _ _ _ _ h => h)) (pa_cons (pv 4) (pa_cons (pv 2) (pa_cons (pe_callB call_len_seq rfl (fr_len T) b_len (pa_cons (pv 1) pa_nil)) pa_nil)))))) (pss_one (ps_raise rfl (takes_of rfl rfl rfl rfl) (FcX.pmk_X (x_InvalidTable T) (xi_InvalidTable T) G_InvalidTable___init__ (hr.mono (by decide)) bi_InvalidTable___init__ passF rfl (g_InvalidTable T) (pv 3)))) pss_nil)))))), ?_⟩
    have tl := rowsAt_len RA
    obtain ⟨vs0, C0, _⟩ := C.ex (Evl.Ex.refl _) xF
    refine ⟨_, rfl, .ref la, .ty "list", _, _, _, rfl, .ty _, ty_lst (Evl.sq_of hla), k_list (.list []), _, rfl, ?_⟩
    refine ⟨_, rfl, la, _, rfl, .inl (Evl.sq_of hla), ?_⟩
    rw [List.length_map, tl]
    refine ⟨_, _, rfl, rfl, _, rfl, ?_⟩
    rw [show decide ((1 : Int) ≤ (rs.length : Int)) = true from decide_eq_true (by omega)]
    refine ⟨_, _, rfl, rfl, _, rfl, ?_⟩
    rw [show decide ((rs.length : Int) ≤ (200 : Int)) = true from decide_eq_true (by omega)]
    refine itF rfl ?_
    refine ⟨_, rfl, A.p, _, _, rfl, C0.ob, fm_Code_places _ _ _ _ _, F, A, rows, rfl, C, xF, hl, fun H1 a1 x1 na1 s1 => ⟨a1, rfl, ⟨_, Evl.sq_of s1⟩, fun D nD => ?_⟩⟩
    have pll : (plN rows).length ≤ 400 := by have := pl_len rows rows.length; unfold plN; omega
    refine lc_it (walk_list (xs := intsV (plN rows))) (fun i H' => Ex H1 H' ∧ ∃ ps, H' D = some (.lst (ps.map V.ref)) ∧ Paired (PrAt K H') ps ((plN rows).take i |>.map fun (p : Nat) => ((.inl (p : Int), .str (kdR rows p)) : Key × V))) ?_ ?_ ?_ ?_
    · exact ⟨exu (Evl.Ex.refl _) nD, [], upd_same, .nil⟩
    · exact fun i H' _ ⟨e, _⟩ => Evl.sq_of (e _ _ s1)
    · rintro i v Ja Jb hi ⟨e, ps, lD, pp⟩ ⟨rfl, hv⟩
      rw [show (intsV (plN rows)).length = (plN rows).length from List.length_map ..] at hi
      have hni : (plN rows)[i]? = some (plN rows)[i] := List.getElem?_eq_getElem hi
      have hv : ((plN rows).map fun n : Nat => V.int (n : Int))[i]? = some v := hv
      rw [List.getElem?_map, hni] at hv
      cases hv
      have tk := take_one hni
      have pn : (plN rows)[i] < rows.length := List.mem_range.mp (List.mem_filter.mp (List.mem_of_getElem? hni)).1
      generalize (plN rows)[i] = n at hni tk pn
      obtain ⟨vs2, C2, _⟩ := C.ex (Evl.Ex.refl _) (xF.trans (x1.trans e))
      obtain ⟨r, hr⟩ := row_at pn
      have ek : kdR rows n = kindD r.d := by unfold kdR; rw [List.getD_eq_getElem?_getD, hr] <;> rfl
      refine ⟨rfl, _, rfl, _, rfl, A.p, _, _, _, _, rfl, C2.ob, c_Code T, na_Code_kinds T, fl_Code_kinds _ _ _ _ _, _, rfl, A.a2, _, _, .str (kindD r.d), rfl, rfl, Evl.sq_of C2.h2, atI_nat (by rw [List.getElem?_map, hr] <;> rfl), sz (by simp), ?_⟩
      intro p3 n3
      generalize e3 : upd _ p3 _ = H3
      obtain ⟨x3, s3, o3⟩ := new_of e3 n3
      clear e3
      have lD3 := x3 _ _ lD
      have pl2 := pr_len pp
      rw [List.length_map, List.length_take] at pl2
      refine ⟨_, lD3, szl (by rw [List.length_map]; omega), exm (e.trans x3) nD, ps ++ [p3], by rw [upd_same, List.map_append] <;> rfl, ?_⟩
      rw [tk, List.map_append]
      refine pr_snoc (L2.Paired.mapP pp fun _ _ r => row_set (Evl.ex_t x3 r) lD3) ?_
      show SqT K _ p3 [V.int (n : Int), .str (kdR rows n)]
      rw [ek]
      exact row_set (SqT.of s3) lD3
    rintro H4 ⟨x4, ps, lD, pp⟩
    rw [show (intsV (plN rows)).length = (plN rows).length from List.length_map .., List.take_length] at pp
    refine ⟨D, ps, _, rfl, Evl.sq_of lD, pp, ?_⟩
    intro p5 n5
    generalize e5 : upd _ p5 _ = H5
    obtain ⟨x5, s5, o5⟩ := new_of e5 n5
    clear e5
    rw [show mergeK [] ((plN rows).map fun (p : Nat) => ((.inl (p : Int), .str (kdR rows p)) : Key × V)) = kindKV rows from kindKV_merge rows] at s5
    have x05 : Ex H H5 := x1.trans (x4.trans x5)
    refine ⟨_, rfl, la, _, rfl, Evl.sq_of (x05 _ _ hla), ?_⟩
    refine for_it (walk_enum (xs := ts.map V.ref)) (fun i σ' H' => Ex H5 H' ∧ ∃ u3 u4, σ' = [some (.ref A.p), some (.ref la), some (.ref p5), u3, u4, none]) ?_ ?_ ?_ ?_
    · exact ⟨Evl.Ex.refl _, _, _, rfl⟩
    · exact fun i σ' H' _ ⟨e, _⟩ => Evl.sq_of (e _ _ (x05 _ _ hla))
    · rintro i v σ' Hq Hr hi ⟨e, u3, u4, rfl⟩ ⟨tp, y1, y2, rfl, n2', rfl, z1, z2⟩
      cases z1
      rw [List.length_map, tl] at hi
      obtain ⟨t, ht, rt⟩ := paired_getP RA (List.getElem?_eq_getElem hi)
      replace z2 : (ts.map V.ref)[i]? = some y2 := z2
      rw [List.getElem?_map, ht] at z2
      cases z2
      generalize e2 : upd Hq tp _ = H7
      obtain ⟨x7, s7, o7⟩ := new_of e2 n2'
      clear e2
      have x57 := e.trans x7
      refine ⟨tp, _, rfl, SqT.of s7, rfl, _, _, rfl, _, _, rfl, rfl, ?_⟩
      refine ⟨_, rfl, _, rfl, _, rfl, la, _, rfl, .inl (Evl.sq_of (x57 _ _ (x05 _ _ hla))), ?_⟩
      rw [List.length_map, tl]
      refine ⟨t, p5, rows, rs.length, rs[i], rfl, Evl.ex_t (x05.trans x57) rt, x57 _ _ s5, tv _ (List.getElem_mem hi), fun H8 x8 => ?_⟩
      exact ⟨_, rfl, itF rfl ⟨x57.trans x8, _, _, rfl⟩⟩
    rintro σ' H9 ⟨e, u3, u4, rfl⟩
    exact q H9 (x05.trans e)
end
end Fc
set_option maxRecDepth 100000
set_option maxHeartbeats 4000000
namespace Fc
open PySem PySem.Spec PyProof.Rows L2 FcR
open Evl (Ex)
theorem paired_lenT {α β : Type} {R : α → β → Prop} : ∀ {xs : List α} {ys : List β}, Paired R xs ys → xs.length = ys.length
  | _, _, .nil => rfl
  | _, _, .cons _ t => congrArg (· + 1) (paired_lenT t)
section
variable {κ : Type} [DecidableEq κ]
theorem ix_at : ∀ {L : List κ} {x : κ}, x ∈ L → L[ixK L x]? = some x
  | y :: L, x, h => by
    unfold ixK
    by_cases e : y = x
    · subst e
      rw [List.idxOf_cons_self] <;> rfl
    · have h := (List.mem_cons.mp h).resolve_left (Ne.symm e)
      have i := ix_at (L := L) h
      rw [List.idxOf_cons, beq_eq_false_iff_ne.mpr e, cond_false]
      exact i
theorem ix_inj {L : List κ} {x y : κ} (hx : x ∈ L) (hy : y ∈ L) (e : ixK L x = ixK L y) : x = y := by
  have a := ix_at hx
  have b := ix_at hy
  rw [e, b] at a
  exact (Option.some.inj a).symm
theorem ix_lt {L : List κ} {x : κ} (hx : x ∈ L) : ixK L x < L.length := (List.getElem?_eq_some_iff.mp (ix_at hx)).1
end
theorem num_at {κ : Type} [DecidableEq κ] {ks : List κ} {i : Nat} {k : κ} (h : ks[i]? = some k) : (numK ks)[i]? = some (ixK (dedK ks) k) := by
  unfold numK
  rw [List.getElem?_map, h] <;> rfl
/-- as many classes: no class was divided -/
theorem no_split {n : Nat} {f h : Nat → Nat} (hf : ∀ i j, i < n → j < n → h i = h j → f i = f j) (c : (dedK ((List.range n).map h)).length ≤ (dedK ((List.range n).map f)).length) : ∀ i j, i < n → j < n → f i = f j → h i = h j := by
  intro i j hi hj e
  by_cases z : h i = h j
  · exact z
  exfalso
  obtain ⟨A, hA⟩ : ∃ A, A = dedK ((List.range n).map h) := ⟨_, rfl⟩
  obtain ⟨B, hB⟩ : ∃ B, B = dedK ((List.range n).map f) := ⟨_, rfl⟩
  rw [← hA, ← hB] at c
  have mA : ∀ x, x ∈ A ↔ ∃ a, a < n ∧ h a = x := fun x => by
    rw [hA, dedK_mem, List.mem_map]
    constructor
    · rintro ⟨a, ha, e⟩; exact ⟨a, List.mem_range.mp ha, e⟩
    · rintro ⟨a, ha, e⟩; exact ⟨a, List.mem_range.mpr ha, e⟩
  have mB : ∀ x, x ∈ B ↔ ∃ a, a < n ∧ f a = x := fun x => by
    rw [hB, dedK_mem, List.mem_map]
    constructor
    · rintro ⟨a, ha, e⟩; exact ⟨a, List.mem_range.mp ha, e⟩
    · rintro ⟨a, ha, e⟩; exact ⟨a, List.mem_range.mpr ha, e⟩
  have ndA : A.Nodup := by rw [hA]; exact dedK_nd _
  have ndB : B.Nodup := by rw [hB]; exact dedK_nd _
  obtain ⟨rep, hrep⟩ : ∃ rep : Nat → Nat, ∀ x ∈ A, rep x < n ∧ h (rep x) = x := by
    refine ⟨fun x => if hx : ∃ a, a < n ∧ h a = x then hx.choose else 0, fun x hx => ?_⟩
    have hx := (mA x).mp hx
    dsimp only
    rw [dif_pos hx]
    exact hx.choose_spec
  have inj : h j ∈ A := (mA _).mpr ⟨j, hj, rfl⟩
  have ini : h i ∈ A := (mA _).mpr ⟨i, hi, rfl⟩
  have cov : ∀ y ∈ B, y ∈ (A.erase (h j)).map fun x => f (rep x) := fun y hy => by
    obtain ⟨a, ha, rfl⟩ := (mB y).mp hy
    have key : ∀ b, b < n → h b ≠ h j → f b ∈ (A.erase (h j)).map fun x => f (rep x) := fun b hb ne => by
      have hbA : h b ∈ A := (mA _).mpr ⟨b, hb, rfl⟩
      obtain ⟨r1, r2⟩ := hrep (h b) hbA
      exact List.mem_map.mpr ⟨h b, (List.mem_erase_of_ne ne).mpr hbA, hf _ _ r1 hb r2⟩
    by_cases q : h a = h j
    · rw [show f a = f i from (hf a j ha hj q).trans e.symm]
      exact key i hi z
    · exact key a ha q
  have := nodup_lenK ndB cov
  rw [List.length_map, List.length_erase_of_mem inj] at this
  have := List.length_pos_of_mem inj
  omega
structure TabOk (rs : List TRow) : Prop where
  ro : RowsOk rs.length (getR rs)
  ln : ∀ a b, a < rs.length → b < rs.length → (getR rs a).1 = (getR rs b).1 → (getR rs a).2.length = (getR rs b).2.length
def hC (rs : List TRow) (k i : Nat) : Nat := (clsN rs k).getD i 0
theorem itK_inj : ∀ {a b : Itm}, itK a = itK b → a = b
  | .inl a, .inl b, h => by
    have h : (Sum.inl (a : Int) : Key) = .inl (b : Int) := h
    cases h
    rfl
  | .inr _, .inr _, h => by
    have h := Sum.inr.inj h
    rw [h]
  | .inl _, .inr _, h => by cases h
  | .inr _, .inl _, h => by cases h
theorem map_inj {α β : Type} {f : α → β} (hf : ∀ a b, f a = f b → a = b) : ∀ {xs ys : List α}, xs.map f = ys.map f → xs = ys
  | [], [], _ => rfl
  | [], _ :: _, h => by cases h
  | _ :: _, [], h => by cases h
  | x :: xs, y :: ys, h => by
    rw [List.map_cons, List.map_cons] at h
    injection h with h1 h2
    rw [hf _ _ h1, map_inj hf h2]
theorem keyM_inj {ms : List Nat} {m m' : Nat} {r r' : TRow} (h : keyM ms m r = keyM ms m' r') : m = m' ∧ renR (fun b => ms.getD b 0) r = renR (fun b => ms.getD b 0) r' := by
  unfold keyM rowK at h
  injection h with h1 h2
  injection h2 with h3 h4
  have h1 := Sum.inl.inj h1
  have h3 := Sum.inl.inj h3
  have h4 := map_inj (fun a b => itK_inj) h4
  refine ⟨by omega, Prod.ext (by omega) h4⟩
section
variable {rs : List TRow}
theorem keys_at (k : Nat) {i : Nat} (hi : i < rs.length) : (keysM rs (clsN rs k))[i]? = some (keyM (clsN rs k) (hC rs k i) (getR rs i)) := by
  have ln := clsN_len rs k
  have h1 : (clsN rs k)[i]? = some (hC rs k i) := by
    unfold hC
    rw [List.getD_eq_getElem?_getD, List.getElem?_eq_getElem (show i < (clsN rs k).length by rw [ln]; exact hi)] <;> rfl
  have h2 : rs[i]? = some (getR rs i) := by
    unfold getR
    rw [List.getD_eq_getElem?_getD, List.getElem?_eq_getElem hi] <;> rfl
  have hz : ((clsN rs k).zip rs)[i]? = some (hC rs k i, getR rs i) := List.getElem?_zip_eq_some.mpr ⟨h1, h2⟩
  unfold keysM
  rw [List.getElem?_map, hz] <;> rfl
theorem hC_succ (k : Nat) {i : Nat} (hi : i < rs.length) : hC rs (k + 1) i = ixK (dedK (keysM rs (clsN rs k))) (keyM (clsN rs k) (hC rs k i) (getR rs i)) := by
  unfold hC
  rw [List.getD_eq_getElem?_getD, show clsN rs (k + 1) = numK (keysM rs (clsN rs k)) from rfl, num_at (keys_at k hi)] <;> rfl
theorem hC_eq (k : Nat) {i j : Nat} (hi : i < rs.length) (hj : j < rs.length) : hC rs (k + 1) i = hC rs (k + 1) j ↔ hC rs k i = hC rs k j ∧ renR (hC rs k) (getR rs i) = renR (hC rs k) (getR rs j) := by
  rw [hC_succ k hi, hC_succ k hj]
  constructor
  · intro h
    exact keyM_inj (ix_inj (dedK_mem.mpr (List.mem_of_getElem? (keys_at k hi))) (dedK_mem.mpr (List.mem_of_getElem? (keys_at k hj))) h)
  · rintro ⟨h1, h2⟩
    have e : keyM (clsN rs k) (hC rs k i) (getR rs i) = keyM (clsN rs k) (hC rs k j) (getR rs j) := by
      unfold keyM
      rw [h1, show renR (fun b => (clsN rs k).getD b 0) (getR rs i) = renR (fun b => (clsN rs k).getD b 0) (getR rs j) from h2]
    rw [e]
theorem hC_range (k : Nat) : (List.range rs.length).map (hC rs k) = clsN rs k := by
  have ln := clsN_len rs k
  refine List.ext_getElem? fun i => ?_
  rw [List.getElem?_map]
  by_cases hi : i < rs.length
  · rw [List.getElem?_range hi, List.getElem?_eq_getElem (show i < (clsN rs k).length by rw [ln]; exact hi)]
    show some (hC rs k i) = _
    unfold hC
    rw [List.getD_eq_getElem?_getD, List.getElem?_eq_getElem (show i < (clsN rs k).length by rw [ln]; exact hi)] <;> rfl
  · rw [List.getElem?_eq_none (by simp; omega), List.getElem?_eq_none (by rw [ln]; omega)] <;> rfl
theorem renR_eq {f h : Nat → Nat} {n : Nat} (hf : ∀ i j, i < n → j < n → f i = f j → h i = h j) {r s : TRow} (hr : ∀ b : Nat, Sum.inl b ∈ r.2 → b < n) (hs : ∀ b : Nat, Sum.inl b ∈ s.2 → b < n) (e : renR f r = renR f s) : renR h r = renR h s := by
  obtain ⟨p, xs⟩ := r
  obtain ⟨q, ys⟩ := s
  have e1 : p = q := congrArg Prod.fst e
  have e2 : xs.map (renI f) = ys.map (renI f) := congrArg Prod.snd e
  replace hr : ∀ b : Nat, Sum.inl b ∈ xs → b < n := hr
  replace hs : ∀ b : Nat, Sum.inl b ∈ ys → b < n := hs
  refine Prod.ext e1 ?_
  show xs.map (renI h) = ys.map (renI h)
  clear e e1
  induction xs generalizing ys with
  | nil =>
    cases ys with
    | nil => rfl
    | cons y ys => cases e2
  | cons x xs ih =>
    cases ys with
    | nil => cases e2
    | cons y ys =>
      rw [List.map_cons, List.map_cons] at e2
      injection e2 with a b
      rw [List.map_cons, List.map_cons, ih (fun b hb => hr b (List.mem_cons_of_mem _ hb)) (ys := ys) (hs := fun b hb => hs b (List.mem_cons_of_mem _ hb)) (e2 := b)]
      congr 1
      cases x with
      | inl x =>
        cases y with
        | inl y =>
          have a : f x = f y := Sum.inl.inj a
          show Sum.inl (h x) = Sum.inl (h y)
          rw [hf x y (hr x List.mem_cons_self) (hs y List.mem_cons_self) a]
        | inr t => cases a
      | inr s =>
        cases y with
        | inl y => cases a
        | inr t =>
          have a : s = t := Sum.inr.inj a
          rw [a] <;> rfl
/-- the last classes are stable -/
theorem stable (T : TabOk rs) {k : Nat} (c : ndist (clsN rs (k + 1)) ≤ ndist (clsN rs k)) {i j : Nat} (hi : i < rs.length) (hj : j < rs.length) (e : hC rs (k + 1) i = hC rs (k + 1) j) : renR (hC rs (k + 1)) (getR rs i) = renR (hC rs (k + 1)) (getR rs j) := by
  have hf : ∀ i j, i < rs.length → j < rs.length → hC rs (k + 1) i = hC rs (k + 1) j → hC rs k i = hC rs k j := fun i j hi hj h => ((hC_eq k hi hj).mp h).1
  have ns := no_split hf (by rw [hC_range, hC_range]; exact c)
  exact renR_eq ns (T.ro.ok i hi) (T.ro.ok j hj) ((hC_eq k hi hj).mp e).2
/-- the rows of the classes -/
def gM (rs : List TRow) (k c : Nat) : TRow := renR (hC rs k) (getR rs (ixK (clsN rs k) c))
def NC (rs : List TRow) (k : Nat) : Nat := ndist (clsN rs k)
theorem hC_mem (k : Nat) {i : Nat} (hi : i < rs.length) : hC rs k i ∈ clsN rs k := by
  rw [← hC_range]
  exact List.mem_map_of_mem (List.mem_range.mpr hi)
theorem ix_cls (k : Nat) {i : Nat} (hi : i < rs.length) : ixK (clsN rs k) (hC rs k i) < rs.length ∧ hC rs k (ixK (clsN rs k) (hC rs k i)) = hC rs k i := by
  have h1 := ix_lt (hC_mem k hi)
  rw [clsN_len] at h1
  refine ⟨h1, ?_⟩
  have h2 := ix_at (hC_mem k hi)
  show (clsN rs k).getD _ 0 = _
  rw [List.getD_eq_getElem?_getD, h2] <;> rfl
theorem gM_at (T : TabOk rs) {k : Nat} (c : ndist (clsN rs (k + 1)) ≤ ndist (clsN rs k)) {i : Nat} (hi : i < rs.length) : gM rs (k + 1) (hC rs (k + 1) i) = renR (hC rs (k + 1)) (getR rs i) := by
  obtain ⟨h1, h2⟩ := ix_cls (k + 1) hi
  exact stable T c h1 hi h2
/-- the numbers of the classes -/
theorem hC_lt (k : Nat) {i : Nat} (hi : i < rs.length) : hC rs (k + 1) i < NC rs (k + 1) := by
  unfold NC ndist
  have h1 : hC rs (k + 1) i < (dedK (keysM rs (clsN rs k))).length := by
    rw [hC_succ k hi]
    exact ix_lt (dedK_mem.mpr (List.mem_of_getElem? (keys_at k hi)))
  refine Nat.lt_of_lt_of_le h1 ?_
  have h2 : (dedK (keysM rs (clsN rs k))).length = ((dedK (keysM rs (clsN rs k))).map (ixK (dedK (keysM rs (clsN rs k))))).length := (List.length_map ..).symm
  rw [h2]
  refine nodup_lenK ?_ fun x hx => ?_
  · have nd := dedK_nd (keysM rs (clsN rs k))
    generalize dedK (keysM rs (clsN rs k)) = D at nd
    have key : ∀ E : List (List Key), (∀ x ∈ E, x ∈ D) → E.Nodup → (E.map (ixK D)).Nodup := by
      intro E
      induction E with
      | nil => intro _ _; exact List.nodup_nil
      | cons x E ih =>
        intro hE nE
        obtain ⟨n1, n2⟩ := List.nodup_cons.mp nE
        rw [List.map_cons, List.nodup_cons]
        refine ⟨fun z => ?_, ih (fun y hy => hE y (List.mem_cons_of_mem _ hy)) n2⟩
        obtain ⟨y, hy, e⟩ := List.mem_map.mp z
        have := ix_inj (hE y (List.mem_cons_of_mem _ hy)) (hE x List.mem_cons_self) e
        exact n1 (this ▸ hy)
    exact key D (fun x hx => hx) nd
  · obtain ⟨q, hq, rfl⟩ := List.mem_map.mp hx
    rw [dedK_mem]
    show _ ∈ numK (keysM rs (clsN rs k))
    exact List.mem_map_of_mem (dedK_mem.mp hq)
theorem hC_onto (k : Nat) {c : Nat} (hc : c < NC rs (k + 1)) : ∃ i, i < rs.length ∧ hC rs (k + 1) i = c := by
  have nd := dedK_nd (clsN rs (k + 1))
  have all : ∀ x ∈ dedK (clsN rs (k + 1)), x < NC rs (k + 1) := fun x hx => by
    rw [dedK_mem, ← hC_range] at hx
    obtain ⟨i, hi, rfl⟩ := List.mem_map.mp hx
    exact hC_lt k (List.mem_range.mp hi)
  by_cases z : c ∈ dedK (clsN rs (k + 1))
  · rw [dedK_mem, ← hC_range] at z
    obtain ⟨i, hi, rfl⟩ := List.mem_map.mp z
    exact ⟨i, List.mem_range.mp hi, rfl⟩
  · exfalso
    have h := nd_lt (n := NC rs (k + 1)) (l := c :: dedK (clsN rs (k + 1))) (List.nodup_cons.mpr ⟨z, nd⟩) fun x hx => by
      rcases List.mem_cons.mp hx with rfl | hx
      · exact hc
      · exact all x hx
    rw [List.length_cons] at h
    have : NC rs (k + 1) = (dedK (clsN rs (k + 1))).length := rfl
    omega
theorem gM_ok (T : TabOk rs) {k : Nat} (c : ndist (clsN rs (k + 1)) ≤ ndist (clsN rs k)) : RowsOk (NC rs (k + 1)) (gM rs (k + 1)) := by
  have key : ∀ a, a < NC rs (k + 1) → ∃ i, i < rs.length ∧ gM rs (k + 1) a = renR (hC rs (k + 1)) (getR rs i) := fun a ha => by
    obtain ⟨i, hi, rfl⟩ := hC_onto k ha
    exact ⟨i, hi, gM_at T c hi⟩
  refine ⟨fun a ha b hb => ?_, fun a ha => ?_, fun a ha => ?_⟩
  · obtain ⟨i, hi, e⟩ := key a ha
    rw [e] at hb
    obtain ⟨y, hy, e2⟩ := List.mem_map.mp hb
    cases y with
    | inl y =>
      have e2 : hC rs (k + 1) y = b := Sum.inl.inj e2
      rw [← e2]
      exact hC_lt k (T.ro.ok i hi y hy)
    | inr s => cases e2
  · obtain ⟨i, hi, e⟩ := key a ha
    rw [e]
    intro z
    have := congrArg List.length z
    rw [show (renR (hC rs (k + 1)) (getR rs i)).2.length = (getR rs i).2.length from List.length_map ..] at this
    exact T.ro.ne i hi (List.length_eq_zero_iff.mp this)
  · obtain ⟨i, hi, e⟩ := key a ha
    rw [e, show (renR (hC rs (k + 1)) (getR rs i)).2.length = (getR rs i).2.length from List.length_map ..]
    exact T.ro.le i hi
end
end Fc
set_option maxRecDepth 100000
set_option maxHeartbeats 4000000
namespace Fc
open PySem PySem.Spec PyProof.Rows L2 FcR
open Evl (Ex)
def mrgT (rs : List TRow) (k : Nat) : List TRow := ordT (gM rs (k + 1)) (hC rs (k + 1) 0) (NC rs (k + 1))
theorem getR_mem {rs : List TRow} {a : Nat} (h : a < rs.length) : getR rs a ∈ rs := by
  unfold getR
  rw [List.getD_eq_getElem?_getD, List.getElem?_eq_getElem h]
  exact List.getElem_mem h
theorem tabOk_of {rows : List Row} {rs : List TRow} (tv : ∀ r ∈ rs, TV rows rs.length r) : TabOk rs := by
  refine ⟨⟨fun a ha b hb => ?_, fun a ha z => ?_, fun a ha => ?_⟩, fun a b ha hb e => ?_⟩
  · rcases (tv _ (getR_mem ha)).it _ hb with ⟨b', e, h⟩ | ⟨s, e, _⟩
    · cases e; exact h
    · cases e
  · have := (tv _ (getR_mem ha)).ln
    rw [z] at this
    simp at this
    omega
  · rw [(tv _ (getR_mem ha)).ln]
    split <;> decide
  · rw [(tv _ (getR_mem ha)).ln, (tv _ (getR_mem hb)).ln, e]
theorem putK_len {κ : Type} [DecidableEq κ] (kvs : List (κ × V)) (k : κ) (v : V) : (putK kvs k v).length ≤ kvs.length + 1 := by
  unfold putK
  split
  · rw [List.length_map]; omega
  · rw [List.length_append]; simp
def sp_mrg (K : PySem.W.Frag) : Sp := fun vs H Q _ => ∃ (F : Hp) (A : CAd) (rows : List Row) (la : Addr) (ts : List Addr) (rs : List TRow), vs = [.ref A.p, .ref la] ∧ CodeH K F F A rows ∧ Ex F H ∧ rows.length ≤ 400 ∧ H la = some (.lst (ts.map V.ref)) ∧ RowsAt K H ts rs ∧ 1 ≤ rs.length ∧ rs.length ≤ 200 ∧ (∀ r ∈ rs, TV rows rs.length r) ∧
  ∀ (H' : Hp) (a : Addr) (us : List Addr) (k : Nat), Ex H H' → H a = none → H' a = some (.lst (us.map V.ref)) → RowsAt K H' us (mrgT rs k) → StopK rs k → Q (.ref a) H'
section
variable {P : Program} {w : World} {h : Heap} {K : PySem.W.Frag} {mg : Str → Option Value} {base : Heap}
abbrev N_merged : List Str := ["code", "rows", "marks", "some", "mark", "row"]
theorem sc_merged : FnScope N_merged ["code", "rows"] (defScope sd_merged) := ⟨rfl, rfl, rfl, by decide +kernel, rfl, by decide +kernel, by decide +kernel⟩
theorem okF_merged (T : Tx w h K mg) : ∃ fd, FnOk P w K mg base (CX P w) 10 (He.fAd K ("merged", none)) fd ["code", "rows"] (sp_mrg K) ∧ Binds K fd ["code", "rows"] [] ∧ PySem.W.keepIn K (.ref (He.fAd K ("merged", none))) = true ∧ FunD K "merged" "merged" (defArgs sd_merged) (defBody sd_merged) (defScope sd_merged) [] [] (He.fAd K ("merged", none)) fd := by
  obtain ⟨fd, F⟩ := F_merged T
  refine ⟨fd, ?_, F.bindsN (fun _ _ _ _ _ _ us hl => match us, hl with | [_, _], _ => rfl), F.kp, F⟩
  obtain ⟨fd_check_rows, G_check_rows, bi_check_rows, kp_check_rows⟩ := ok_check_rows (P := P) (base := base) T
  obtain ⟨fd_classes_of, G_classes_of, bi_classes_of, kp_classes_of⟩ := ok_classes_of (P := P) (base := base) T
  obtain ⟨fd_ordered, G_ordered, bi_ordered, kp_ordered⟩ := ok_orderedD (P := P) (base := base) T
  obtain ⟨fd_renumbered, G_renumbered, bi_renumbered, kp_renumbered⟩ := ok_renumbered (P := P) (base := base) T
  refine F.ok sc_merged (fun vs H Q E h => ?_) (fun cdv A outer s H vs Q E hr h => ?_)
  · obtain ⟨F, A, rows, la, ts, rs, rfl, C, xF, hl, hla, RA, n1, n2, tv, q⟩ := h
    rfl
  · obtain ⟨F, A, rows, la, ts, rs, rfl, C, xF, hl, hla, RA, n1, n2, tv, q⟩ := h
    refine ⟨_, PSs.nox (pss_cons (ps_expr (pe_call G_check_rows (hr.mono (by decide)) rfl (g_check_rows T) kp_check_rows bi_check_rows .nil passF (pa_cons (pv 0) (pa_cons (pv 1) pa_nil)))) (pss_cons (ps_set (i := 2) sc_merged.nd rfl (Or.inl rfl) (pe_call G_classes_of (hr.mono (by decide)) rfl (g_classes_of T) kp_classes_of bi_classes_of .nil passF (pa_cons (pv 1) pa_nil))) (pss_cons (ps_set (i := 3) sc_merged.nd rfl (Or.inl rfl) pe_dnewK) (pss_cons (ps_for PassesOwn.never rfl (pi_zip rfl (fr_zip T) (pa_cons (pv 2) (pa_cons (pv 1) pa_nil))) (pg_tup rfl (pgs_cons (pg_name (i := 4) sc_merged.nd rfl (Or.inl rfl)) (pgs_cons (pg_name (i := 5) sc_merged.nd rfl (Or.inl rfl)) pgs_nil))) (pss_one (ps_asg (pe_call G_renumbered (hr.mono (by decide)) rfl (g_renumbered T) kp_renumbered bi_renumbered .nil passF (pa_cons (pv 5) (pa_cons (pv 2) pa_nil))) (pg_sub (pv 3) (pv 4) (set_dict (hu_of hr)))))) (pss_one (ps_ret (pe_call G_ordered (hr.mono (by decide)) rfl (g_ordered T) kp_ordered bi_ordered .nil passF (pa_cons (pv 3) (pa_cons (pe_ix ix_list (pv 2) pe_int (fun _ _ => rfl)) pa_nil))))))))), ?_⟩
    have tl := rowsAt_len RA
    have TO := tabOk_of tv
    refine ⟨_, rfl, _, rfl, F, A, rows, la, ts, rs, rfl, C, xF, hl, hla, RA, n1, n2, tv, fun H1 x1 => ?_⟩
    refine ⟨_, rfl, la, ts, rs, rfl, x1 _ _ hla, rowsAt_ex x1 RA, n1, by omega, TO.ro, fun H2 a2 k x2 na2 s2 cs => ?_⟩
    have c := cs.le
    have x02 := x1.trans x2
    show ∀ (p3 : Addr), H2 p3 = none → _
    intro p3 n3
    generalize e3 : upd _ p3 _ = H3
    obtain ⟨x3, s3, o3⟩ := new_of e3 n3
    clear e3
    have x03 := x02.trans x3
    have ln := clsN_len rs (k + 1)
    have mi : ∀ x, x < rs.length → (intsV (clsN rs (k + 1)))[x]? = some (.int (hC rs (k + 1) x : Int)) := fun x hx => getElem?_ints (by rw [ln]; exact hx)
    have n3H : H p3 = none := ex_none x02 n3
    have a23 : a2 ≠ p3 := fun z => by rw [z, ← z, z] at s2; rw [s2] at n3; cases n3
    refine ⟨_, rfl, _, rfl, a2, la, _, _, rfl, Evl.sq_of (x3 _ _ s2), Evl.sq_of (x03 _ _ hla), ?_⟩
    refine for_it (walk_zip (n := rs.length) (xs := intsV (clsN rs (k + 1))) (ys := ts.map V.ref) (by rw [show (intsV (clsN rs (k + 1))).length = (clsN rs (k + 1)).length from List.length_map .., ln, List.length_map, tl, Nat.min_self])) (fun i σ' H' => ∃ (u4 u5 : Option V) (kvs : List (Key × V)), σ' = [some (.ref A.p), some (.ref la), some (.ref a2), some (.ref p3), u4, u5] ∧ Ex H H' ∧ H' a2 = some (.lst (intsV (clsN rs (k + 1)))) ∧ H' p3 = some (.dK kvs) ∧ kvs.length ≤ i ∧ ∀ j, j < i → ∃ t, valV kvs (.inl (hC rs (k + 1) j : Int)) = some (.ref t) ∧ RowAt K H' t (gM rs (k + 1) (hC rs (k + 1) j))) ?_ ?_ ?_ ?_
    · exact ⟨_, _, [], rfl, x03, x3 _ _ s2, s3, Nat.le_refl _, fun j hj => absurd hj (Nat.not_lt_zero j)⟩
    · exact fun i σ' H' _ ⟨_, _, _, _, e, l, _⟩ => ⟨Evl.sq_of l, Evl.sq_of (e _ _ hla)⟩
    · rintro i v σ' Hq Hr hi ⟨u4, u5, kvs, rfl, e, l, d, kl, kj⟩ ⟨tp, y1, y2, rfl, n2', rfl, z1, z2⟩
      have hi : i < rs.length := hi
      replace z1 : (intsV (clsN rs (k + 1)))[i]? = some y1 := z1
      rw [mi i hi] at z1
      cases z1
      obtain ⟨t, ht, rt⟩ := paired_getT RA hi
      replace z2 : (ts.map V.ref)[i]? = some y2 := z2
      rw [List.getElem?_map, ht] at z2
      cases z2
      generalize e2 : upd Hq tp _ = H7
      obtain ⟨x7, s7, o7⟩ := new_of e2 n2'
      clear e2
      refine ⟨tp, _, rfl, SqT.of s7, rfl, _, _, rfl, _, _, rfl, rfl, ?_⟩
      refine ⟨_, rfl, _, rfl, t, a2, getR rs i, clsN rs (k + 1), rfl, Evl.ex_t (e.trans x7) rt, x7 _ _ l, TO.ro.ne i hi, TO.ro.le i hi, fun b hb => by rw [ln]; exact TO.ro.ok i hi b hb, fun H8 t8 x8 n8 s8 => ?_⟩
      have x78 := x7.trans x8
      refine ⟨_, rfl, _, rfl, p3, _, rfl, DPut.k (k := .inl (hC rs (k + 1) i : Int)) (x78 _ _ d) (szl (by omega)), ?_⟩
      generalize e9 : upd _ p3 _ = H9
      obtain ⟨s9, o9⟩ := set_of e9
      clear e9
      have d8 := x78 _ _ d
      have k9 : ∀ c ys, SqT K H8 c ys → SqT K H9 c ys := fun c ys h => by
        rcases h with h | h
        · refine .inl ?_
          rcases h with h | ⟨o, h⟩
          · exact .inl (by rw [o9 c (fun z => by rw [z, d8] at h; cases h)]; exact h)
          · exact .inr ⟨o, by rw [o9 c (fun z => by rw [z, d8] at h; cases h)]; exact h⟩
        · exact .inr h
      refine ⟨_, _, _, rfl, fun b o eb => (o9 b (fun z => by rw [z, n3H] at eb; cases eb)).trans ((e.trans x78) _ _ eb), (o9 _ a23).trans (x78 _ _ l), s9, by have := putK_len kvs (.inl (hC rs (k + 1) i : Int) : Key) (.ref t8); omega, fun j hj => ?_⟩
      have new : RowAt K H9 t8 (gM rs (k + 1) (hC rs (k + 1) i)) := by
        rw [gM_at TO c hi]
        exact k9 _ _ (SqT.of s8)
      rw [valV_put]
      by_cases z : hC rs (k + 1) j = hC rs (k + 1) i
      · rw [if_pos (by rw [z]), z]
        exact ⟨t8, rfl, new⟩
      · rw [if_neg (fun y => z (by have y := Sum.inl.inj y; omega))]
        have jl : j < i := by
          by_cases q : j = i
          · exact absurd (by rw [q]) z
          · omega
        obtain ⟨t', h1, h2⟩ := kj j jl
        exact ⟨t', h1, k9 _ _ (Evl.ex_t x78 h2)⟩
    rintro σ' H10 ⟨u4, u5, kvs, rfl, e, l, d, kl, kj⟩
    have nc : NC rs (k + 1) ≤ rs.length := by
      have := dedK_le (clsN rs (k + 1))
      rw [ln] at this
      exact this
    refine ⟨_, rfl, _, rfl, a2, _, (0 : Int), _, rfl, rfl, Evl.sq_of l, atI_nat (j := 0) (mi 0 (by omega)), p3, hC rs (k + 1) 0, NC rs (k + 1), kvs, gM rs (k + 1), rfl, d, fun c' hc' => ?_, by omega, hC_lt k (by omega), gM_ok TO c, fun H' a us x na ha ra => ?_⟩
    · obtain ⟨i, hi, rfl⟩ := hC_onto k hc'
      exact kj i hi
    · exact q H' a us k (e.trans x) (ex_none e na) ha ra cs
theorem ok_merged (T : Tx w h K mg) : Ok P w K mg base 10 ("merged", none) ["code", "rows"] (sp_mrg K) := by
  obtain ⟨fd, a, b, c, _⟩ := okF_merged (P := P) (base := base) T
  exact ⟨fd, a, b, c⟩
end
end Fc
set_option maxRecDepth 100000
set_option maxHeartbeats 4000000
namespace Fc
open PySem PySem.Spec PyProof.Rows L2 FcR
open Evl (Ex)
inductive BadI (K : PySem.W.Frag) (H : Hp) (n : Nat) : V → Prop
  | str {s : Str} (h : ¬ s ∈ endsL) : BadI K H n (.str s)
  | int {k : Int} (h : (decide ((0 : Int) ≤ k) && decide (k ≤ (n : Int) - 1)) = false) : BadI K H n (.int k)
  | ty {v : V} {t : Value} {b1 b2 : Bool} (ty : ∀ H', Ex H H' → TyX K H' v t) (k0 : PySem.W.kitOne K t (.type "str") = some false) (k1 : PySem.W.kitOne K t (.type "int") = some b1) (k2 : PySem.W.kitOne K t (.type "bool") = some b2) (hb : (b1 && !b2) = false) : BadI K H n v
theorem BadI.ex {K : PySem.W.Frag} {H H' : Hp} {n : Nat} {v : V} (b : BadI K H n v) (e : Ex H H') : BadI K H' n v := by
  cases b with
  | str h => exact .str h
  | int h => exact .int h
  | ty t a b c d => exact .ty (fun H2 e2 => t H2 (e.trans e2)) a b c d
def ItB (K : PySem.W.Frag) (H : Hp) (n : Nat) (x : V) (b : Bool) : Prop := (b = true ∧ ∃ y, x = itV y ∧ ItOk n y) ∨ (b = false ∧ BadI K H n x)
theorem ItB.ex {K : PySem.W.Frag} {H H' : Hp} {n : Nat} {x : V} {b : Bool} (h : ItB K H n x b) (e : Ex H H') : ItB K H' n x b := h.imp id fun ⟨a, b⟩ => ⟨a, b.ex e⟩
def sp_itemB (K : PySem.W.Frag) : Sp := fun vs H Q _ => ∃ (x : V) (n : Nat) (b : Bool), vs = [x, .int (n : Int)] ∧ ItB K H n x b ∧ ∀ H', Ex H H' → Q (.bl b) H'
inductive BadR (K : PySem.W.Frag) (H : Hp) (rows : List Row) (n : Nat) : V → Prop
  | ty {v : V} {t : Value} (ty : ∀ H', Ex H H' → TyX K H' v t) (k : PySem.W.kitOne K t (.type "tuple") = some false) : BadR K H rows n v
  | nil {a : Addr} (s : SqT K H a []) : BadR K H rows n (.ref a)
  | fst {a : Addr} {x : V} {xs : List V} {t : Value} {b1 b2 : Bool} (s : SqT K H a (x :: xs)) (ty : ∀ H', Ex H H' → TyX K H' x t) (k1 : PySem.W.kitOne K t (.type "int") = some b1) (k2 : PySem.W.kitOne K t (.type "bool") = some b2) (hb : (b1 && !b2) = false) : BadR K H rows n (.ref a)
  | pl {a : Addr} {k : Int} {xs : List V} (s : SqT K H a (.int k :: xs)) (h : ∀ p ∈ plN rows, (p : Int) ≠ k) : BadR K H rows n (.ref a)
  | len {a : Addr} {p : Nat} {xs : List V} (s : SqT K H a (.int (p : Int) :: xs)) (h : p ∈ plN rows) (l : xs.length ≠ 1 + (if kdR rows p ∈ askL then 1 else 0)) : BadR K H rows n (.ref a)
  | it {a : Addr} {p : Nat} {xs : List V} {bs : List Bool} (s : SqT K H a (.int (p : Int) :: xs)) (h : p ∈ plN rows) (l : xs.length = 1 + (if kdR rows p ∈ askL then 1 else 0)) (hb : Paired (ItB K H n) xs bs) (hf : bs.all id = false) : BadR K H rows n (.ref a)
theorem BadR.ex {K : PySem.W.Frag} {H H' : Hp} {rows : List Row} {n : Nat} {v : V} (b : BadR K H rows n v) (e : Ex H H') : BadR K H' rows n v := by
  cases b with
  | ty t k => exact .ty (fun H2 e2 => t H2 (e.trans e2)) k
  | nil s => exact .nil (Evl.ex_t e s)
  | fst s t k1 k2 hb => exact .fst (Evl.ex_t e s) (fun H2 e2 => t H2 (e.trans e2)) k1 k2 hb
  | pl s h => exact .pl (Evl.ex_t e s) h
  | len s h l => exact .len (Evl.ex_t e s) h l
  | it s h l hb hf => exact .it (Evl.ex_t e s) h l (L2.Paired.mapP hb fun _ _ h => h.ex e) hf
def sp_isrowX (K : PySem.W.Frag) : Sp := fun vs H Q _ => ∃ (v : V) (ka : Addr) (rows : List Row) (n : Nat), vs = [v, .ref ka, .int (n : Int)] ∧ H ka = some (.dK (kindKV rows)) ∧ (BadR K H rows n v ∧ (∀ H', Ex H H' → Q (.bl false) H') ∨ ∃ t r, v = .ref t ∧ RowAt K H t r ∧ TV rows n r ∧ ∀ H', Ex H H' → Q (.bl true) H')
inductive BadT (K : PySem.W.Frag) (H : Hp) (rows : List Row) : V → Int → Prop
  | ty {v : V} {t : Value} (ty : ∀ H', Ex H H' → TyX K H' v t) (k : PySem.W.kitOne K t (.type "list") = some false) : BadT K H rows v (-1)
  | size {a : Addr} {xs : List V} (s : SqL K H a xs) (h : xs.length = 0 ∨ 200 < xs.length) : BadT K H rows (.ref a) (-1)
  | at_ {a : Addr} {ts : List Addr} {rs : List TRow} {u : V} {post : List V} {n : Nat} (s : SqL K H a (ts.map V.ref ++ u :: post)) (RA : RowsAt K H ts rs) (e : n = (ts.map V.ref ++ u :: post).length) (h2 : n ≤ 200) (tv : ∀ r ∈ rs, TV rows n r) (b : BadR K H rows n u) : BadT K H rows (.ref a) (rs.length : Int)
theorem BadT.ex {K : PySem.W.Frag} {H H' : Hp} {rows : List Row} {v : V} {i : Int} (b : BadT K H rows v i) (e : Ex H H') : BadT K H' rows v i := by
  cases b with
  | ty t k => exact .ty (fun H2 e2 => t H2 (e.trans e2)) k
  | size s h => exact .size (Evl.ex_l e s) h
  | at_ s RA en h2 tv b => exact .at_ (Evl.ex_l e s) (rowsAt_ex e RA) en h2 tv (b.ex e)
def sp_ckrX (K : PySem.W.Frag) : Sp := fun vs H Q E => ∃ (F : Hp) (A : CAd) (rows : List Row) (v : V) (i : Int), vs = [.ref A.p, v] ∧ CodeH K F F A rows ∧ Ex F H ∧ rows.length ≤ 400 ∧ BadT K H rows v i ∧ RaisesA K "InvalidTable" "at" H (.int i) E
theorem kindKV_none (rows : List Row) (k : Int) : ∀ (l : List Nat), (∀ p ∈ l, (p : Int) ≠ k) → valV (l.map fun (p : Nat) => ((.inl (p : Int), .str (kdR rows p)) : Key × V)) (.inl k) = none
  | [], _ => rfl
  | p :: l, h => by
    rw [List.map_cons, valV_neg (fun z : (Sum.inl (p : Int) : Key) = .inl k => h p List.mem_cons_self (Sum.inl.inj z))]
    exact kindKV_none rows k l fun q hq => h q (List.mem_cons_of_mem _ hq)
theorem itB_of {K : PySem.W.Frag} {H : Hp} {n : Nat} {ys : List Itm} (h : ∀ y ∈ ys, ItOk n y) : Paired (ItB K H n) (ys.map itV) (List.replicate ys.length true) := by
  induction ys with
  | nil => exact .nil
  | cons y ys ih => exact .cons (.inl ⟨rfl, y, rfl, h y List.mem_cons_self⟩) (ih fun z hz => h z (List.mem_cons_of_mem _ hz))
theorem paired_takeB {K : PySem.W.Frag} {H : Hp} {n : Nat} : ∀ {xs : List V} {bs : List Bool}, Paired (ItB K H n) xs bs → ∀ {i : Nat} {x : V}, xs[i]? = some x → ∃ b, bs[i]? = some b ∧ ItB K H n x b
  | _, _, .nil, _, _, h => by cases h
  | _, _, .cons r t, 0, x, h => by cases h; exact ⟨_, rfl, r⟩
  | _, _, .cons r t, i + 1, x, h => paired_takeB t (i := i) h
section
variable {P : Program} {w : World} {h : Heap} {K : PySem.W.Frag} {mg : Str → Option Value} {base : Heap}
theorem ok_is_itemB (T : Tx w h K mg) : Ok P w K mg base 4 ("is_item", none) ["value", "many"] (sp_itemB K) := by
  obtain ⟨fd, F⟩ := F_is_item T
  refine ⟨fd, ?_, F.bindsN (fun _ _ _ _ _ _ us hl => match us, hl with | [_, _], _ => rfl), F.kp⟩
  obtain ⟨fd_is_between, G_is_between, bi_is_between, kp_is_between⟩ := ok_is_between (P := P) (base := base) T
  refine F.ok sc_is_item (fun vs H Q E h => ?_) (fun cdv A outer s H vs Q E hr h => ?_)
  · obtain ⟨x, n, b, rfl, hy, q⟩ := h
    rfl
  · obtain ⟨x, n, b, rfl, hy, q⟩ := h
    refine ⟨_, PSs.nox (pss_cons (ps_if (pt_val (pe_callB call_isi rfl (fr_isinstance T) b_isinstance (pa_cons (pv 0) (pa_cons (pe_bltn (v := .ty "str") rfl (fr_str T) b_str rfl) pa_nil)))) (pss_one (ps_ret (pe_cmpR op_in_seq (pv 0) (pe_glob (v := .ref (He.ga K "ENDS_tables")) rfl (g_ENDS_tables T) rfl) (by rfl)))) pss_nil) (pss_one (ps_ret (pe_call G_is_between (hr.mono (by decide)) rfl (g_is_between T) kp_is_between bi_is_between .nil passF (pa_cons (pv 0) (pa_cons pe_int (pa_cons (pe_op op_sub (pv 1) pe_int) pa_nil))))))), ?_⟩
    rcases hy with ⟨rfl, y, rfl, hy⟩ | ⟨rfl, hy⟩
    · have ty : ∀ {J : Hp}, TyX K J (itV y) (.type (tyD (itD y))) := dp_ty (dp_it y)
      refine ⟨_, rfl, itV y, .ty "str", _, _, _, rfl, .ty _, ty, k_str _, ?_⟩
      rcases hy with ⟨b, rfl, hb⟩ | ⟨s, rfl, hs⟩
      · exact ⟨_, rfl, _, rfl, _, rfl, _, _, rfl, rfl, .int (b : Int), 0, _, rfl, .inl ⟨_, rfl, by rw [show (decide ((0 : Int) ≤ (b : Int)) && decide ((b : Int) ≤ (n : Int) - 1)) = true from by simp; omega]; exact q H (Evl.Ex.refl _)⟩⟩
      · refine ⟨_, rfl, _, rfl, He.ga K "ENDS_tables", _, rfl, .inr (t_ENDS_tables T _), rfl, flat_strs endsL, ?_⟩
        have e : inV (itV (.inr s)) [.str "end", .str "return", .str "raise"] = true := (inV_strs _ endsL).trans (decide_eq_true hs)
        rw [e]
        exact q H (Evl.Ex.refl _)
    · cases hy with
      | @str s hs =>
        refine ⟨_, rfl, .str s, .ty "str", _, _, _, rfl, .ty _, .base (.str _), k_str (.str s), ?_⟩
        refine ⟨_, rfl, _, rfl, He.ga K "ENDS_tables", _, rfl, .inr (t_ENDS_tables T _), rfl, flat_strs endsL, ?_⟩
        have e : inV (.str s) [.str "end", .str "return", .str "raise"] = false := (inV_strs _ endsL).trans (decide_eq_false hs)
        rw [e]
        exact q H (Evl.Ex.refl _)
      | @int k hk =>
        refine ⟨_, rfl, .int k, .ty "str", _, _, _, rfl, .ty _, .base (.int _), k_str (.int k), ?_⟩
        exact ⟨_, rfl, _, rfl, _, rfl, _, _, rfl, rfl, .int k, 0, _, rfl, .inl ⟨_, rfl, by rw [hk]; exact q H (Evl.Ex.refl _)⟩⟩
      | @ty v t b1 b2 ty k0 k1 k2 hb =>
        refine ⟨_, rfl, x, .ty "str", _, _, _, rfl, .ty _, ty H (Evl.Ex.refl _), k0, ?_⟩
        exact ⟨_, rfl, _, rfl, _, rfl, _, _, rfl, rfl, x, 0, _, rfl, .inr ⟨t, b1, b2, ty H (Evl.Ex.refl _), k1, k2, hb, q H (Evl.Ex.refl _)⟩⟩
theorem ok_is_rowX (T : Tx w h K mg) : Ok P w K mg base 5 ("is_row", none) ["row", "kinds", "many"] (sp_isrowX K) := by
  obtain ⟨fd, F⟩ := F_is_row T
  refine ⟨fd, ?_, F.bindsN (fun _ _ _ _ _ _ us hl => match us, hl with | [_, _, _], _ => rfl), F.kp⟩
  obtain ⟨fd_is_integer, G_is_integer, bi_is_integer, kp_is_integer⟩ := ok_is_integer (P := P) (base := base) T
  obtain ⟨fd_is_item, G_is_item, bi_is_item, kp_is_item⟩ := ok_is_itemB (P := P) (base := base) T
  refine F.ok sc_is_row (fun vs H Q E h => ?_) (fun cdv A outer s H vs Q E hr h => ?_)
  · obtain ⟨v, ka, rows, n, rfl, hk, alt⟩ := h
    rfl
  · obtain ⟨v, ka, rows, n, rfl, hk, alt⟩ := h
    refine ⟨_, PSs.nox (pss_cons (ps_if (PW.pt (pw_or (pt_not (pt_val (pe_callB call_isi rfl (fr_isinstance T) b_isinstance (pa_cons (pv 0) (pa_cons (pe_bltn (v := .ty "tuple") rfl (fr_tuple T) b_tuple rfl) pa_nil))))) (pw_or (pt_cmpR (FcW.op_eqNil hr) (pv 0) (pe_tup pa_nil) (nomark _)) (pw_or (pt_not (pt_val (pe_call G_is_integer (hr.mono (by decide)) rfl (g_is_integer T) kp_is_integer bi_is_integer .nil passF (pa_cons (pe_ix ix_tup (pv 0) pe_int (fun _ _ => rfl)) pa_nil)))) (pw_or1 (pt_cmp (pc_dnotin (hu_of hr) (pe_ix ix_tup (pv 0) pe_int (fun _ _ => rfl)) (pv 1)))))))) (pss_one (ps_ret pe_bl)) pss_nil) (pss_cons (ps_if (pt_cmpR op_ne (pe_callB call_len_seq rfl (fr_len T) b_len (pa_cons (pv 0) pa_nil)) (pe_op op_add pe_int (pe_callTy call_int1 rfl (fr_int T) b_int (pa_cons (pe_cmpR op_in_seq (pe_dget (hu_of hr) (pv 1) (pe_ix ix_tup (pv 0) pe_int (fun _ _ => rfl)) (fun _ _ => rfl)) (pe_glob (v := .ref (He.ga K "ASKING_tables")) rfl (g_ASKING_tables T) rfl) (by rfl)) pa_nil))) (nomark _)) (pss_one (ps_ret pe_bl)) pss_nil) (pss_one (ps_ret (pe_callB (cr_all rfl) rfl (fr_all T) b_all (pa_cons (pe_lc (own := [("item", 3)]) rfl sc_is_row.nd (pi_tup (pe_slice sl_tup (pv 0) (po_some pe_int) po_none)) (blkOk_by (N := N_is_row) (sc := defScope sd_is_row) (by decide +kernel)) (fun _ _ _ _ _ => (pg_name (i := 3) sc_is_row.nd rfl (Or.inl rfl))) (fun _ _ _ _ _ => pts_nil) (fun _ _ _ _ _ => (pe_call G_is_item (hr.mono (by decide)) rfl (g_is_item T) kp_is_item bi_is_item .nil passF (pa_cons (pv 3) (pa_cons (pv 2) pa_nil))))) pa_nil)))))), ?_⟩
    have tup : ∀ {a : Addr} {xs : List V}, SqT K H a xs → TyX K H (.ref a) (.type (tyD (.tuple []))) := fun s => ty_tup s
    have conv : (BadR K H rows n v ∧ ∀ H', Ex H H' → Q (.bl false) H') ∨ ∃ (a : Addr) (p : Nat) (xs : List V) (bs : List Bool), v = .ref a ∧ SqT K H a (.int (p : Int) :: xs) ∧ p ∈ plN rows ∧ xs.length = 1 + (if kdR rows p ∈ askL then 1 else 0) ∧ Paired (ItB K H n) xs bs ∧ ∀ H', Ex H H' → Q (.bl (bs.all id)) H' := by
      rcases alt with h | ⟨t, r, rfl, hw, tv, q⟩
      · exact .inl h
      · refine .inr ⟨t, r.1, r.2.map itV, List.replicate r.2.length true, rfl, hw, ?_, by rw [List.length_map]; exact tv.ln, itB_of tv.it, fun H' e => by rw [show (List.replicate r.2.length true).all id = true from by simp]; exact q H' e⟩
        have := tv.pl
        refine List.mem_filter.mpr ⟨List.mem_range.mpr ?_, this⟩
        unfold plB at this
        cases e : rows[r.1]? with
        | none => rw [e] at this; cases this
        | some x => exact (List.getElem?_eq_some_iff.mp e).1
    clear alt
    rcases conv with ⟨b, q⟩ | ⟨a, p, xs, bs, rfl, s, hp, hl, hb, q⟩
    · cases b with
      | @ty v t ty k =>
        refine ⟨_, rfl, v, .ty "tuple", _, _, _, rfl, .ty _, ty H (Evl.Ex.refl _), k, _, rfl, ?_⟩
        exact q H (Evl.Ex.refl _)
      | @nil a s =>
        refine ⟨_, rfl, .ref a, .ty "tuple", _, _, _, rfl, .ty _, tup s, k_tuple (.tuple []), _, rfl, ?_⟩
        refine ⟨_, rfl, sz (by simp), ?_⟩
        intro p1 n1
        generalize e1 : upd _ p1 _ = H1
        obtain ⟨x1, s1, o1⟩ := new_of e1 n1
        clear e1
        refine ⟨a, p1, _, rfl, rfl, Evl.ex_t x1 s, SqT.of s1, _, rfl, ?_⟩
        exact q H1 x1
      | @fst a x xs t b1 b2 s ty k1 k2 hb =>
        refine ⟨_, rfl, .ref a, .ty "tuple", _, _, _, rfl, .ty _, tup s, k_tuple (.tuple []), _, rfl, ?_⟩
        refine ⟨_, rfl, sz (by simp), ?_⟩
        intro p1 n1
        generalize e1 : upd _ p1 _ = H1
        obtain ⟨x1, s1, o1⟩ := new_of e1 n1
        clear e1
        refine ⟨a, p1, _, rfl, rfl, Evl.ex_t x1 s, SqT.of s1, _, rfl, ?_⟩
        refine ⟨_, rfl, a, _, _, _, rfl, rfl, Evl.ex_t x1 s, atI_nat (j := 0) rfl, x, t, b1, b2, rfl, ty _ x1, k1, k2, _, rfl, ?_⟩
        rw [hb]
        exact q H1 x1
      | @pl a k xs s h =>
        refine ⟨_, rfl, .ref a, .ty "tuple", _, _, _, rfl, .ty _, tup s, k_tuple (.tuple []), _, rfl, ?_⟩
        refine ⟨_, rfl, sz (by simp), ?_⟩
        intro p1 n1
        generalize e1 : upd _ p1 _ = H1
        obtain ⟨x1, s1, o1⟩ := new_of e1 n1
        clear e1
        refine ⟨a, p1, _, rfl, rfl, Evl.ex_t x1 s, SqT.of s1, _, rfl, ?_⟩
        refine ⟨_, rfl, a, _, _, _, rfl, rfl, Evl.ex_t x1 s, atI_nat (j := 0) rfl, .int k, .type "int", true, false, rfl, .base (.int _), k_ii, k_ib, _, rfl, ?_⟩
        refine ⟨_, rfl, a, _, _, _, rfl, rfl, Evl.ex_t x1 s, atI_nat (j := 0) rfl, _, rfl, ka, _, rfl, DGet.k (k := .inl k) (x1 _ _ hk), _, rfl, ?_⟩
        rw [show valV (kindKV rows) (Sum.inl k) = none from kindKV_none rows k _ h]
        exact itT rfl (q H1 x1)
      | @len a p xs s h l =>
        refine ⟨_, rfl, .ref a, .ty "tuple", _, _, _, rfl, .ty _, tup s, k_tuple (.tuple []), _, rfl, ?_⟩
        refine ⟨_, rfl, sz (by simp), ?_⟩
        intro p1 n1
        generalize e1 : upd _ p1 _ = H1
        obtain ⟨x1, s1, o1⟩ := new_of e1 n1
        clear e1
        have s1' := Evl.ex_t x1 s
        have hk1 := x1 _ _ hk
        refine ⟨a, p1, _, rfl, rfl, s1', SqT.of s1, _, rfl, ?_⟩
        refine ⟨_, rfl, a, _, _, _, rfl, rfl, s1', atI_nat (j := 0) rfl, .int (p : Int), .type "int", true, false, rfl, .base (.int _), k_ii, k_ib, _, rfl, ?_⟩
        refine ⟨_, rfl, a, _, _, _, rfl, rfl, s1', atI_nat (j := 0) rfl, _, rfl, ka, _, rfl, DGet.k (k := .inl (p : Int)) hk1, _, rfl, ?_⟩
        rw [show valV (kindKV rows) (Sum.inl (p : Int)) = some (.str (kdR rows p)) from kindKV_val rows _ _ h]
        refine itF rfl ?_
        refine ⟨_, rfl, a, _, rfl, .inr s1', _, rfl, _, rfl, a, _, _, _, rfl, rfl, s1', atI_nat (j := 0) rfl, ka, _, rfl, .inl ⟨_, .inl (p : Int), .inl hk1, rfl, (kindKV_val rows _ _ h).symm⟩, He.ga K "ASKING_tables", _, rfl, .inr (t_ASKING_tables T _), rfl, flat_strs askL, ?_⟩
        have ea : inV (.str (kdR rows p)) [.str "call", .str "if", .str "while"] = decide (kdR rows p ∈ askL) := inV_strs _ askL
        refine .inr ⟨_, rfl, _, _, rfl, rfl, ?_⟩
        rw [ea]
        refine ⟨rfl, _, rfl, itT ?_ (q H1 x1)⟩
        rw [List.length_cons]
        by_cases c : kdR rows p ∈ askL
        · rw [if_pos c] at l
          rw [decide_eq_true c]
          simp
          omega
        · rw [if_neg c] at l
          rw [decide_eq_false c]
          simp
          omega
      | @it a p xs bs s h l hb hf =>
        refine ⟨_, rfl, .ref a, .ty "tuple", _, _, _, rfl, .ty _, tup s, k_tuple (.tuple []), _, rfl, ?_⟩
        refine ⟨_, rfl, sz (by simp), ?_⟩
        intro p1 n1
        generalize e1 : upd _ p1 _ = H1
        obtain ⟨x1, s1, o1⟩ := new_of e1 n1
        clear e1
        have s1' := Evl.ex_t x1 s
        have hk1 := x1 _ _ hk
        refine ⟨a, p1, _, rfl, rfl, s1', SqT.of s1, _, rfl, ?_⟩
        refine ⟨_, rfl, a, _, _, _, rfl, rfl, s1', atI_nat (j := 0) rfl, .int (p : Int), .type "int", true, false, rfl, .base (.int _), k_ii, k_ib, _, rfl, ?_⟩
        refine ⟨_, rfl, a, _, _, _, rfl, rfl, s1', atI_nat (j := 0) rfl, _, rfl, ka, _, rfl, DGet.k (k := .inl (p : Int)) hk1, _, rfl, ?_⟩
        rw [show valV (kindKV rows) (Sum.inl (p : Int)) = some (.str (kdR rows p)) from kindKV_val rows _ _ h]
        refine itF rfl ?_
        refine ⟨_, rfl, a, _, rfl, .inr s1', _, rfl, _, rfl, a, _, _, _, rfl, rfl, s1', atI_nat (j := 0) rfl, ka, _, rfl, .inl ⟨_, .inl (p : Int), .inl hk1, rfl, (kindKV_val rows _ _ h).symm⟩, He.ga K "ASKING_tables", _, rfl, .inr (t_ASKING_tables T _), rfl, flat_strs askL, ?_⟩
        have ea : inV (.str (kdR rows p)) [.str "call", .str "if", .str "while"] = decide (kdR rows p ∈ askL) := inV_strs _ askL
        refine .inr ⟨_, rfl, _, _, rfl, rfl, ?_⟩
        rw [ea, List.length_cons, l]
        refine ⟨rfl, _, rfl, itF ?_ ?_⟩
        · by_cases c : kdR rows p ∈ askL
          · rw [if_pos c, decide_eq_true c] <;> rfl
          · rw [if_neg c, decide_eq_false c] <;> rfl
        have lb2 : (xs : List V).length ≤ 2 := by rw [l]; split <;> decide
        refine ⟨_, rfl, 1, rfl, ?_⟩
        unfold tNoPart
        have nfull : ¬ (HT.sIx (V.int (p : Int) :: xs).length 0 (some 1) = 0 ∧ HT.sIx (V.int (p : Int) :: xs).length (V.int (p : Int) :: xs).length none = (V.int (p : Int) :: xs).length) := by
          have e : HT.sIx (V.int (p : Int) :: xs).length 0 (some ((1 : Nat) : Int)) = min 1 (V.int (p : Int) :: xs).length := HT.sIx_nat ..
          rintro ⟨z, _⟩
          have z : HT.sIx (V.int (p : Int) :: xs).length 0 (some ((1 : Nat) : Int)) = 0 := z
          rw [e, List.length_cons] at z
          omega
        refine ⟨a, _, rfl, s1', nfull, ?_⟩
        intro p2 n2
        generalize e2 : upd _ p2 _ = H2
        obtain ⟨x2, s2, o2⟩ := new_of e2 n2
        clear e2
        have s2' : H2 p2 = some (.tup xs) := by
          rw [s2]
          have := cut_from (V.int (p : Int) :: xs) 1
          exact congrArg (fun l => some (HO.tup l)) this
        refine ⟨p2, rfl, ⟨_, SqT.of s2'⟩, fun D nD => ?_⟩
        have pl := paired_lenT hb
        refine lc_it (walk_tup (xs := xs)) (fun i H' => Ex H2 H' ∧ H' D = some (.lst ((bs.take i).map V.bl))) ?_ ?_ ?_ ?_
        · exact ⟨exu (Evl.Ex.refl _) nD, upd_same⟩
        · exact fun i H' _ ⟨e, _⟩ => Evl.ex_t e (SqT.of s2')
        · rintro i x Ja Jb hi ⟨e, l⟩ ⟨rfl, hx⟩
          obtain ⟨b, hbi, ib⟩ := paired_takeB hb hx
          have li : (bs.take i).length ≤ 2 := Nat.le_trans (List.length_take_le' ..) (by rw [← pl]; exact lb2)
          refine ⟨rfl, _, rfl, _, rfl, x, n, b, rfl, ib.ex (x1.trans (x2.trans e)), fun H3 x3 => ?_⟩
          refine ⟨_, x3 _ _ l, szl (by rw [List.length_map]; omega), exm (e.trans x3) nD, ?_⟩
          rw [upd_same, take_one hbi, List.map_append] <;> rfl
        rintro H3 ⟨e, l⟩
        rw [pl, List.take_length] at l
        refine ⟨D, _, rfl, Evl.sq_of l, ?_⟩
        rw [hf]
        exact q H3 (x1.trans (x2.trans e))
    · refine ⟨_, rfl, .ref a, .ty "tuple", _, _, _, rfl, .ty _, tup s, k_tuple (.tuple []), _, rfl, ?_⟩
      refine ⟨_, rfl, sz (by simp), ?_⟩
      intro p1 n1
      generalize e1 : upd _ p1 _ = H1
      obtain ⟨x1, s1, o1⟩ := new_of e1 n1
      clear e1
      have s1' := Evl.ex_t x1 s
      have hk1 := x1 _ _ hk
      refine ⟨a, p1, _, rfl, rfl, s1', SqT.of s1, _, rfl, ?_⟩
      refine ⟨_, rfl, a, _, _, _, rfl, rfl, s1', atI_nat (j := 0) rfl, .int (p : Int), .type "int", true, false, rfl, .base (.int _), k_ii, k_ib, _, rfl, ?_⟩
      refine ⟨_, rfl, a, _, _, _, rfl, rfl, s1', atI_nat (j := 0) rfl, _, rfl, ka, _, rfl, DGet.k (k := .inl (p : Int)) hk1, _, rfl, ?_⟩
      rw [show valV (kindKV rows) (Sum.inl (p : Int)) = some (.str (kdR rows p)) from kindKV_val rows _ _ hp]
      refine itF rfl ?_
      refine ⟨_, rfl, a, _, rfl, .inr s1', _, rfl, _, rfl, a, _, _, _, rfl, rfl, s1', atI_nat (j := 0) rfl, ka, _, rfl, .inl ⟨_, .inl (p : Int), .inl hk1, rfl, (kindKV_val rows _ _ hp).symm⟩, He.ga K "ASKING_tables", _, rfl, .inr (t_ASKING_tables T _), rfl, flat_strs askL, ?_⟩
      have ea : inV (.str (kdR rows p)) [.str "call", .str "if", .str "while"] = decide (kdR rows p ∈ askL) := inV_strs _ askL
      refine .inr ⟨_, rfl, _, _, rfl, rfl, ?_⟩
      rw [ea, List.length_cons, hl]
      refine ⟨rfl, _, rfl, itF ?_ ?_⟩
      · by_cases c : kdR rows p ∈ askL
        · rw [if_pos c, decide_eq_true c] <;> rfl
        · rw [if_neg c, decide_eq_false c] <;> rfl
      have lb2 : (xs : List V).length ≤ 2 := by rw [hl]; split <;> decide
      refine ⟨_, rfl, 1, rfl, ?_⟩
      unfold tNoPart
      have nfull : ¬ (HT.sIx (V.int (p : Int) :: xs).length 0 (some 1) = 0 ∧ HT.sIx (V.int (p : Int) :: xs).length (V.int (p : Int) :: xs).length none = (V.int (p : Int) :: xs).length) := by
        have e : HT.sIx (V.int (p : Int) :: xs).length 0 (some ((1 : Nat) : Int)) = min 1 (V.int (p : Int) :: xs).length := HT.sIx_nat ..
        rintro ⟨z, _⟩
        have z : HT.sIx (V.int (p : Int) :: xs).length 0 (some ((1 : Nat) : Int)) = 0 := z
        rw [e, List.length_cons] at z
        omega
      refine ⟨a, _, rfl, s1', nfull, ?_⟩
      intro p2 n2
      generalize e2 : upd _ p2 _ = H2
      obtain ⟨x2, s2, o2⟩ := new_of e2 n2
      clear e2
      have s2' : H2 p2 = some (.tup xs) := by
        rw [s2]
        have := cut_from (V.int (p : Int) :: xs) 1
        exact congrArg (fun l => some (HO.tup l)) this
      refine ⟨p2, rfl, ⟨_, SqT.of s2'⟩, fun D nD => ?_⟩
      have pl := paired_lenT hb
      refine lc_it (walk_tup (xs := xs)) (fun i H' => Ex H2 H' ∧ H' D = some (.lst ((bs.take i).map V.bl))) ?_ ?_ ?_ ?_
      · exact ⟨exu (Evl.Ex.refl _) nD, upd_same⟩
      · exact fun i H' _ ⟨e, _⟩ => Evl.ex_t e (SqT.of s2')
      · rintro i x Ja Jb hi ⟨e, l⟩ ⟨rfl, hx⟩
        obtain ⟨b, hbi, ib⟩ := paired_takeB hb hx
        have li : (bs.take i).length ≤ 2 := Nat.le_trans (List.length_take_le' ..) (by rw [← pl]; exact lb2)
        refine ⟨rfl, _, rfl, _, rfl, x, n, b, rfl, ib.ex (x1.trans (x2.trans e)), fun H3 x3 => ?_⟩
        refine ⟨_, x3 _ _ l, szl (by rw [List.length_map]; omega), exm (e.trans x3) nD, ?_⟩
        rw [upd_same, take_one hbi, List.map_append] <;> rfl
      rintro H3 ⟨e, l⟩
      rw [pl, List.take_length] at l
      refine ⟨D, _, rfl, Evl.sq_of l, ?_⟩
      exact q H3 (x1.trans (x2.trans e))
theorem ok_check_rowsX (T : Tx w h K mg) : Ok P w K mg base 8 ("check_rows", none) ["code", "rows"] (sp_ckrX K) := by
  obtain ⟨fd, F⟩ := F_check_rows T
  refine ⟨fd, ?_, F.bindsN (fun _ _ _ _ _ _ us hl => match us, hl with | [_, _], _ => rfl), F.kp⟩
  obtain ⟨fd_is_row, G_is_row, bi_is_row, kp_is_row⟩ := ok_is_rowX (P := P) (base := base) T
  obtain ⟨fd_InvalidTable___init__, G_InvalidTable___init__, bi_InvalidTable___init__, kp_InvalidTable___init__, FD_InvalidTable___init__⟩ := okF_InvalidTable___init__ (P := P) (base := base) T
  obtain ⟨fd_Code_places, G_Code_places, bi_Code_places, kp_Code_places⟩ := ok_Code_places (P := P) (base := base) T
  obtain ⟨tm_MOST_ROWS, m_MOST_ROWS⟩ := i_MOST_ROWS T
  refine F.ok sc_check_rows (fun vs H Q E h => ?_) (fun cdv A outer s H vs Q E hr h => ?_)
  · obtain ⟨F, A, rows, v, i, rfl, C, xF, hl, b, ra⟩ := h
    rfl
  · obtain ⟨F, A, rows, v, i, rfl, C, xF, hl, b, ra⟩ := h
    refine ⟨_, (pss_cons (ps_if (PW.pt (pw_or (pt_not (pt_val (pe_callB call_isi rfl (fr_isinstance T) b_isinstance (pa_cons (pv 1) (pa_cons (pe_bltn (v := .ty "list") rfl (fr_list T) b_list rfl) pa_nil))))) (pw_or1 (pt_not (pt_chain op_le op_le pe_int (pe_callB call_len_seq rfl (fr_len T) b_len (pa_cons (pv 1) pa_nil)) (pe_glob (v := .int 200) rfl m_MOST_ROWS ⟨_, rfl⟩)))))) (pss_one (ps_raise rfl (takes_of rfl rfl rfl rfl) (FcX.pmk_X (x_InvalidTable T) (xi_InvalidTable T) G_InvalidTable___init__ (hr.mono (by decide)) bi_InvalidTable___init__ passF rfl (g_InvalidTable T) (pe_un un_neg pe_int)))) pss_nil) (pss_cons (ps_set (i := 2) sc_check_rows.nd rfl (Or.inl rfl) (pe_callTy (call_dictP rfl) rfl (fr_dict T) b_dict (pa_cons (pe_lc (own := [("place", 5)]) rfl sc_check_rows.nd (pi_list (pe_meth0 (pv 0) (c_Code T) (me_Code_places T) G_Code_places (hr.mono (by decide)) bi_Code_places .nil (passes_call (takes_of rfl rfl rfl rfl) (fun _ _ _ _ h => h)))) (blkOk_by (N := N_check_rows) (sc := defScope sd_check_rows) (by decide +kernel)) (fun _ _ _ _ _ => (pg_name (i := 5) sc_check_rows.nd rfl (Or.inl rfl))) (fun _ _ _ _ _ => pts_nil) (fun _ _ _ _ _ => (pe_tup (pa_cons (pv 5) (pa_cons (pe_ix (show IxR _ (rIxL K) from ix_list) (show PE _ _ (tFld K _ "kinds") from pe_fld (pv 0) rfl) (pv 5) (fun _ _ => rfl)) pa_nil))))) pa_nil))) (pss_one (ps_for (passes_of rfl) rfl (pi_enum rfl (fr_enumerate T) (pa_cons (pv 1) pa_nil)) (pg_tup rfl (pgs_cons (pg_name (i := 3) sc_check_rows.nd rfl (Or.inl rfl)) (pgs_cons (pg_name (i := 4) sc_check_rows.nd rfl (Or.inl rfl)) pgs_nil))) (pss_one (ps_if (pt_not (pt_val (pe_call G_is_row (hr.mono (by decide)) rfl (g_is_row T) kp_is_row bi_is_row .nil (passes_call (takes_of rfl rfl rfl rfl) (fun _ _ _ _ h => h)) (pa_cons (pv 4) (pa_cons (pv 2) (pa_cons (pe_callB call_len_seq rfl (fr_len T) b_len (pa_cons (pv 1) pa_nil)) pa_nil)))))) (pss_one (ps_raise rfl (takes_of rfl rfl rfl rfl) (FcX.pmk_X (x_InvalidTable T) (xi_InvalidTable T) G_InvalidTable___init__ (hr.mono (by decide)) bi_InvalidTable___init__ passF rfl (g_InvalidTable T) (pv 3)))) pss_nil)))))), ?_⟩
    have fin : ∀ H1, Ex H H1 → ∀ d, H1 d = none → E (.ref (He.ga K "InvalidTable")) (some d) (upd H1 d (.xd [("at", .int i)])) := fun H1 e d n => ra _ d (e.trans (exu (Evl.Ex.refl _) n)) (ex_none e n) upd_same
    obtain ⟨vs0, C0, _⟩ := C.ex (Evl.Ex.refl _) xF
    cases b with
    | @ty v t ty k =>
      refine ⟨_, rfl, v, .ty "list", _, _, _, rfl, .ty _, ty H (Evl.Ex.refl _), k, _, rfl, itT rfl ?_⟩
      exact ⟨_, rfl, _, rfl, fun d n => fin H (Evl.Ex.refl _) d n⟩
    | @size a xs s h =>
      refine ⟨_, rfl, .ref a, .ty "list", _, _, _, rfl, .ty _, ty_lst s, k_list (.list []), _, rfl, ?_⟩
      refine ⟨_, rfl, a, _, rfl, .inl s, ?_⟩
      refine ⟨_, _, rfl, rfl, _, rfl, ?_⟩
      rcases h with h | h
      · rw [h]
        refine ⟨_, rfl, itT rfl ?_⟩
        exact ⟨_, rfl, _, rfl, fun d n => fin H (Evl.Ex.refl _) d n⟩
      · rw [show decide ((1 : Int) ≤ (xs.length : Int)) = true from decide_eq_true (by omega)]
        refine ⟨_, _, rfl, rfl, _, rfl, ?_⟩
        rw [show decide ((xs.length : Int) ≤ (200 : Int)) = false from decide_eq_false (by omega)]
        refine itT rfl ?_
        exact ⟨_, rfl, _, rfl, fun d n => fin H (Evl.Ex.refl _) d n⟩
    | @at_ a ts rs u post n s RA en n2 tv b =>
      have tl := rowsAt_len RA
      have n1 : 1 ≤ n := by rw [en]; simp; omega
      refine ⟨_, rfl, .ref a, .ty "list", _, _, _, rfl, .ty _, ty_lst s, k_list (.list []), _, rfl, ?_⟩
      refine ⟨_, rfl, a, _, rfl, .inl s, ?_⟩
      rw [← en]
      refine ⟨_, _, rfl, rfl, _, rfl, ?_⟩
      rw [show decide ((1 : Int) ≤ (n : Int)) = true from decide_eq_true (by omega)]
      refine ⟨_, _, rfl, rfl, _, rfl, ?_⟩
      rw [show decide ((n : Int) ≤ (200 : Int)) = true from decide_eq_true (by omega)]
      refine itF rfl ?_
      refine ⟨_, rfl, A.p, _, _, rfl, C0.ob, fm_Code_places _ _ _ _ _, F, A, rows, rfl, C, xF, hl, fun H1 a1 x1 na1 s1 => ⟨a1, rfl, ⟨_, Evl.sq_of s1⟩, fun D nD => ?_⟩⟩
      have pll : (plN rows).length ≤ 400 := by have := pl_len rows rows.length; unfold plN; omega
      refine lc_it (walk_list (xs := intsV (plN rows))) (fun i H' => Ex H1 H' ∧ ∃ ps, H' D = some (.lst (ps.map V.ref)) ∧ Paired (PrAt K H') ps ((plN rows).take i |>.map fun (p : Nat) => ((.inl (p : Int), .str (kdR rows p)) : Key × V))) ?_ ?_ ?_ ?_
      · exact ⟨exu (Evl.Ex.refl _) nD, [], upd_same, .nil⟩
      · exact fun i H' _ ⟨e, _⟩ => Evl.sq_of (e _ _ s1)
      · rintro i v Ja Jb hi ⟨e, ps, lD, pp⟩ ⟨rfl, hv⟩
        rw [show (intsV (plN rows)).length = (plN rows).length from List.length_map ..] at hi
        have hni : (plN rows)[i]? = some (plN rows)[i] := List.getElem?_eq_getElem hi
        have hv : ((plN rows).map fun n : Nat => V.int (n : Int))[i]? = some v := hv
        rw [List.getElem?_map, hni] at hv
        cases hv
        have tk := take_one hni
        have pn : (plN rows)[i] < rows.length := List.mem_range.mp (List.mem_filter.mp (List.mem_of_getElem? hni)).1
        generalize (plN rows)[i] = n at hni tk pn
        obtain ⟨vs2, C2, _⟩ := C.ex (Evl.Ex.refl _) (xF.trans (x1.trans e))
        obtain ⟨r, hr⟩ := row_at pn
        have ek : kdR rows n = kindD r.d := by unfold kdR; rw [List.getD_eq_getElem?_getD, hr] <;> rfl
        refine ⟨rfl, _, rfl, _, rfl, A.p, _, _, _, _, rfl, C2.ob, c_Code T, na_Code_kinds T, fl_Code_kinds _ _ _ _ _, _, rfl, A.a2, _, _, .str (kindD r.d), rfl, rfl, Evl.sq_of C2.h2, atI_nat (by rw [List.getElem?_map, hr] <;> rfl), sz (by simp), ?_⟩
        intro p3 n3
        generalize e3 : upd _ p3 _ = H3
        obtain ⟨x3, s3, o3⟩ := new_of e3 n3
        clear e3
        have lD3 := x3 _ _ lD
        have pl2 := pr_len pp
        rw [List.length_map, List.length_take] at pl2
        refine ⟨_, lD3, szl (by rw [List.length_map]; omega), exm (e.trans x3) nD, ps ++ [p3], by rw [upd_same, List.map_append] <;> rfl, ?_⟩
        rw [tk, List.map_append]
        refine pr_snoc (L2.Paired.mapP pp fun _ _ r => row_set (Evl.ex_t x3 r) lD3) ?_
        show SqT K _ p3 [V.int (n : Int), .str (kdR rows n)]
        rw [ek]
        exact row_set (SqT.of s3) lD3
      rintro H4 ⟨x4, ps, lD, pp⟩
      rw [show (intsV (plN rows)).length = (plN rows).length from List.length_map .., List.take_length] at pp
      refine ⟨D, ps, _, rfl, Evl.sq_of lD, pp, ?_⟩
      intro p5 n5
      generalize e5 : upd _ p5 _ = H5
      obtain ⟨x5, s5, o5⟩ := new_of e5 n5
      clear e5
      rw [show mergeK [] ((plN rows).map fun (p : Nat) => ((.inl (p : Int), .str (kdR rows p)) : Key × V)) = kindKV rows from kindKV_merge rows] at s5
      have x05 : Ex H H5 := x1.trans (x4.trans x5)
      refine ⟨_, rfl, a, _, rfl, Evl.ex_l x05 s, ?_⟩
      refine for_it (walk_enum (xs := ts.map V.ref ++ u :: post)) (fun j σ' H' => j ≤ rs.length ∧ Ex H5 H' ∧ ∃ u3 u4, σ' = [some (.ref A.p), some (.ref a), some (.ref p5), u3, u4, none]) ?_ ?_ ?_ ?_
      · exact ⟨Nat.zero_le _, Evl.Ex.refl _, _, _, rfl⟩
      · exact fun i σ' H' _ ⟨_, e, _⟩ => Evl.ex_l (x05.trans e) s
      · rintro j v σ' Hq Hr hj ⟨hjn, e, u3, u4, rfl⟩ ⟨tp, y1, y2, rfl, n2', rfl, z1, z2⟩
        cases z1
        replace z2 : (ts.map V.ref ++ u :: post)[j]? = some y2 := z2
        generalize e2 : upd Hq tp _ = H7
        obtain ⟨x7, s7, o7⟩ := new_of e2 n2'
        clear e2
        have x57 := e.trans x7
        refine ⟨tp, _, rfl, SqT.of s7, rfl, _, _, rfl, _, _, rfl, rfl, ?_⟩
        refine ⟨_, rfl, _, rfl, _, rfl, a, _, rfl, .inl (Evl.ex_l (x05.trans x57) s), ?_⟩
        rw [← en]
        rcases Nat.lt_or_ge j rs.length with hlt | hge
        · obtain ⟨t, ht, rt⟩ := paired_getP RA (List.getElem?_eq_getElem hlt)
          rw [List.getElem?_append_left (by rw [List.length_map, tl]; exact hlt), List.getElem?_map, ht] at z2
          cases z2
          refine ⟨.ref t, p5, rows, n, rfl, x57 _ _ s5, .inr ⟨t, rs[j], rfl, Evl.ex_t (x05.trans x57) rt, tv _ (List.getElem_mem hlt), fun H8 x8 => ?_⟩⟩
          exact ⟨_, rfl, itF rfl ⟨hlt, x57.trans x8, _, _, rfl⟩⟩
        · obtain rfl : j = rs.length := Nat.le_antisymm hjn hge
          rw [List.getElem?_append_right (by rw [List.length_map, tl]; exact Nat.le_refl _), List.length_map, tl, Nat.sub_self] at z2
          cases z2
          refine ⟨u, p5, rows, n, rfl, x57 _ _ s5, .inl ⟨b.ex (x05.trans x57), fun H8 x8 => ?_⟩⟩
          refine ⟨_, rfl, itT rfl ?_⟩
          exact ⟨_, rfl, _, rfl, fun d n => fin _ (x05.trans (x57.trans x8)) d n⟩
      rintro σ' H9 ⟨hj, _⟩
      exfalso
      rw [List.length_append, List.length_map, List.length_cons, tl] at hj
      omega
end
end Fc
set_option maxRecDepth 100000
set_option maxHeartbeats 4000000
namespace Fc
open PySem PySem.Spec PyProof.Rows L2 FcR
open Evl (Ex)
section
variable {P : Program} {w : World} {h : Heap} {K : PySem.W.Frag} {mg : Str → Option Value} {base : Heap}
theorem okF_mergedX (T : Tx w h K mg) : ∃ fd, FnOk P w K mg base (CX P w) 10 (He.fAd K ("merged", none)) fd ["code", "rows"] (sp_ckrX K) ∧ Binds K fd ["code", "rows"] [] ∧ PySem.W.keepIn K (.ref (He.fAd K ("merged", none))) = true ∧ FunD K "merged" "merged" (defArgs sd_merged) (defBody sd_merged) (defScope sd_merged) [] [] (He.fAd K ("merged", none)) fd := by
  obtain ⟨fd, F⟩ := F_merged T
  refine ⟨fd, ?_, F.bindsN (fun _ _ _ _ _ _ us hl => match us, hl with | [_, _], _ => rfl), F.kp, F⟩
  obtain ⟨fd_check_rows, G_check_rows, bi_check_rows, kp_check_rows⟩ := ok_check_rowsX (P := P) (base := base) T
  obtain ⟨fd_classes_of, G_classes_of, bi_classes_of, kp_classes_of⟩ := ok_classes_of (P := P) (base := base) T
  obtain ⟨fd_ordered, G_ordered, bi_ordered, kp_ordered⟩ := ok_orderedD (P := P) (base := base) T
  obtain ⟨fd_renumbered, G_renumbered, bi_renumbered, kp_renumbered⟩ := ok_renumbered (P := P) (base := base) T
  refine F.ok sc_merged (fun vs H Q E h => ?_) (fun cdv A outer s H vs Q E hr h => ?_)
  · obtain ⟨F, A, rows, v, i, rfl, C, xF, hl, b, ra⟩ := h
    rfl
  · obtain ⟨F, A, rows, v, i, rfl, C, xF, hl, b, ra⟩ := h
    refine ⟨_, (pss_cons (ps_expr (pe_call G_check_rows (hr.mono (by decide)) rfl (g_check_rows T) kp_check_rows bi_check_rows .nil (passes_call (takes_of rfl rfl rfl rfl) (fun _ _ _ _ h => h)) (pa_cons (pv 0) (pa_cons (pv 1) pa_nil)))) (pss_cons (ps_set (i := 2) sc_merged.nd rfl (Or.inl rfl) (pe_call G_classes_of (hr.mono (by decide)) rfl (g_classes_of T) kp_classes_of bi_classes_of .nil (passes_call (takes_of rfl rfl rfl rfl) (fun _ _ _ _ h => h)) (pa_cons (pv 1) pa_nil))) (pss_cons (ps_set (i := 3) sc_merged.nd rfl (Or.inl rfl) pe_dnewK) (pss_cons (ps_for (passes_of rfl) rfl (pi_zip rfl (fr_zip T) (pa_cons (pv 2) (pa_cons (pv 1) pa_nil))) (pg_tup rfl (pgs_cons (pg_name (i := 4) sc_merged.nd rfl (Or.inl rfl)) (pgs_cons (pg_name (i := 5) sc_merged.nd rfl (Or.inl rfl)) pgs_nil))) (pss_one (ps_asg (pe_call G_renumbered (hr.mono (by decide)) rfl (g_renumbered T) kp_renumbered bi_renumbered .nil (passes_call (takes_of rfl rfl rfl rfl) (fun _ _ _ _ h => h)) (pa_cons (pv 5) (pa_cons (pv 2) pa_nil))) (pg_sub (pv 3) (pv 4) (set_dict (hu_of hr)))))) (pss_one (ps_ret (pe_call G_ordered (hr.mono (by decide)) rfl (g_ordered T) kp_ordered bi_ordered .nil (passes_call (takes_of rfl rfl rfl rfl) (fun _ _ _ _ h => h)) (pa_cons (pv 3) (pa_cons (pe_ix ix_list (pv 2) pe_int (fun _ _ => rfl)) pa_nil))))))))), ?_⟩
    exact ⟨_, rfl, _, rfl, F, A, rows, v, i, rfl, C, xF, hl, b, ra⟩
abbrev N_Lowered___init__ : List Str := ["self", "code", "place"]
theorem sc_Lowered___init__ : FnScope N_Lowered___init__ ["self", "code"] (defScope sd_Lowered___init__) := ⟨rfl, rfl, rfl, by decide +kernel, rfl, by decide +kernel, by decide +kernel⟩
theorem ok_Lowered___init__ (T : Tx w h K mg) : Ok P w K mg base 9 ("Lowered", some "__init__") ["self", "code"] (fun _ _ _ _ => False) := by
  obtain ⟨fd, F⟩ := F_Lowered___init__ T
  refine ⟨fd, ?_, F.bindsN (fun _ _ _ _ _ _ us hl => match us, hl with | [_, _], _ => rfl), F.kp⟩
  exact F.ok sc_Lowered___init__ (fun vs H Q E h => h.elim) (fun cdv A outer s H vs Q E hr h => h.elim)
abbrev N_Comparison___init__ : List Str := ["self", "rows", "lowered"]
theorem sc_Comparison___init__ : FnScope N_Comparison___init__ ["self", "rows", "lowered"] (defScope sd_Comparison___init__) := ⟨rfl, rfl, rfl, by decide +kernel, rfl, by decide +kernel, by decide +kernel⟩
theorem ok_Comparison___init__ (T : Tx w h K mg) : Ok P w K mg base 9 ("Comparison", some "__init__") ["self", "rows", "lowered"] (fun _ _ _ _ => False) := by
  obtain ⟨fd, F⟩ := F_Comparison___init__ T
  refine ⟨fd, ?_, F.bindsN (fun _ _ _ _ _ _ us hl => match us, hl with | [_, _, _], _ => rfl), F.kp⟩
  exact F.ok sc_Comparison___init__ (fun vs H Q E h => h.elim) (fun cdv A outer s H vs Q E hr h => h.elim)
abbrev N_Comparison_first_difference : List Str := ["self", "waiting", "at", "answers", "one", "other", "found", "row", "step"]
theorem sc_Comparison_first_difference : FnScope N_Comparison_first_difference ["self"] (defScope sd_Comparison_first_difference) := ⟨rfl, rfl, rfl, by decide +kernel, rfl, by decide +kernel, by decide +kernel⟩
theorem ok_Comparison_first_difference (T : Tx w h K mg) : Ok P w K mg base 9 ("Comparison", some "first_difference") ["self"] (fun _ _ _ _ => False) := by
  obtain ⟨fd, F⟩ := F_Comparison_first_difference T
  refine ⟨fd, ?_, F.bindsN (fun _ _ _ _ _ _ us hl => match us, hl with | [_], _ => rfl), F.kp⟩
  exact F.ok sc_Comparison_first_difference (fun vs H Q E h => h.elim) (fun cdv A outer s H vs Q E hr h => h.elim)
abbrev N_check_table : List Str := ["code", "rows"]
theorem sc_check_table : FnScope N_check_table ["code", "rows"] (defScope sd_check_table) := ⟨rfl, rfl, rfl, by decide +kernel, rfl, by decide +kernel, by decide +kernel⟩
theorem ok_check_tableX (T : Tx w h K mg) : Ok P w K mg base 11 ("check_table", none) ["code", "rows"] (sp_ckrX K) := by
  obtain ⟨fd, F⟩ := F_check_table T
  refine ⟨fd, ?_, F.bindsN (fun _ _ _ _ _ _ us hl => match us, hl with | [_, _], _ => rfl), F.kp⟩
  obtain ⟨fd_check_rows, G_check_rows, bi_check_rows, kp_check_rows⟩ := ok_check_rowsX (P := P) (base := base) T
  obtain ⟨fd_Comparison___init__, G_Comparison___init__, bi_Comparison___init__, kp_Comparison___init__⟩ := ok_Comparison___init__ (P := P) (base := base) T
  obtain ⟨fd_Lowered___init__, G_Lowered___init__, bi_Lowered___init__, kp_Lowered___init__⟩ := ok_Lowered___init__ (P := P) (base := base) T
  obtain ⟨fd_Comparison_first_difference, G_Comparison_first_difference, bi_Comparison_first_difference, kp_Comparison_first_difference⟩ := ok_Comparison_first_difference (P := P) (base := base) T
  refine F.ok sc_check_table (fun vs H Q E h => ?_) (fun cdv A outer s H vs Q E hr h => ?_)
  · obtain ⟨F, A, rows, v, i, rfl, C, xF, hl, b, ra⟩ := h
    rfl
  · obtain ⟨F, A, rows, v, i, rfl, C, xF, hl, b, ra⟩ := h
    refine ⟨_, (pss_cons (ps_expr (pe_call G_check_rows (hr.mono (by decide)) rfl (g_check_rows T) kp_check_rows bi_check_rows .nil (passes_call (takes_of rfl rfl rfl rfl) (fun _ _ _ _ h => h)) (pa_cons (pv 0) (pa_cons (pv 1) pa_nil)))) (pss_one (ps_ret (pe_meth0 (pe_make (mk_Comparison T) G_Comparison___init__ (hr.mono (by decide)) rfl (g_Comparison T) bi_Comparison___init__ .nil (passes_call (takes_of rfl rfl rfl rfl) (fun _ _ _ _ h => h)) (pa_cons (pv 1) (pa_cons (pe_make (mk_Lowered T) G_Lowered___init__ (hr.mono (by decide)) rfl (g_Lowered T) bi_Lowered___init__ .nil (passes_call (takes_of rfl rfl rfl rfl) (fun _ _ _ _ h => h)) (pa_cons (pv 0) pa_nil)) pa_nil))) (c_Comparison T) (me_Comparison_first_difference T) G_Comparison_first_difference (hr.mono (by decide)) bi_Comparison_first_difference .nil (passes_call (takes_of rfl rfl rfl rfl) (fun _ _ _ _ h => h)))))), ?_⟩
    exact ⟨_, rfl, _, rfl, F, A, rows, v, i, rfl, C, xF, hl, b, ra⟩
end
end Fc
set_option maxRecDepth 100000
set_option maxHeartbeats 4000000
namespace Fc
open PySem PySem.Spec PyProof.Rows L2 FcR
open Evl (Ex)
/-- the tables of the defs that make lambdas -/
def TM (K : PySem.W.Frag) : Addr → Prop := fun b => ∃ p ∈ FcL.tabT K tfL, p.1 = b
theorem gr_T {K : PySem.W.Frag} {F H H1 : Hp} (x : Ex F H) (ft : ∀ b, TM K b → F b = none) (e : FcL.ExtT (FcL.tabT K tfL) H H1) : Gr (TM K) F H F H1 :=
  ⟨Evl.Ex.refl _, fun b o h => e b o (x b o h) fun p hp z => (by rw [ft b ⟨p, hp, z⟩] at h; cases h), fun _ _ h _ => h, fun b o h hn => e b o h fun p hp z => hn ⟨p, hp, z⟩⟩
abbrev Tb (K : PySem.W.Frag) (H : Hp) : Prop := LamX.Tabs (FcL.tabT K tfL) H
theorem noT {K : PySem.W.Frag} {H : Hp} {b : Addr} (tb : Tb K H) (h : TM K b) : ∃ ps, H b = some (.tbl ps) := by
  obtain ⟨p, hp, z⟩ := h
  obtain ⟨ps, h1, _⟩ := tb p hp
  exact ⟨ps, by rw [← z]; exact h1⟩
end Fc
set_option maxRecDepth 100000
set_option maxHeartbeats 4000000
namespace Fc
open PySem PySem.Spec PyProof.Rows L2 FcR
open Evl (Ex)
theorem DpE_ex {K : PySem.W.Frag} {H H' : Hp} {v : V} {d : PyData} (e : Ex H H') (h : FcL.DpE K H v d) : FcL.DpE K H' v d := by
  cases h with
  | dp h c => exact .dp (dp_ex e h) c
  | dict h => exact .dict (e _ _ h)
/-- a value that repr can tell -/
def Shown (K : PySem.W.Frag) (H : Hp) (v : V) (d : PyData) : Prop := FcL.DpE K H v d ∧ d.showable = true ∧ d.depth ≤ 64 ∧ d.shown.length ≤ sizeLine
theorem Shown.ex {K : PySem.W.Frag} {H H' : Hp} {v : V} {d : PyData} (e : Ex H H') (h : Shown K H v d) : Shown K H' v d := ⟨DpE_ex e h.1, h.2⟩
end Fc
set_option maxRecDepth 100000
set_option maxHeartbeats 4000000
namespace FcX
open PySem PySem.Spec PyProof.Rows L2 FcR
def rIsP (K : PySem.W.Frag) (a : Addr) (cls : Value) (d : Option Addr) : List V → Hp → VK → Prop := fun xs H Q => ∃ (C : Addr) (c : V) (u : Value) (b : Bool) (dd : Addr) (fs : List (Str × V)), xs = [.ref a, c] ∧ ClsV c u ∧ XC K C ∧ cls = .ref C ∧ d = some dd ∧ H dd = some (.xd fs) ∧ PySem.W.kitOne K (.ref C) u = some b ∧ Q (.bl b) H
theorem call_isP {X : Cx} {a : Addr} {oe : Obj} {cls : Value} {d : Option Addr} {pn : List (Addr × Obj)} (hz : Zc cls d oe) (hf : ∃ vs, oe.data = .fields vs) : CallR (X.suite a ((a, oe) :: pn)) (.builtin "isinstance") (rIsP X.K a cls d) := by
  intro pins s σ H xs us Q I r h
  obtain ⟨C, c, u, b, dd, fs, rfl, k, T, ec, ed, ea, e, q⟩ := h
  obtain ⟨u1, u2, rfl, r1, r2⟩ := vals2 r
  have e2 := k.eq r2
  subst e2
  obtain rfl : u1 = Value.ref a := r1
  subst ec
  subst ed
  obtain ⟨ha, _⟩ := I.pin (a, oe) (List.mem_append_left _ List.mem_cons_self)
  obtain ⟨vs, hd⟩ := hf
  have hx : ObjOk X.prog X.w H s.heap dd (.xd fs) := I.hok dd _ ea
  obtain ⟨mA, hns, hr⟩ := hx
  obtain ⟨od, ho, hl⟩ := lookIn_ns hns
  have J : PySem.W.InstAt s.heap a oe C (some od) := ⟨ha, hz.1, by unfold PySem.W.notCls; rw [hd] <;> rfl, by rw [hz.2]; exact ho⟩
  have hc : (PySem.W.clsIn X.K C).isSome = true := by
    obtain ⟨cd, hc, _⟩ := PySem.W.any_some T.hd
    rw [hc]
    rfl
  exact PySem.W.kia_one (PySem.W.kitx_exc (ox := oe) (od := some od) hc T.ga T.gt T.ex T.cl T.cg T.ct T.mo) I.kIn J e (fun z => nomatch z) fun tk => ⟨.bl b, H, I.tok tk, rfl, q⟩
end FcX
set_option maxRecDepth 100000
set_option maxHeartbeats 4000000
namespace FcX
open PySem PySem.Spec PyProof.Rows L2 FcR
def rIsPT (K : PySem.W.Frag) (a : Addr) (cls : Value) (d : Option Addr) : List V → Hp → VK → Prop := fun xs H Q => ∃ (C tp : Addr) (cs : List V) (us : List Value) (b : Bool) (dd : Addr) (fs : List (Str × V)), xs = [.ref a, .ref tp] ∧ H tp = some (.tup cs) ∧ Paired ClsV cs us ∧ XC K C ∧ cls = .ref C ∧ d = some dd ∧ H dd = some (.xd fs) ∧ PySem.W.kitAny K (.ref C) us = some b ∧ Q (.bl b) H
theorem call_isPT {X : Cx} {a : Addr} {oe : Obj} {cls : Value} {d : Option Addr} {pn : List (Addr × Obj)} (hz : Zc cls d oe) (hf : ∃ vs, oe.data = .fields vs) : CallR (X.suite a ((a, oe) :: pn)) (.builtin "isinstance") (rIsPT X.K a cls d) := by
  intro pins s σ H xs us Q I r h
  obtain ⟨C, tp, cs, ws, b, dd, fs, rfl, hT, k, T, ec, ed, ea, e, q⟩ := h
  obtain ⟨u1, u2, rfl, r1, r2⟩ := vals2 r
  cases (show u2 = Value.ref tp from r2)
  obtain rfl : u1 = Value.ref a := r1
  subst ec
  subst ed
  obtain ⟨ha, _⟩ := I.pin (a, oe) (List.mem_append_left _ List.mem_cons_self)
  obtain ⟨vs, hd⟩ := hf
  have hx : ObjOk X.prog X.w H s.heap dd (.xd fs) := I.hok dd _ ea
  obtain ⟨mA, hns, hr⟩ := hx
  obtain ⟨od, ho, hl⟩ := lookIn_ns hns
  have J : PySem.W.InstAt s.heap a oe C (some od) := ⟨ha, hz.1, by unfold PySem.W.notCls; rw [hd] <;> rfl, by rw [hz.2]; exact ho⟩
  have hc : (PySem.W.clsIn X.K C).isSome = true := by
    obtain ⟨cd, hc, _⟩ := PySem.W.any_some T.hd
    rw [hc]
    rfl
  obtain ⟨_, its, rv, o, h1, h2, n, h3⟩ := (show ObjOk X.prog X.w H s.heap tp (.tup cs) from I.hok tp _ hT)
  have e3 := ClsV.all k rv
  subst e3
  obtain ⟨oc, od2, dt, sl⟩ := o
  simp only at h2 h3
  subst h2 h3
  exact PySem.W.kia_tup (PySem.W.kitx_exc (ox := oe) (od := some od) hc T.ga T.gt T.ex T.cl T.cg T.ct T.mo) I.kIn J h1 e (fun z => nomatch z) fun tk => ⟨.bl b, H, I.tok tk, rfl, q⟩
end FcX
set_option maxRecDepth 100000
set_option maxHeartbeats 4000000
namespace Fc
open PySem PySem.Spec PyProof.Rows L2 FcR
open Evl (Ex)
theorem tb_set {K : PySem.W.Frag} {H : Hp} {p : Addr} {xs ys : List V} (h : H p = some (.lst xs)) (tb : Tb K H) : Tb K (upd H p (.lst ys)) := fun q hq => by
  obtain ⟨ps, h1, h2, h3⟩ := tb q hq
  refine ⟨ps, by rw [upd_ne (fun e => by rw [e, h] at h1; cases h1)]; exact h1, h2, fun pos cv hc => ?_⟩
  obtain ⟨c, e1, e2⟩ := h3 pos cv hc
  exact ⟨c, e1, by rw [upd_ne (fun e => by rw [e, h] at e2; unfold LamX.CodeO at e2; cases e2)]; exact e2⟩
def lsp2Q (sp : Sp) : FcL.LSp := fun ws H Q E => ∃ a b, ws = [some a, some b] ∧ sp [a, b] H Q E
def sp_said44 (P : Program) (w : World) (K : PySem.W.Frag) (mg : Str → Option Value) (base : Heap) : Sp := fun vs H Q _ => ∃ (f : Addr) (F : FcL.LF) (ds : List V) (fr : List Str) (sp : FcL.LSp) (ws : List (Option V)), vs = [.ref f] ∧ FcL.LOk P w K mg base 28 F ds fr sp ∧ FcL.LamAt H f F ds ∧ FcL.CellsB base F.cl fr ws ∧
  ((∃ y, (∀ (Q' : VK) (E' : XK), RaisesA K "InvalidTable" "at" H y E' → sp ws H Q' E') ∧ ∀ H', Ex H H' → Q y H') ∨
   (∃ G : Hp → Prop, (∀ (Q' : VK) (E' : XK), (∀ v H', G H' → Q' v H') → sp ws H Q' E') ∧ ∀ H', G H' → Q .non H'))
def sp_ref44 (K : PySem.W.Frag) : Sp := fun vs H Q _ => ∃ (F G : Hp) (A : CAd) (rows : List Row) (v : V) (i : Int), vs = [.ref A.p, v, .int i] ∧ CodeH K F F A rows ∧ Ex F H ∧ Ex G H ∧ rows.length ≤ 400 ∧ BadT K G rows v i ∧ (∀ b, TM K b → F b = none) ∧ (∀ b, TM K b → G b = none) ∧ Tb K H ∧ ∀ H', (∀ b o, H b = some o → ¬ TM K b → H' b = some o) → Tb K H' → Q (.bl true) H'
section
variable {P : Program} {w : World} {h : Heap} {K : PySem.W.Frag} {mg : Str → Option Value} {base : Heap}
abbrev N_law_said : List Str := ["_law_call", "e"]
theorem sc_law_said : FnScope N_law_said ["_law_call"] (defScope sd_law_said) := ⟨rfl, rfl, rfl, by decide +kernel, rfl, by decide +kernel, by decide +kernel⟩
theorem ok_law_said (T : Tx w h K mg) : ∃ fd, (∀ base, FcL.FnG P w K mg base 30 (He.fAd K ("_law_said", none)) fd ["_law_call"] (sp_said44 P w K mg base)) ∧ Binds K fd ["_law_call"] [] ∧ PySem.W.keepIn K (.ref (He.fAd K ("_law_said", none))) = true := by
  obtain ⟨fd, F⟩ := F_law_said T
  refine ⟨fd, fun base => ?_, F.bindsN (fun _ _ _ _ _ _ us hl => match us, hl with | [_], _ => rfl), F.kp⟩
  refine FcL.okG (at_ := ("_law_said", none)) F sc_law_said (fun vs H Q E h => ?_) (fun cdv A outer s H vs Q E hgd hcd hr h => ?_)
  · obtain ⟨f, F, ds, fr, sp, ws, rfl, lo, la, ce, alt⟩ := h
    rfl
  · have hun : (A.deeper (envOfC "_law_said" (defScope sd_law_said) s.heap.objs.size (He.fAd K ("_law_said", none)) cdv)).units + 100 < cLine := by have := hr.un; omega
    obtain ⟨f, F, ds, fr, sp, ws, rfl, lo, la, ce, alt⟩ := h
    refine ⟨_, PSs.nox (pss_cons (FcX.ps_try_mix rfl rfl sc_law_said.nd takes_none5 (fun W pn xe tk pw => (pss_one (ps_expr (show PE _ _ (FcL.tCallLam base 0 (fun F ds fr sp => FcL.LOk P w K mg base 28 F ds fr sp) W) from FcL.pe_callLam (i := 0) (k := 28) (S := fun F ds fr sp => FcL.LOk P w K mg base 28 F ds fr sp) (fun _ _ _ _ h => h) (hr.mono (by decide)) rfl (by first | exact Or.inl rfl | exact Or.inr (Or.inl rfl) | exact Or.inr (Or.inr rfl)) tk)))) (.as (i := 1) rfl rfl ⟨rfl, by decide, .inl (g_CopyError T)⟩ (fun a oe cls d pn hz hf => (pss_cons (ps_if (PW.pt (pw_or (pt_val (pe_callB (FcX.call_isPT hz hf) rfl (fr_isinstance T) b_isinstance (pa_cons (pv 1) (pa_cons (pe_tup (pa_cons (pe_glob (v := .ref (He.ga K "InvalidAnswers")) rfl (g_InvalidAnswers T) rfl) (pa_cons (pe_glob (v := .ref (He.ga K "InvalidNumber")) rfl (g_InvalidNumber T) rfl) (pa_cons (pe_glob (v := .ref (He.ga K "LimitExceeded")) rfl (g_LimitExceeded T) rfl) pa_nil)))) pa_nil)))) (pw_or1 (pt_not (pt_val (pe_callB (FcX.call_isP hz hf) rfl (fr_isinstance T) b_isinstance (pa_cons (pv 1) (pa_cons (pe_glob (v := .ref (He.ga K "InvalidTable")) rfl (g_InvalidTable T) rfl) pa_nil)))))))) (pss_one (ps_ret pe_str)) pss_nil) (pss_one (ps_ret (pe_xf (FcX.XC.xf (x_InvalidTable T)) (xi_InvalidTable T).no hz hf (pv 1)))))) .nil)) (pss_one (ps_ret pe_non))), ?_⟩
    rcases alt with ⟨y, hq, Qq⟩ | ⟨G, hq, Qq⟩
    · refine ⟨f, F, ds, fr, sp, ws, rfl, lo, la, ce, hq _ _ fun H1 x e1 n1 h1 => ?_⟩
      refine ⟨true, FcX.xh_own (xh T) (c := "InvalidTable") (d := "CopyError") (by decide) (by decide), fun _ a na => ?_, fun z => by cases z⟩
      refine ⟨_, rfl, sz (by simp), ?_⟩
      intro p2 n2
      generalize e2 : upd _ p2 _ = H2
      obtain ⟨x2, s2, o2⟩ := new_of e2 n2
      clear e2
      have ko : ∀ c ∈ (["InvalidAnswers", "InvalidNumber", "LimitExceeded"] : List Str), PySem.W.kitOne K (.ref (He.ga K "InvalidTable")) (.ref (He.ga K c)) = some false := fun c hc => by
        simp only [List.mem_cons, List.not_mem_nil, or_false] at hc
        rcases hc with rfl | rfl | rfl
        · exact FcX.xk_own (xk T) (c := "InvalidTable") (d := "InvalidAnswers") (by decide) (by decide)
        · exact FcX.xk_own (xk T) (c := "InvalidTable") (d := "InvalidNumber") (by decide) (by decide)
        · exact FcX.xk_own (xk T) (c := "InvalidTable") (d := "LimitExceeded") (by decide) (by decide)
      have ka : PySem.W.kitAny K (.ref (He.ga K "InvalidTable")) [.ref (He.ga K "InvalidAnswers"), .ref (He.ga K "InvalidNumber"), .ref (He.ga K "LimitExceeded")] = some false :=
        kitAny_cons (ko _ (by simp)) (fun _ => kitAny_cons (ko _ (by simp)) (fun _ => kitAny_cons (ko _ (by simp)) (fun _ => rfl) (fun z => nomatch z)) (fun z => nomatch z)) (fun z => nomatch z)
      refine ⟨He.ga K "InvalidTable", p2, _, _, false, x, _, rfl, s2, .cons (.own _) (.cons (.own _) (.cons (.own _) .nil)), x_InvalidTable T, rfl, rfl, x2 _ _ h1, ka, _, rfl, itF rfl ?_⟩
      refine ⟨_, rfl, He.ga K "InvalidTable", _, _, true, x, _, rfl, .own _, x_InvalidTable T, rfl, rfl, x2 _ _ h1, FcX.xk_own (xk T) (c := "InvalidTable") (d := "InvalidTable") (by decide) (by decide), _, rfl, itF rfl ?_⟩
      exact ⟨_, rfl, rfl, rfl, x, _, _, rfl, x2 _ _ h1, rfl, Qq H2 (e1.trans x2)⟩
    · refine ⟨f, F, ds, fr, sp, ws, rfl, lo, la, ce, ?_⟩
      exact hq _ _ fun v H' hG => Qq H' hG
abbrev N_law_refused : List Str := ["_law_program", "_law_lines", "_law_at", "_law_found"]
theorem sc_law_refused : FnScope N_law_refused ["_law_program", "_law_lines", "_law_at"] (defScope sd_law_refused) := ⟨rfl, rfl, rfl, by decide +kernel, rfl, by decide +kernel, by decide +kernel⟩
theorem ok_law_refused (TB : FcL.TabG K base mg tfL) (T : Tx w h K mg) : FcL.OkG P w K mg base 34 ("_law_refused", none) ["_law_program", "_law_lines", "_law_at"] (sp_ref44 K) := by
  obtain ⟨fd, F⟩ := F_law_refused T
  refine ⟨fd, ?_, F.bindsN (fun _ _ _ _ _ _ us hl => match us, hl with | [_, _, _], _ => rfl), F.kp⟩
  obtain ⟨fd_law_said, G_law_said, bi_law_said, kp_law_said⟩ := ok_law_said (P := P) T
  refine FcL.okG (at_ := ("_law_refused", none)) F sc_law_refused (fun vs H Q E h => ?_) (fun cdv A outer s H vs Q E hgd hcd hr h => ?_)
  · obtain ⟨F, G, A, rows, v, i, rfl, C, xF, xG, hl, bt, ft, ftG, tb, q⟩ := h
    rfl
  · have hun : (A.deeper (envOfC "_law_refused" (defScope sd_law_refused) s.heap.objs.size (He.fAd K ("_law_refused", none)) cdv)).units + 100 < cLine := by have := hr.un; omega
    obtain ⟨F, G, A, rows, v, i, rfl, C, xF, xG, hl, bt, ft, ftG, tb, q⟩ := h
    refine ⟨_, PSs.nox (pss_cons (ps_set (i := 3) sc_law_refused.nd rfl (Or.inl rfl) (pe_lst (pa_cons (FcL.pe_callG (fun b _ => G_law_said b) (show _ = some [] from hgd) (hr.mono (by decide)) rfl (g_law_said T) kp_law_said bi_law_said (fun _ => rfl) (pa_cons (FcL.pe_lam (T := FcL.tabT K tfL) (P := (He.cT K ("_law_refused", none)).2) (fr := ["_law_program", "_law_lines"]) (js := [0, 1]) (TB _ (List.mem_of_getElem? (i := 0) rfl)) hcd (FcL.tabT_m (i := 0) rfl) (FcL.tabT_u (tnd T) (i := 0) rfl) (by show NdefX.ndefB (defScope sd_law_refused) _ _ = true; decide +kernel) rfl rfl) pa_nil)) pa_nil))) (pss_cons (ps_expr (pe_bm PySem.F.plainAttrs_list PySem.F.slot_list_append PySem.F.type_list_append mt_append (pv 3) (pa_cons (FcL.pe_callG (fun b _ => G_law_said b) (show _ = some [] from hgd) (hr.mono (by decide)) rfl (g_law_said T) kp_law_said bi_law_said (fun _ => rfl) (pa_cons (FcL.pe_lam (T := FcL.tabT K tfL) (P := (He.cT K ("_law_refused", none)).2) (fr := ["_law_program", "_law_lines"]) (js := [0, 1]) (TB _ (List.mem_of_getElem? (i := 0) rfl)) hcd (FcL.tabT_m (i := 0) rfl) (FcL.tabT_u (tnd T) (i := 0) rfl) (by show NdefX.ndefB (defScope sd_law_refused) _ _ = true; decide +kernel) rfl rfl) pa_nil)) pa_nil))) (pss_one (ps_ret (pe_cmpR (op_eqM hr) (pv 3) (pe_lst (pa_cons (pv 2) (pa_cons (pv 2) pa_nil))) (nomark _)))))), ?_⟩
    let J : Hp → Prop := fun H' => Ex F H' ∧ Ex G H' ∧ (∀ b o, H b = some o → ¬ TM K b → H' b = some o) ∧ Tb K H'
    have Jx : ∀ {Ha Hb : Hp}, J Ha → Ex Ha Hb → J Hb := fun ⟨a, g, b, c⟩ e => ⟨a.trans e, g.trans e, fun x o h n => e _ _ (b x o h n), LamX.Tabs.ext c (fun b o h => e b o h)⟩
    have Jt : ∀ {Ha Hb : Hp}, J Ha → FcL.ExtT (FcL.tabT K tfL) Ha Hb → Tb K Hb → J Hb := fun ⟨a, g, b, c⟩ e t => ⟨(gr_T a ft e).fh, (gr_T g ftG e).fh, fun x o h n => (gr_T a ft e).kp x o (b x o h n) n, t⟩
    have j0 : J H := ⟨xF, xG, fun _ _ h _ => h, tb⟩
    refine ⟨tb, fun f0 cl0 c0 dV0 H1 eT0 nn0 t1 nf0 la0 cp0 => ?_⟩
    have j1 := Jt j0 eT0 t1
    obtain ⟨L0, hL0, la0⟩ : ∃ L, L = _ ∧ FcL.LamAt H1 f0 L [] := ⟨_, rfl, la0⟩
    refine fun base' gr => ?_
    refine ⟨f0, L0, [], ["_law_program", "_law_lines"], lsp2Q (sp_ckrX K), [some (.ref A.p), some v], rfl, ?_, la0, ?_, .inl ⟨.int i, fun Q' E' ra' => ⟨_, _, rfl, F, A, rows, v, i, rfl, C, j1.1, hl, bt.ex j1.2.1, ra'⟩, fun H2 x2 => ?_⟩⟩
    · subst hL0
      obtain ⟨fd_check_table, G_check_table, bi_check_table, kp_check_table⟩ := ok_check_tableX (P := P) (base := base') T
      refine FcL.LOk.mono (j := 12) (FcL.lok_of (N := ["_law_program", "_law_lines"]) (ps := []) (fr := ["_law_program", "_law_lines"]) (NdefX.nscope_by (by dsimp only; decide +kernel)) rfl (fun s pm ctv us r z => z.elim (fun z => by cases r; obtain ⟨z1, _⟩ := z; dsimp only at z1; subst z1; exact .of_eq rfl) (fun z => by cases r; obtain ⟨_, _, _, _, z, _⟩ := z; exact absurd rfl z)) (fun A outer s H f ws Q E hr hl h => ?_)) (by decide)
      obtain ⟨a, b, rfl, F, A, rows, v, i, e, C, xF, h4, bt, ra⟩ := h
      cases e
      exact ⟨_, (pe_callS G_check_table (hr.mono (by decide)) rfl (g_check_table T) kp_check_table bi_check_table (fun σ => passAt (takes_of rfl rfl rfl rfl) σ) (pa_cons (pv 0) (pa_cons (pv 1) pa_nil))), _, rfl, _, rfl, F, A, rows, _, i, rfl, C, xF, h4, bt, ra⟩
    · subst hL0
      exact gr.cells _ cl0 _ _ rfl rfl cp0
    have j2 := Jx j1 x2
    refine ⟨sz (by simp), ?_⟩
    intro p3 n3
    generalize e3 : upd _ p3 _ = H3
    obtain ⟨x3, s3, o3⟩ := new_of e3 n3
    clear e3
    have j3 := Jx j2 x3
    refine ⟨_, rfl, .inl ⟨rfl, _, Evl.sq_of s3⟩, j3.2.2.2, fun f4 cl4 c4 dV4 H4 eT4 nn4 t4 nf4 la4 cp4 => ?_⟩
    have j4 := Jt j3 eT4 t4
    obtain ⟨L4, hL4, la4⟩ : ∃ L, L = _ ∧ FcL.LamAt H4 f4 L [] := ⟨_, rfl, la4⟩
    have s4 : H4 p3 = some (.lst [.int i]) := eT4.n j3.2.2.2 _ _ s3 (fun ps z => by cases z)
    refine fun base' gr => ?_
    refine ⟨f4, L4, [], ["_law_program", "_law_lines"], lsp2Q (sp_ckrX K), [some (.ref A.p), some v], rfl, ?_, la4, ?_, .inl ⟨.int i, fun Q' E' ra' => ⟨_, _, rfl, F, A, rows, v, i, rfl, C, j4.1, hl, bt.ex j4.2.1, ra'⟩, fun H5 x5 => ?_⟩⟩
    · subst hL4
      obtain ⟨fd_merged, G_merged, bi_merged, kp_merged, FD_merged⟩ := okF_mergedX (P := P) (base := base') T
      refine FcL.LOk.mono (j := 12) (FcL.lok_of (N := ["_law_program", "_law_lines"]) (ps := []) (fr := ["_law_program", "_law_lines"]) (NdefX.nscope_by (by dsimp only; decide +kernel)) rfl (fun s pm ctv us r z => z.elim (fun z => by cases r; obtain ⟨z1, _⟩ := z; dsimp only at z1; subst z1; exact .of_eq rfl) (fun z => by cases r; obtain ⟨_, _, _, _, z, _⟩ := z; exact absurd rfl z)) (fun A outer s H f ws Q E hr hl h => ?_)) (by decide)
      obtain ⟨a, b, rfl, F, A, rows, v, i, e, C, xF, h4, bt, ra⟩ := h
      cases e
      exact ⟨_, (FcX.pe_callW (ks := ["rows", "code"]) (g := fun | [z0, z1] => [z1, z0] | _ => []) (gV := fun | [z0, z1] => [z1, z0] | _ => []) G_merged (hr.mono (by decide)) rfl (g_merged T) kp_merged (fun s ws hl => match ws, hl with | [_, _], _ => FcX.bindsX FD_merged (fun _ _ _ _ _ _ => rfl) s) (fun r _ => match r with | (.cons r0 (.cons r1 .nil)) => (.cons r1 (.cons r0 .nil))) (passes_call (takes_of rfl rfl rfl rfl) (fun _ _ _ _ h => h)) (pk_cons (pv 1) (pk_cons (pv 0) pk_nil))), _, rfl, _, rfl, rfl, F, A, rows, _, i, rfl, C, xF, h4, bt, ra⟩
    · subst hL4
      exact gr.cells _ cl4 _ _ rfl rfl cp4
    have j5 := Jx j4 x5
    have s5 := x5 _ _ s4
    refine ⟨p3, _, _, rfl, rfl, s5, szl (by simp), ?_⟩
    generalize e6 : upd _ p3 _ = H6
    obtain ⟨s6, o6⟩ := set_of e6
    clear e6
    have np3 : H p3 = none := by
      cases z : H p3 with
      | none => rfl
      | some o =>
        by_cases tm : TM K p3
        · obtain ⟨ps, hps⟩ := noT j2.2.2.2 tm
          rw [n3] at hps; cases hps
        · rw [j2.2.2.1 _ _ z tm] at n3; cases n3
    have j6 : J H6 := by
      refine ⟨fun b o e => (o6 b (fun z => by rw [z] at e; rw [xF _ _ e] at np3; cases np3)).trans (j5.1 _ _ e), fun b o e => (o6 b (fun z => by rw [z] at e; rw [xG _ _ e] at np3; cases np3)).trans (j5.2.1 _ _ e), fun b o e n => (o6 b (fun z => by rw [z, np3] at e; cases e)).trans (j5.2.2.1 _ _ e n), ?_⟩
      have z := tb_set (ys := [.int i] ++ [.int i]) s5 j5.2.2.2
      have e6 : H6 = upd H5 p3 (.lst ([.int i] ++ [.int i])) := by
        funext b
        by_cases y : b = p3
        · rw [y, s6, upd_same]
        · rw [o6 b y, upd_ne y]
      rw [e6]
      exact z
    refine ⟨_, rfl, _, rfl, _, rfl, sz (by simp), ?_⟩
    intro p7 n7
    generalize e7 : upd _ p7 _ = H7
    obtain ⟨x7, s7, o7⟩ := new_of e7 n7
    clear e7
    have cI : PyData.canLay0 (.list [.int i, .int i]) = true := rfl
    refine ⟨_, _, .lst (Evl.sq_of (x7 _ _ s6)) (.cons (.int i) (.cons (.int i) .nil)), .lst (Evl.sq_of s7) (.cons (.int i) (.cons (.int i) .nil)), cI, cI, Nat.le_trans (Nat.min_le_left _ _) (by simp [PyData.depth, PyData.depthAll]), ?_⟩
    rw [PySem.SeqAt.eqv_refl _ cI]
    have j7 := Jx j6 x7
    exact q H7 j7.2.2.1 j7.2.2.2
end
end Fc
set_option maxRecDepth 100000
set_option maxHeartbeats 4000000
namespace Fc
open PySem PySem.Spec PyProof.Rows L2 FcR
open Evl (Ex)
def sp_kind (K : PySem.W.Frag) : Sp := fun vs H Q _ => ∃ (F : Hp) (A : CAd) (rows : List Row) (n : Nat) (r : Row), vs = [.ref A.p, .int (n : Int)] ∧ CodeH K F F A rows ∧ Ex F H ∧ rows[n]? = some r ∧ Q (.str (kindD r.d)) H
section
variable {P : Program} {w : World} {h : Heap} {K : PySem.W.Frag} {mg : Str → Option Value} {base : Heap}
abbrev N_Code_kind : List Str := ["self", "number"]
theorem sc_Code_kind : FnScope N_Code_kind ["self", "number"] (defScope sd_Code_kind) := ⟨rfl, rfl, rfl, by decide +kernel, rfl, by decide +kernel, by decide +kernel⟩
theorem okF_Code_kind (T : Tx w h K mg) : ∃ fd, FnOk P w K mg base (CX P w) 4 (He.fAd K ("Code", some "kind")) fd ["self", "number"] (sp_kind K) ∧ Binds K fd ["self", "number"] [] ∧ PySem.W.keepIn K (.ref (He.fAd K ("Code", some "kind"))) = true ∧ FunD K "kind" "Code.kind" (defArgs sd_Code_kind) (defBody sd_Code_kind) (defScope sd_Code_kind) [] [] (He.fAd K ("Code", some "kind")) fd := by
  obtain ⟨fd, F⟩ := F_Code_kind T
  refine ⟨fd, ?_, F.bindsN (fun _ _ _ _ _ _ us hl => match us, hl with | [_, _], _ => rfl), F.kp, F⟩
  obtain ⟨fd_Code_check_number, G_Code_check_number, bi_Code_check_number, kp_Code_check_number⟩ := ok_Code_check_number (P := P) (base := base) T
  refine F.ok sc_Code_kind (fun vs H Q E h => ?_) (fun cdv A outer s H vs Q E hr h => ?_)
  · obtain ⟨F, A, rows, n, r, rfl, C, xF, hw, q⟩ := h
    rfl
  · obtain ⟨F, A, rows, n, r, rfl, C, xF, hw, q⟩ := h
    refine ⟨_, PSs.nox (pss_cons (ps_expr (pe_meth (pv 0) (c_Code T) (me_Code_check_number T) G_Code_check_number (hr.mono (by decide)) bi_Code_check_number .nil passF (pa_cons (pv 1) pa_nil))) (pss_one (ps_ret (pe_ix ix_list (pe_fld (pv 0) rfl) (pv 1) (fun _ _ => rfl))))), ?_⟩
    obtain ⟨vs, C1, _⟩ := C.ex (Evl.Ex.refl _) xF
    refine ⟨_, rfl, A.p, _, _, rfl, C1.ob, fm_Code_check_number _ _ _ _ _, _, rfl, F, A, rows, n, rfl, C, xF, (List.getElem?_eq_some_iff.mp hw).1, ?_⟩
    refine ⟨_, rfl, A.p, _, _, _, _, rfl, C1.ob, c_Code T, na_Code_kinds T, fl_Code_kinds _ _ _ _ _, _, rfl, A.a2, _, _, .str (kindD r.d), rfl, rfl, Evl.sq_of C1.h2, atI_nat (by rw [List.getElem?_map, hw] <;> rfl), q⟩
theorem ok_Code_kind (T : Tx w h K mg) : Ok P w K mg base 4 ("Code", some "kind") ["self", "number"] (sp_kind K) := by
  obtain ⟨fd, a, b, c, _⟩ := okF_Code_kind (P := P) (base := base) T
  exact ⟨fd, a, b, c⟩
end
end Fc
set_option maxRecDepth 100000
set_option maxHeartbeats 4000000
namespace Fc
open PySem PySem.Spec PyProof.Rows L2 FcR
open Evl (Ex)
def faultI (n deep loops blocks : Int) (d : PyData) : Option (Str × Str × Int) := if 400 ≤ n then some ("LimitExceeded", "limit", 400) else if 100 < deep then some ("LimitExceeded", "limit", 100) else if 25 < blocks then some ("LimitExceeded", "limit", 25) else if isStm d loops = true then none else some ("InvalidCode", "number", n)
def fault (it : WIt) (n : Nat) : Option (Str × Str × Int) := faultI (n : Int) (it.deep : Int) (it.loops : Int) (it.blocks : Int) it.d
inductive Fails : Nat → List WIt → List Row → (Str × Str × Int) → Prop
  | now {it : WIt} {st : List WIt} {rows : List Row} {f : Str × Str × Int} (h : fault it rows.length = some f) : Fails 0 (it :: st) rows f
  | step {n : Nat} {it : WIt} {st : List WIt} {rows : List Row} {f : Str × Str × Int} (ok : okIt it rows.length) (hl : (newIts it rows.length ++ st).length ≤ 50000) (h : Fails n (newIts it rows.length ++ st) (addRow rows it.d it.par) f) : Fails (n + 1) (it :: st) rows f
section
variable {P : Program} {w : World} {h : Heap} {K : PySem.W.Frag} {mg : Str → Option Value} {base : Heap}
end
end Fc
set_option maxRecDepth 100000
set_option maxHeartbeats 4000000
namespace Fc
open PySem PySem.Spec PyProof.Rows L2 FcR
open Evl (Ex)
inductive OkS : Nat → Nat → Nat → Nat → PyData → Prop
  | mk {loops deep blocks : Nat} {d : PyData} (wt : Nat → Nat) (st : isStm d (loops : Int) = true) (hd : deep ≤ 100) (hb : blocks ≤ 25) (ps : ∀ i p, (partsD d)[i]? = some p → OkS (loops + wl d) (deep + 1) (blocks + (if kindD d = "final" ∧ i = 1 then 1 else 0)) (wt i) p) : OkS loops deep blocks (1 + ((List.range (partsD d).length).map wt).sum) d
inductive OkL : List WIt → Nat → Prop
  | nil : OkL [] 0
  | cons {it : WIt} {st : List WIt} {w n : Nat} (h : OkS it.loops it.deep it.blocks w it.d) (r : OkL st n) : OkL (it :: st) (w + n)
theorem OkL.app {b : List WIt} {y : Nat} (hb : OkL b y) : ∀ {a : List WIt} {x : Nat}, OkL a x → OkL (a ++ b) (x + y)
  | _, _, .nil => by rw [Nat.zero_add]; exact hb
  | _, _, .cons h r => by rw [Nat.add_assoc]; exact .cons h (OkL.app hb r)
theorem okL_parts {it : WIt} {n : Nat} : ∀ (ps : List PyData) (k : Nat) (wt : Nat → Nat), (∀ i p, ps[i]? = some p → OkS (it.loops + wl it.d) (it.deep + 1) (it.blocks + (if kindD it.d = "final" ∧ k + i = 1 then 1 else 0)) (wt i) p) → OkL (ps.mapIdx fun i p => newIt it n (k + i) p) (((List.range ps.length).map wt).sum)
  | [], _, _, _ => .nil
  | p :: ps, k, wt, h => by
    rw [List.mapIdx_cons, List.length_cons, List.range_succ_eq_map, List.map_cons, List.sum_cons, List.map_map]
    refine .cons (h 0 p rfl) ?_
    have z := okL_parts (it := it) (n := n) ps (k + 1) (fun i => wt (i + 1)) fun i q hq => by
      have y := h (i + 1) q (by simpa using hq)
      have e : k + (i + 1) = k + 1 + i := by omega
      rw [e] at y
      exact y
    have e2 : (ps.mapIdx fun i p => newIt it n (k + (i + 1)) p) = ps.mapIdx fun i p => newIt it n (k + 1 + i) p := by
      congr 1
      funext i p
      rw [show k + (i + 1) = k + 1 + i by omega]
    rw [e2]
    exact z
theorem builds_of : ∀ (N : Nat) (st : List WIt) (rows : List Row), OkL st N → rows.length + N ≤ 400 → ∃ fin, Builds N st rows fin ∧ fin.length = rows.length + N := by
  intro N
  induction N with
  | zero =>
    intro st rows h _
    have : st = [] := by
      generalize e : 0 = z at h
      cases h with
      | nil => rfl
      | cons h r => cases h; omega
    subst this
    exact ⟨rows, .done rows, rfl⟩
  | succ N ih =>
    intro st rows h hl
    generalize e : N + 1 = z at h
    cases h with
    | nil => cases e
    | @cons it st w n h r =>
      obtain ⟨d, par, deep, loops, blocks⟩ := it
      dsimp only at h
      cases h with
      | mk wt s1 s2 s3 s4 =>
        have nw : OkL (newIts ⟨d, par, deep, loops, blocks⟩ rows.length) (((List.range (partsD d).length).map wt).sum) := by
          have z := okL_parts (it := ⟨d, par, deep, loops, blocks⟩) (n := rows.length) (partsD d) 0 wt fun i p hp => by
            rw [Nat.zero_add]
            exact s4 i p hp
          have e2 : ((partsD d).mapIdx fun i p => newIt ⟨d, par, deep, loops, blocks⟩ rows.length (0 + i) p) = newIts ⟨d, par, deep, loops, blocks⟩ rows.length := by
            unfold newIts
            congr 1
            funext i p
            rw [Nat.zero_add]
          rw [e2] at z
          exact z
        have eN : ((List.range (partsD d).length).map wt).sum + n = N := by omega
        have nw2 := OkL.app r nw
        rw [eN] at nw2
        obtain ⟨fin, b, l⟩ := ih _ (addRow rows d par) nw2 (by rw [addRow_len]; omega)
        have eZ : 1 + ((List.range (partsD d).length).map wt).sum + n = N + 1 := by omega
        rw [eZ]
        exact ⟨fin, .step ⟨by omega, s2, s3, s1⟩ b, by rw [l, addRow_len]; omega⟩
end Fc
set_option maxRecDepth 100000
set_option maxHeartbeats 4000000
namespace Fc
open PySem PySem.Spec PyProof.Rows L2 FcR
open Evl (Ex)
def FailsL (st : List WIt) (n : Nat) (f : Str × Str × Int) : Prop := ∀ rows : List Row, rows.length = n → ∃ N, Fails N st rows f
/-- whatever waits behind it, the statement is refused so -/
def BadS (B loops deep blocks n : Nat) (f : Str × Str × Int) (d : PyData) : Prop := ∀ (st : List WIt) (par : Option Nat), st.length ≤ B + n → FailsL (⟨d, par, deep, loops, blocks⟩ :: st) n f
end Fc
set_option maxRecDepth 100000
set_option maxHeartbeats 4000000
namespace Fc
open PySem PySem.Spec PyProof.Rows L2 FcR
open Evl (Ex)
inductive GS : PyData → Prop
  | mk {e : PyData} (can : PyData.canLay0 e = true) (sz : szD e) (ps : ∀ x ∈ partsD e, GS x) (ns : ∀ x, e = .str x → x.length ≤ 100000) : GS e
theorem gs_parts {e : PyData} (h : GS e) : PyData.canLay0 e = true ∧ szD e ∧ ∀ x ∈ partsD e, GS x := by
  cases h with
  | mk a b c _ => exact ⟨a, b, c⟩
def Fine (k b lo hi : Nat) (d : PyData) : Prop := ∀ loops deep blocks, deep + k ≤ 101 → blocks + b ≤ 25 → ∃ w, lo ≤ w ∧ w ≤ hi ∧ OkS loops deep blocks w d
theorem okS_one {loops deep blocks wa : Nat} {d a : PyData} (e : partsD d = [a]) (hs : isStm d (loops : Int) = true) (ha : OkS (loops + wl d) (deep + 1) blocks wa a) (hd : deep ≤ 100) (hk : blocks ≤ 25) : OkS loops deep blocks (1 + wa) d := by
  have z := OkS.mk (loops := loops) (deep := deep) (blocks := blocks) (d := d) (fun _ => wa) hs hd hk fun i p hp => by
    rw [e] at hp
    match i, hp with
    | 0, hp => cases hp; simpa using ha
  rw [e] at z
  simpa using z
theorem okS_two {loops deep blocks wa wb : Nat} {d a b : PyData} (e : partsD d = [a, b]) (hs : isStm d (loops : Int) = true) (ha : OkS (loops + wl d) (deep + 1) blocks wa a) (hb : OkS (loops + wl d) (deep + 1) (blocks + (if kindD d = "final" then 1 else 0)) wb b) (hd : deep ≤ 100) (hk : blocks ≤ 25) : OkS loops deep blocks (1 + (wa + wb)) d := by
  have z := OkS.mk (loops := loops) (deep := deep) (blocks := blocks) (d := d) (fun i => if i = 0 then wa else wb) hs hd hk fun i p hp => by
    rw [e] at hp
    match i, hp with
    | 0, hp => cases hp; simpa using ha
    | 1, hp => cases hp; simpa using hb
  rw [e] at z
  simpa [List.range_succ] using z
theorem okS_lf {loops deep blocks : Nat} {d : PyData} (e : partsD d = []) (hs : isStm d (loops : Int) = true) (hd : deep ≤ 100) (hk : blocks ≤ 25) : OkS loops deep blocks 1 d := by
  have z := OkS.mk (loops := loops) (deep := deep) (blocks := blocks) (d := d) (fun _ => 0) hs hd hk fun i p hp => by
    rw [e] at hp
    simp at hp
  rw [e] at z
  simpa using z
theorem Fine.mono {k b lo hi b' : Nat} {d : PyData} (h : Fine k b lo hi d) (e : b ≤ b') : Fine k b' lo hi d := fun l d' bl h1 h2 => h l d' bl h1 (by omega)
theorem BadS.mono {B B' loops deep blocks n : Nat} {f : Str × Str × Int} {d : PyData} (h : BadS B loops deep blocks n f d) (e : B' ≤ B) : BadS B' loops deep blocks n f d := fun st par hs => h st par (by omega)
end Fc
set_option maxRecDepth 100000
set_option maxHeartbeats 4000000
namespace Fc
open PySem PySem.Spec PyProof.Rows L2 FcR
open Evl (Ex)
def nmB : List Str := ["a", "b", "x", "y", "loop", "zzzzzzzz", "do", "final"]
def SB (room deep loops blocks : Nat) (d : PyData) : Prop := GS d ∧ d.depth ≤ 2 * deep ∧ ∃ w, 1 ≤ w ∧ w ≤ room ∧ ∀ dd, dd + deep ≤ 101 → OkS loops dd blocks w d
theorem SB.up {r k r' k' l b : Nat} {d : PyData} (h : SB r k l b d) (hr : r ≤ r') (hk : k ≤ k') : SB r' k' l b d := by
  obtain ⟨g, e, w, w1, w2, o⟩ := h
  exact ⟨g, by omega, w, w1, by omega, fun dd hd => o dd (by omega)⟩
theorem SB.can {r k l b : Nat} {d : PyData} (h : SB r k l b d) : PyData.canLay0 d = true := (gs_parts h.1).1
theorem sb_leaf {r k l b : Nat} {d : PyData} (hr : 1 ≤ r) (hk : 1 ≤ k) (hb : b ≤ 25) (st : isStm d (l : Int) = true) (e : partsD d = []) (cl : PyData.canLay0 d = true) (sz : szD d) (ns : ∀ x, d = .str x → x.length ≤ 100000) (dp : d.depth ≤ 2) : SB r k l b d :=
  ⟨.mk cl sz (fun x hx => by rw [e] at hx; cases hx) ns, by omega, 1, Nat.le_refl _, hr, fun dd hd => okS_lf e st (by omega) hb⟩
theorem nm_okB : ∀ x ∈ nmB, nameOk x = true ∧ PyData.canLay0 (.str x) = true ∧ x.length ≤ 100000 := by decide +kernel
theorem sb_do {r k l b : Nat} {q x : Str} (hr : 1 ≤ r) (hk : 1 ≤ k) (hb : b ≤ 25) (hq : q = "do" ∨ q = "call") (hx : x ∈ nmB) : SB r k l b (.tuple [.str q, .str x]) := by
  obtain ⟨h1, h2, h3⟩ := nm_okB x hx
  rcases hq with rfl | rfl
  · refine sb_leaf hr hk hb (show nameOk x = true from h1) rfl ?_ (fun k y r e => by cases e; exact h3) (fun x e => by cases e) (by simp [PyData.depth, PyData.depthAll])
    show (PyData.canLay0 (.str "do") && (PyData.canLay0 (.str x) && true)) = true
    rw [h2]
    kernel_rfl
  · refine sb_leaf hr hk hb (show nameOk x = true from h1) rfl ?_ (fun k y r e => by cases e; exact h3) (fun x e => by cases e) (by simp [PyData.depth, PyData.depthAll])
    show (PyData.canLay0 (.str "call") && (PyData.canLay0 (.str x) && true)) = true
    rw [h2]
    kernel_rfl
theorem sb_jmp {r k l b : Nat} {q : Str} {n : Int} (hr : 1 ≤ r) (hk : 1 ≤ k) (hb : b ≤ 25) (hq : q = "break" ∨ q = "continue") (h1 : 1 ≤ n) (h2 : n ≤ l) : SB r k l b (.tuple [.str q, .int n]) := by
  rcases hq with rfl | rfl
  · refine sb_leaf hr hk hb ?_ rfl (by kernel_rfl) (fun k y r e => by cases e) (fun x e => by cases e) (by simp [PyData.depth, PyData.depthAll])
    show (decide (1 ≤ n) && decide (n ≤ (l : Int))) = true
    rw [decide_eq_true h1, decide_eq_true h2] <;> rfl
  · refine sb_leaf hr hk hb ?_ rfl (by kernel_rfl) (fun k y r e => by cases e) (fun x e => by cases e) (by simp [PyData.depth, PyData.depthAll])
    show (decide (1 ≤ n) && decide (n ≤ (l : Int))) = true
    rw [decide_eq_true h1, decide_eq_true h2] <;> rfl
theorem sb_ret {r k l b : Nat} {q : Str} (hr : 1 ≤ r) (hk : 1 ≤ k) (hb : b ≤ 25) (hq : q = "return" ∨ q = "raise") : SB r k l b (.tuple [.str q]) := by
  rcases hq with rfl | rfl <;> exact sb_leaf hr hk hb rfl rfl (by kernel_rfl) (fun k y r e => by cases e) (fun x e => by cases e) (by simp [PyData.depth, PyData.depthAll])
theorem sb_whl {r k l b : Nat} {x : Str} {a : PyData} (hx : x ∈ nmB) (hb : b ≤ 25) (h : SB r k (l + 1) b a) : SB (r + 1) (k + 1) l b (.tuple [.str "while", .str x, a]) := by
  obtain ⟨h1, h2, h3⟩ := nm_okB x hx
  have ca := h.can
  obtain ⟨g, e, w, w1, w2, o⟩ := h
  refine ⟨.mk ?_ (fun k y r e => by cases e; exact h3) (fun z hz => ?_) (fun x e => by cases e), ?_, 1 + w, by omega, by omega, fun dd hd => ?_⟩
  · show (PyData.canLay0 (.str "while") && (PyData.canLay0 (.str x) && (PyData.canLay0 a && true))) = true
    rw [h2, ca]
    kernel_rfl
  · have hz : z ∈ [a] := hz
    rw [List.mem_singleton.mp hz]
    exact g
  · simp only [PyData.depth, PyData.depthAll]
    omega
  · exact okS_one (a := a) rfl (show nameOk x = true from h1) (o (dd + 1) (by omega)) (by omega) hb
theorem sb_two {r r' k l b : Nat} {d a c : PyData} (e : partsD d = [a, c]) (st : isStm d (l : Int) = true) (w0 : wl d = 0) (cl : PyData.canLay0 a = true → PyData.canLay0 c = true → PyData.canLay0 d = true) (sz : szD d) (ns : ∀ x, d = .str x → x.length ≤ 100000) (dp : d.depth ≤ 2 + max a.depth c.depth) (hb : b ≤ 25) (ha : SB r k l b a) (hc : SB r' k l (b + (if kindD d = "final" then 1 else 0)) c) : SB (r + r' + 1) (k + 1) l b d := by
  have ca := ha.can
  have cc := hc.can
  obtain ⟨g, e1, w, w1, w2, o⟩ := ha
  obtain ⟨g', e1', w', w1', w2', o'⟩ := hc
  refine ⟨.mk (cl ca cc) sz (fun z hz => ?_) ns, by omega, 1 + (w + w'), by omega, by omega, fun dd hd => ?_⟩
  · rw [e] at hz
    simp only [List.mem_cons, List.not_mem_nil, or_false] at hz
    rcases hz with rfl | rfl
    · exact g
    · exact g'
  · exact okS_two e st (by rw [w0]; exact o (dd + 1) (by omega)) (by rw [w0]; exact o' (dd + 1) (by omega)) (by omega) hb
theorem sb_if {r r' k l b : Nat} {x : Str} {a c : PyData} (hx : x ∈ nmB) (hb : b ≤ 25) (ha : SB r k l b a) (hc : SB r' k l b c) : SB (r + r' + 1) (k + 1) l b (.tuple [.str "if", .str x, a, c]) := by
  obtain ⟨h1, h2, h3⟩ := nm_okB x hx
  refine sb_two rfl (show nameOk x = true from h1) rfl (fun ca cc => ?_) (fun k y r e => by cases e; exact h3) (fun x e => by cases e) ?_ hb ha hc
  · show (PyData.canLay0 (.str "if") && (PyData.canLay0 (.str x) && (PyData.canLay0 a && (PyData.canLay0 c && true)))) = true
    rw [h2, ca, cc]
    kernel_rfl
  · simp only [PyData.depth, PyData.depthAll]
    omega
theorem sb_try {r r' k l b : Nat} {a c : PyData} (hb : b ≤ 25) (ha : SB r k l b a) (hc : SB r' k l b c) : SB (r + r' + 1) (k + 1) l b (.tuple [.str "try", a, c]) := by
  refine sb_two rfl rfl rfl (fun ca cc => ?_) (fun k y r e => ?_) (fun x e => by cases e) ?_ hb ha hc
  · show (PyData.canLay0 (.str "try") && (PyData.canLay0 a && (PyData.canLay0 c && true))) = true
    rw [ca, cc]
    kernel_rfl
  · injection e with e
    injection e with e1 e2
    injection e2 with e2 e3
    obtain ⟨g, _⟩ := ha
    cases g with
    | mk _ _ _ ns => exact ns _ e2
  · simp only [PyData.depth, PyData.depthAll]
    omega
theorem sb_fin {r r' k l b : Nat} {a c : PyData} (hb : b ≤ 24) (ha : SB r k l b a) (hc : SB r' k l (b + 1) c) : SB (r + r' + 1) (k + 1) l b (.tuple [.str "final", a, c]) := by
  refine sb_two rfl rfl rfl (fun ca cc => ?_) (fun k y r e => ?_) (fun x e => by cases e) ?_ (by omega) ha hc
  · show (PyData.canLay0 (.str "final") && (PyData.canLay0 a && (PyData.canLay0 c && true))) = true
    rw [ca, cc]
    kernel_rfl
  · injection e with e
    injection e with e1 e2
    injection e2 with e2 e3
    obtain ⟨g, _⟩ := ha
    cases g with
    | mk _ _ _ ns => exact ns _ e2
  · simp only [PyData.depth, PyData.depthAll]
    omega
/-- parts of a seq with their rooms -/
inductive SBs (k l b : Nat) : Nat → List PyData → Prop
  | nil : SBs k l b 0 []
  | snoc {r s : Nat} {ds : List PyData} {d : PyData} (h : SBs k l b r ds) (hd : SB s k l b d) : SBs k l b (r + s) (ds ++ [d])
theorem SBs.all {k l b r : Nat} {ds : List PyData} (h : SBs k l b r ds) : (∀ d ∈ ds, GS d ∧ d.depth ≤ 2 * k) ∧ ∃ ws : List Nat, ws.length = ds.length ∧ ws.sum ≤ r ∧ ∀ (i : Nat) (p : PyData) (w : Nat), ds[i]? = some p → ws[i]? = some w → ∀ dd, dd + k ≤ 101 → OkS l dd b w p := by
  induction h with
  | nil => exact ⟨fun d hd => (by cases hd), [], rfl, Nat.le_refl _, fun i p w h => (by simp at h)⟩
  | snoc h hd ih =>
    obtain ⟨i1, ws, i2, i3, i4⟩ := ih
    obtain ⟨g, e, w, w1, w2, o⟩ := hd
    refine ⟨fun d hd => ?_, ws ++ [w], by simp [i2], by simp; omega, fun i p w' hp hw dd hdd => ?_⟩
    · rcases List.mem_append.mp hd with hd | hd
      · exact i1 d hd
      · rw [List.mem_singleton.mp hd]; exact ⟨g, e⟩
    · rcases Nat.lt_or_ge i ws.length with hi | hi
      · rw [List.getElem?_append_left (by omega)] at hp
        rw [List.getElem?_append_left hi] at hw
        exact i4 i p w' hp hw dd hdd
      · rw [List.getElem?_append_right (by omega)] at hp
        rw [List.getElem?_append_right hi] at hw
        have : i - ws.length = 0 := by
          have := (List.getElem?_eq_some_iff.mp hw).1
          simp at this
          omega
        rw [this] at hw
        rw [← i2, this] at hp
        cases hp
        cases hw
        exact o dd hdd
theorem okS_listB {loops deep blocks : Nat} {d : PyData} (ws : List Nat) (st : isStm d (loops : Int) = true) (hd : deep ≤ 100) (hk : blocks ≤ 25) (hl : ws.length = (partsD d).length) (ps : ∀ (i : Nat) (p : PyData) (w : Nat), (partsD d)[i]? = some p → ws[i]? = some w → OkS (loops + wl d) (deep + 1) (blocks + (if kindD d = "final" ∧ i = 1 then 1 else 0)) w p) : OkS loops deep blocks (1 + ws.sum) d := by
  have z := OkS.mk (loops := loops) (deep := deep) (blocks := blocks) (d := d) (fun i => ws.getD i 0) st hd hk fun i p hp => by
    have hi : i < ws.length := by rw [hl]; exact (List.getElem?_eq_some_iff.mp hp).1
    refine ps i p _ hp ?_
    rw [List.getD_eq_getElem?_getD, List.getElem?_eq_getElem hi] <;> rfl
  have e : ((List.range (partsD d).length).map fun i => ws.getD i 0) = ws := by
    apply List.ext_getElem?
    intro i
    rw [List.getElem?_map, ← hl]
    rcases Nat.lt_or_ge i ws.length with hi | hi
    · rw [List.getElem?_range hi, List.getElem?_eq_getElem hi]
      simp [List.getD_eq_getElem?_getD, List.getElem?_eq_getElem hi]
    · rw [List.getElem?_eq_none hi, List.getElem?_eq_none (by simpa using hi)] <;> rfl
  rw [e] at z
  exact z
theorem sb_seq {k l b r : Nat} {ds : List PyData} (hb : b ≤ 25) (hn : ds ≠ []) (h4 : ds.length ≤ 401) (h : SBs k l b r ds) : SB (r + 1) (k + 1) l b (.tuple [.str "seq", .tuple ds]) := by
  obtain ⟨i1, ws, i2, i3, i4⟩ := h.all
  have hp : partsD (.tuple [.str "seq", .tuple ds]) = ds := List.take_of_length_le (by omega)
  have st : isStm (.tuple [.str "seq", .tuple ds]) (l : Int) = true := by
    cases ds with
    | nil => exact absurd rfl hn
    | cons a b => rfl
  refine ⟨.mk ?_ (fun k x r e => by cases e) (fun z hz => ?_) (fun x e => by cases e), ?_, 1 + ws.sum, by omega, by omega, fun dd hd => ?_⟩
  · show (PyData.canLay0 (.str "seq") && (PyData.canLayAll0 ds && true)) = true
    rw [canAll fun d hd => (gs_parts (i1 d hd).1).1]
    kernel_rfl
  · rw [hp] at hz
    exact (i1 z hz).1
  · have : ∀ l : List PyData, (∀ d ∈ l, d.depth ≤ 2 * k) → PyData.depthAll l ≤ 2 * k := fun l => by
      induction l with
      | nil => exact fun _ => Nat.zero_le _
      | cons a l ih =>
        intro h
        have h1 := h a List.mem_cons_self
        have h2 := ih fun d hd => h d (List.mem_cons_of_mem _ hd)
        simp only [PyData.depthAll]
        omega
    have := this ds fun d hd => (i1 d hd).2
    simp only [PyData.depth, PyData.depthAll]
    omega
  · refine okS_listB ws st (by omega) hb (by rw [hp]; exact i2) fun i p w h1 h2 => ?_
    rw [hp] at h1
    have := i4 i p w h1 h2 (dd + 1) (by omega)
    exact this
end Fc
set_option maxRecDepth 100000
set_option maxHeartbeats 4000000
namespace Fc
open PySem PySem.Spec PyProof.Rows L2 FcR
open Evl (Ex)
/-- a source of draws, with at most so many mixed numbers -/
def SrcB (H : Hp) (p : Addr) (n : Nat) : Prop := ∃ x y z : Int, H p = some (.lst [.int x, .int y, .int z]) ∧ 0 ≤ y ∧ y < 2147483647 ∧ 0 ≤ z ∧ z ≤ (n : Int)
theorem SrcB.kp {H H' : Hp} {p : Addr} {n : Nat} (h : SrcB H p n) (e : ∀ o, H p = some o → H' p = some o) : SrcB H' p n := by
  obtain ⟨x, y, z, h, r⟩ := h
  exact ⟨x, y, z, e _ h, r⟩
theorem SrcB.up {H : Hp} {p : Addr} {n m : Nat} (h : SrcB H p n) (e : n ≤ m) : SrcB H p m := by
  obtain ⟨x, y, z, h, a, b, c, d⟩ := h
  exact ⟨x, y, z, h, a, b, c, by omega⟩
theorem gr_kp {F H H' : Hp} {p : Addr} (x : Ex F H) (f : F p = none) (k : ∀ b o, b ≠ p → H b = some o → H' b = some o) : Gr (fun b => b = p) F H F H' :=
  ⟨Evl.Ex.refl _, fun b o e => k b o (fun z => by rw [z, f] at e; cases e) (x b o e), fun _ _ e _ => e, fun b o e n => k b o n e⟩
def sp_choiceB (K : PySem.W.Frag) : Sp := fun vs H Q _ => ∃ (p a : Addr) (n : Nat) (xs : List V), vs = [.ref p, .ref a] ∧ SrcB H p n ∧ n ≤ 1000000000 ∧ H a = some (.lst xs) ∧ a ≠ p ∧ xs ≠ [] ∧ xs.length < 1000 ∧
  ∀ (H' : Hp) (x : V), x ∈ xs → SrcB H' p (n + 1) → (∀ b o, b ≠ p → H b = some o → H' b = some o) → Q x H'
def sp_nameB : Sp := fun vs H Q _ => ∃ (p : Addr) (n : Nat), vs = [.ref p] ∧ SrcB H p n ∧ n ≤ 1000000000 ∧
  ∀ (H' : Hp) (x : Str), x ∈ nmB → SrcB H' p (n + 1) → (∀ b o, b ≠ p → H b = some o → H' b = some o) → Q (.str x) H'
def sp_cellB (K : PySem.W.Frag) : Sp := fun vs H Q _ => ∃ (a : Addr) (ns : List Int) (k : Nat), vs = [.ref a, .int (k : Int)] ∧ SqL K H a (ns.map V.int) ∧ Q (.int (ns.getD k 0)) H
def sp_sourceB : Sp := fun vs H Q _ => ∃ c : Int, vs = [.int c] ∧ ∀ (p : Addr) (H' : Hp), H p = none → Ex H H' → SrcB H' p 0 → (∀ b, b ≠ p → H' b = H b) → Q (.ref p) H'
def sp_drawB : Sp := fun vs H Q _ => ∃ (p : Addr) (n : Nat) (m : Int), vs = [.ref p, .int m] ∧ SrcB H p n ∧ n ≤ 1000000000 ∧ 0 < m ∧ m < 1073741824 ∧
  ∀ (v : Int) (H' : Hp), 0 ≤ v → v < m → SrcB H' p (n + 1) → (∀ b o, b ≠ p → H b = some o → H' b = some o) → Q (.int v) H'
section
variable {P : Program} {w : World} {h : Heap} {K : PySem.W.Frag} {mg : Str → Option Value} {base : Heap}
abbrev N_law_cell_at : List Str := ["_law_script", "_law_index"]
theorem sc_law_cell_at : FnScope N_law_cell_at ["_law_script", "_law_index"] (defScope sd_law_cell_at) := ⟨rfl, rfl, rfl, by decide +kernel, rfl, by decide +kernel, by decide +kernel⟩
theorem ok_law_cell_at (T : Tx w h K mg) : Ok P w K mg base 1 ("_law_cell_at", none) ["_law_script", "_law_index"] (sp_cellB K) := by
  obtain ⟨fd, F⟩ := F_law_cell_at T
  refine ⟨fd, ?_, F.bindsN (fun _ _ _ _ _ _ us hl => match us, hl with | [_, _], _ => rfl), F.kp⟩
  refine F.ok sc_law_cell_at (fun vs H Q E h => ?_) (fun cdv A outer s H vs Q E hr h => ?_)
  · obtain ⟨a, ns, k, rfl, hs, q⟩ := h
    rfl
  · obtain ⟨a, ns, k, rfl, hs, q⟩ := h
    refine ⟨_, PSs.nox (pss_cons (ps_if (pt_cmpR op_lt (pv 1) (pe_callB call_len_seq rfl (fr_len T) b_len (pa_cons (pv 0) pa_nil)) (nomark _)) (pss_one (ps_ret (pe_ix ix_list (pv 0) (pv 1) (fun _ _ => rfl)))) pss_nil) (pss_one (ps_ret pe_int))), ?_⟩
    refine ⟨_, rfl, _, rfl, a, _, rfl, .inl hs, _, _, rfl, rfl, _, rfl, ite_of (fun h1 => ?_) (fun h1 => ?_)⟩
    · have hk : k < ns.length := by
        have := of_decide_eq_true h1
        rw [List.length_map] at this
        omega
      refine ⟨_, rfl, _, rfl, a, _, _, .int (ns.getD k 0), rfl, rfl, hs, atI_nat ?_, q⟩
      rw [List.getElem?_map, List.getD_eq_getElem?_getD, List.getElem?_eq_getElem hk] <;> rfl
    · have hk : ns.length ≤ k := by
        have := of_decide_eq_false h1
        rw [List.length_map] at this
        omega
      have e : ns.getD k 0 = 0 := by rw [List.getD_eq_getElem?_getD, List.getElem?_eq_none hk] <;> rfl
      rw [e] at q
      exact q
abbrev N_law_source : List Str := ["_law_cell"]
theorem sc_law_source : FnScope N_law_source ["_law_cell"] (defScope sd_law_source) := ⟨rfl, rfl, rfl, by decide +kernel, rfl, by decide +kernel, by decide +kernel⟩
theorem ok_law_source (T : Tx w h K mg) : Ok P w K mg base 1 ("_law_source", none) ["_law_cell"] (sp_sourceB) := by
  obtain ⟨fd, F⟩ := F_law_source T
  refine ⟨fd, ?_, F.bindsN (fun _ _ _ _ _ _ us hl => match us, hl with | [_], _ => rfl), F.kp⟩
  refine F.ok sc_law_source (fun vs H Q E h => ?_) (fun cdv A outer s H vs Q E hr h => ?_)
  · obtain ⟨c, rfl, q⟩ := h
    rfl
  · obtain ⟨c, rfl, q⟩ := h
    refine ⟨_, PSs.nox (pss_one (ps_ret (pe_lst (pa_cons (pe_op op_mul (pv 0) (pe_callTy call_int1 rfl (fr_int T) b_int (pa_cons (pe_cmpR op_ge (pv 0) (pe_op op_pow pe_int pe_int) (nomark _)) pa_nil))) (pa_cons (pe_op op_mod (pe_callTy call_int1 rfl (fr_int T) b_int (pa_cons (pv 0) pa_nil)) pe_int) (pa_cons pe_int pa_nil)))))), ?_⟩
    refine ⟨_, rfl, _, rfl, _, _, rfl, rfl, (by unfold CPow; decide), _, _, rfl, rfl, .inr ⟨_, rfl, _, _, rfl, rfl, ?_, _, rfl, .inl ⟨_, rfl, _, _, rfl, rfl, (by first | (show (0 : Int) < _; decide) | (show (0 : Int) < _ ∧ _ < (1073741824 : Int); decide)), sz (by simp), ?_⟩⟩⟩
    · refine .inr ?_
      by_cases h1 : decide ((10 : Int) ^ (18 : Int).toNat ≤ c) = true
      · rw [if_pos h1] <;> decide
      · rw [if_neg h1] <;> decide
    · intro p1 n1
      generalize e1 : upd _ p1 _ = H1
      obtain ⟨x1, s1, o1⟩ := new_of e1 n1
      clear e1
      exact q p1 H1 n1 x1 ⟨_, _, _, s1, Int.emod_nonneg _ (by decide), Int.emod_lt_of_pos _ (by decide), Int.le_refl _, Int.le_refl _⟩ o1
abbrev N_law_draw : List Str := ["_law_source_here", "_law_bound", "_law_result", "_law_prime", "_law_mixed"]
theorem sc_law_draw : FnScope N_law_draw ["_law_source_here", "_law_bound"] (defScope sd_law_draw) := ⟨rfl, rfl, rfl, by decide +kernel, rfl, by decide +kernel, by decide +kernel⟩
theorem ok_law_draw (T : Tx w h K mg) : Ok P w K mg base 1 ("_law_draw", none) ["_law_source_here", "_law_bound"] (sp_drawB) := by
  obtain ⟨fd, F⟩ := F_law_draw T
  refine ⟨fd, ?_, F.bindsN (fun _ _ _ _ _ _ us hl => match us, hl with | [_, _], _ => rfl), F.kp⟩
  refine F.ok sc_law_draw (fun vs H Q E h => ?_) (fun cdv A outer s H vs Q E hr h => ?_)
  · obtain ⟨p, n, m, rfl, ⟨x, y, z, hp, y0, y1, z0, z1⟩, hn, h1, h2, q⟩ := h
    rfl
  · obtain ⟨p, n, m, rfl, ⟨x, y, z, hp, y0, y1, z0, z1⟩, hn, h1, h2, q⟩ := h
    refine ⟨_, PSs.nox (pss_cons (ps_if (pt_cmpR op_gt (pe_ix ix_list (pv 0) pe_int (fun _ _ => rfl)) pe_int (nomark _)) (pss_cons (ps_set (i := 2) sc_law_draw.nd rfl (Or.inl rfl) (pe_op op_mod (pe_callTy call_int1 rfl (fr_int T) b_int (pa_cons (pe_ix ix_list (pv 0) pe_int (fun _ _ => rfl)) pa_nil)) (pv 1))) (pss_cons (ps_asg (pe_op op_fdiv (pe_ix ix_list (pv 0) pe_int (fun _ _ => rfl)) (pv 1)) (pg_sub (pv 0) pe_int set_list)) (pss_one (ps_ret (pv 2))))) pss_nil) (pss_cons (ps_asg (pe_op op_add (pe_ix ix_list (pv 0) pe_int (fun _ _ => rfl)) pe_int) (pg_sub (pv 0) pe_int set_list)) (pss_cons (ps_set (i := 3) sc_law_draw.nd rfl (Or.inl rfl) (pe_ix ix_list (pe_lst (pa_cons pe_int (pa_cons pe_int (pa_cons pe_int (pa_cons pe_int (pa_cons pe_int pa_nil)))))) (pe_op op_mod (pe_callTy call_int1 rfl (fr_int T) b_int (pa_cons (pe_ix ix_list (pv 0) pe_int (fun _ _ => rfl)) pa_nil)) pe_int) (fun _ _ => rfl))) (pss_cons (ps_set (i := 4) sc_law_draw.nd rfl (Or.inl rfl) (pe_op op_mod (pe_callTy call_int1 rfl (fr_int T) b_int (pa_cons (pe_op op_pow (pe_op op_add (pe_op op_add (pe_ix ix_list (pv 0) pe_int (fun _ _ => rfl)) (pe_op op_mul pe_int (pe_ix ix_list (pv 0) pe_int (fun _ _ => rfl)))) pe_int) pe_int) pa_nil)) (pv 3))) (pss_cons (ps_set (i := 4) sc_law_draw.nd rfl (Or.inl rfl) (pe_op op_mod (pe_callTy call_int1 rfl (fr_int T) b_int (pa_cons (pe_op op_mul (pe_op op_add (pv 4) (pe_ix ix_list (pv 0) pe_int (fun _ _ => rfl))) (pe_op op_add (pe_op op_fdiv (pv 4) pe_int) pe_int)) pa_nil)) (pv 3))) (pss_cons (ps_set (i := 4) sc_law_draw.nd rfl (Or.inl rfl) (pe_op op_mod (pe_callTy call_int1 rfl (fr_int T) b_int (pa_cons (pe_op op_mul (pv 4) (pe_op op_add (pe_op op_add (pe_op op_fdiv (pv 4) pe_int) pe_int) (pe_ix ix_list (pv 0) pe_int (fun _ _ => rfl)))) pa_nil)) pe_int)) (pss_one (ps_ret (pe_op op_mod (pe_callTy call_int1 rfl (fr_int T) b_int (pa_cons (pe_op op_fdiv (pv 4) pe_int) pa_nil)) (pv 1)))))))))), ?_⟩
    have hs := Evl.sq_of (K := K) hp
    refine ⟨_, rfl, p, _, _, _, rfl, rfl, hs, rfl, _, _, rfl, rfl, _, rfl, ite_of (fun h3 => ?_) (fun h3 => ?_)⟩
    · refine ⟨_, rfl, p, _, _, _, rfl, rfl, hs, rfl, .inl ⟨_, rfl, _, rfl, _, _, rfl, rfl, h1, ?_⟩⟩
      refine ⟨_, rfl, p, _, _, _, rfl, rfl, hs, rfl, _, rfl, _, _, rfl, rfl, ⟨h1, h2⟩, _, rfl, p, _, _, 0, rfl, rfl, hp, rfl, ?_⟩
      exact ⟨_, rfl, q _ _ (Int.emod_nonneg _ (by omega)) (Int.emod_lt_of_pos _ h1) ⟨_, _, _, upd_same, y0, y1, z0, by omega⟩ fun b o hb e => by rw [upd_ne hb]; exact e⟩
    · refine ⟨_, rfl, p, _, _, _, rfl, rfl, hs, rfl, _, _, rfl, rfl, _, rfl, p, _, _, 2, rfl, rfl, hp, rfl, ?_⟩
      have hs2 := Evl.sq_of (K := K) (upd_same (H := H) (a := p) (o := .lst [.int x, .int y, .int (z + 1)]))
      refine ⟨sz (by simp), ?_⟩
      have hu : upd H p (.lst [.int x, .int y, .int (z + 1)]) p = some (.lst [.int x, .int y, .int (z + 1)]) := upd_same
      have ou : ∀ b, b ≠ p → upd H p (.lst [.int x, .int y, .int (z + 1)]) b = H b := fun b hb => upd_ne hb
      have e3 : upd H p (.lst ([V.int x, V.int y, V.int z].set 2 ((fun i j => V.int (i + j)) z 1))) = upd H p (.lst [.int x, .int y, .int (z + 1)]) := rfl
      rw [e3]
      generalize upd H p (.lst [.int x, .int y, .int (z + 1)]) = H3 at hs2 hu ou
      intro p4 n4
      generalize e4 : upd _ p4 _ = H4
      obtain ⟨x4, s4, o4⟩ := new_of e4 n4
      clear e4
      have hs4 := Evl.sq_of (K := K) (x4 _ _ hu)
      have i0 := Int.emod_nonneg (z + 1) (show (5 : Int) ≠ 0 by decide)
      have i1 := Int.emod_lt_of_pos (z + 1) (show (0 : Int) < 5 by decide)
      obtain ⟨j, hj⟩ : ∃ j : Nat, (z + 1) % 5 = (j : Int) := ⟨((z + 1) % 5).toNat, by omega⟩
      obtain ⟨pr, hpr, pr0, pr1⟩ : ∃ pr : Int, [V.int 2147483629, .int 2147483587, .int 2147483579, .int 2147483563, .int 2147483549][j]? = some (.int pr) ∧ 0 < pr ∧ pr < 2147483648 := by
        have : j = 0 ∨ j = 1 ∨ j = 2 ∨ j = 3 ∨ j = 4 := by omega
        rcases this with rfl | rfl | rfl | rfl | rfl <;> exact ⟨_, rfl, by decide, by decide⟩
      refine ⟨_, rfl, p, _, _, _, rfl, rfl, hs4, rfl, .inl ⟨_, rfl, _, _, rfl, rfl, (show (0 : Int) < 5 by decide), ?_⟩⟩
      refine ⟨p4, _, (j : Int), .int pr, rfl, congrArg V.int hj, Evl.sq_of s4, atI_nat hpr, ?_⟩
      refine ⟨_, rfl, p, _, _, _, rfl, rfl, hs4, rfl, _, rfl, p, _, _, _, rfl, rfl, hs4, rfl, _, _, rfl, rfl, .inl (by show (-(2 ^ 64) < (5413 : Int) ∧ (5413 : Int) < 2 ^ 64); decide), _, _, rfl, rfl, _, _, rfl, rfl, _, _, rfl, rfl, ⟨by decide, by decide, by show (y + 5413 * (z + 1) + 23).natAbs < 2 ^ 64; omega⟩, .inl ⟨_, rfl, _, rfl, _, _, rfl, rfl, pr0, ?_⟩⟩
      generalize (y + 5413 * (z + 1) + 23) ^ (3 : Int).toNat = r1
      have b1 := Int.emod_nonneg r1 (show pr ≠ 0 by omega)
      have b2 := Int.emod_lt_of_pos r1 pr0
      refine ⟨_, rfl, _, rfl, p, _, _, _, rfl, rfl, hs4, rfl, _, _, rfl, rfl, _, rfl, _, _, rfl, rfl, (by first | (show (0 : Int) < _; decide) | (show (0 : Int) < _ ∧ _ < (1073741824 : Int); decide)), _, _, rfl, rfl, _, _, rfl, rfl, .inr ?_, .inl ⟨_, rfl, _, rfl, _, _, rfl, rfl, pr0, ?_⟩⟩
      · have : r1 % pr / 1013 ≤ r1 % pr := Int.ediv_le_self _ b1
        have : 0 ≤ r1 % pr / 1013 := Int.ediv_nonneg b1 (by decide)
        constructor <;> omega
      generalize (r1 % pr + (z + 1)) * (r1 % pr / 1013 + 69001) = r2
      have b3 := Int.emod_nonneg r2 (show pr ≠ 0 by omega)
      have b4 := Int.emod_lt_of_pos r2 pr0
      refine ⟨_, rfl, _, rfl, _, _, rfl, rfl, (by first | (show (0 : Int) < _; decide) | (show (0 : Int) < _ ∧ _ < (1073741824 : Int); decide)), _, _, rfl, rfl, _, rfl, p, _, _, _, rfl, rfl, hs4, rfl, _, _, rfl, rfl, _, _, rfl, rfl, .inl (by constructor <;> omega), .inl ⟨_, rfl, _, _, rfl, rfl, (by first | (show (0 : Int) < _; decide) | (show (0 : Int) < _ ∧ _ < (1073741824 : Int); decide)), ?_⟩⟩
      refine ⟨_, rfl, _, _, rfl, rfl, (by first | (show (0 : Int) < _; decide) | (show (0 : Int) < _ ∧ _ < (1073741824 : Int); decide)), .inl ⟨_, rfl, _, rfl, _, _, rfl, rfl, h1, ?_⟩⟩
      exact q _ _ (Int.emod_nonneg _ (by omega)) (Int.emod_lt_of_pos _ h1) ⟨_, _, _, x4 _ _ hu, y0, y1, by omega, by omega⟩ fun b o hb e => x4 _ _ (by rw [ou b hb]; exact e)
abbrev N_law_choice : List Str := ["_law_source_here", "_law_items"]
theorem sc_law_choice : FnScope N_law_choice ["_law_source_here", "_law_items"] (defScope sd_law_choice) := ⟨rfl, rfl, rfl, by decide +kernel, rfl, by decide +kernel, by decide +kernel⟩
theorem ok_law_choice (T : Tx w h K mg) : Ok P w K mg base 2 ("_law_choice", none) ["_law_source_here", "_law_items"] (sp_choiceB K) := by
  obtain ⟨fd, F⟩ := F_law_choice T
  refine ⟨fd, ?_, F.bindsN (fun _ _ _ _ _ _ us hl => match us, hl with | [_, _], _ => rfl), F.kp⟩
  obtain ⟨fd_law_draw, G_law_draw, bi_law_draw, kp_law_draw⟩ := ok_law_draw (P := P) (base := base) T
  refine F.ok sc_law_choice (fun vs H Q E h => ?_) (fun cdv A outer s H vs Q E hr h => ?_)
  · obtain ⟨p, a, n, xs, rfl, hp, hn, ha, hne, hk, hl, q⟩ := h
    rfl
  · obtain ⟨p, a, n, xs, rfl, hp, hn, ha, hne, hk, hl, q⟩ := h
    refine ⟨_, PSs.nox (pss_one (ps_ret (pe_ix ix_list (pv 1) (pe_call G_law_draw (hr.mono (by decide)) rfl (g_law_draw T) kp_law_draw bi_law_draw .nil passF (pa_cons (pv 0) (pa_cons (pe_callB call_len_seq rfl (fr_len T) b_len (pa_cons (pv 1) pa_nil)) pa_nil))) (fun _ _ => rfl)))), ?_⟩
    have lk : 0 < xs.length := List.length_pos_iff.mpr hk
    refine ⟨_, rfl, _, rfl, _, rfl, a, _, rfl, .inl (Evl.sq_of ha), ?_⟩
    refine ⟨p, n, _, rfl, hp, hn, (by omega), (by omega), fun v H1 v0 v1 s1 o1 => ?_⟩
    obtain ⟨j, rfl⟩ : ∃ j : Nat, v = (j : Int) := ⟨v.toNat, by omega⟩
    have hj : j < xs.length := by omega
    refine ⟨a, _, _, xs[j], rfl, rfl, Evl.sq_of (o1 a _ hne ha), atI_nat (List.getElem?_eq_getElem hj), ?_⟩
    exact q H1 _ (List.getElem_mem hj) s1 o1
abbrev N_law_name : List Str := ["_law_source_here"]
theorem sc_law_name : FnScope N_law_name ["_law_source_here"] (defScope sd_law_name) := ⟨rfl, rfl, rfl, by decide +kernel, rfl, by decide +kernel, by decide +kernel⟩
theorem ok_law_name (T : Tx w h K mg) : Ok P w K mg base 3 ("_law_name", none) ["_law_source_here"] (sp_nameB) := by
  obtain ⟨fd, F⟩ := F_law_name T
  refine ⟨fd, ?_, F.bindsN (fun _ _ _ _ _ _ us hl => match us, hl with | [_], _ => rfl), F.kp⟩
  obtain ⟨fd_law_choice, G_law_choice, bi_law_choice, kp_law_choice⟩ := ok_law_choice (P := P) (base := base) T
  refine F.ok sc_law_name (fun vs H Q E h => ?_) (fun cdv A outer s H vs Q E hr h => ?_)
  · obtain ⟨p, n, rfl, hp, hn, q⟩ := h
    rfl
  · obtain ⟨p, n, rfl, hp, hn, q⟩ := h
    refine ⟨_, PSs.nox (pss_one (ps_ret (pe_call G_law_choice (hr.mono (by decide)) rfl (g_law_choice T) kp_law_choice bi_law_choice .nil passF (pa_cons (pv 0) (pa_cons (pe_lst (pa_cons pe_str (pa_cons pe_str (pa_cons pe_str (pa_cons pe_str (pa_cons pe_str (pa_cons pe_str (pa_cons pe_str (pa_cons pe_str pa_nil))))))))) pa_nil))))), ?_⟩
    refine ⟨_, rfl, sz (by simp), ?_⟩
    intro p1 n1
    generalize e1 : upd _ p1 _ = H1
    obtain ⟨x1, s1, o1⟩ := new_of e1 n1
    clear e1
    have pn : p1 ≠ p := fun z => by obtain ⟨_, _, _, h, _⟩ := hp; rw [z, h] at n1; cases n1
    refine ⟨p, p1, n, nmB.map V.str, rfl, hp.kp fun o h => x1 _ _ h, hn, s1, pn, (by simp [nmB]), (by simp [nmB]), fun H2 x hx s2 o2 => ?_⟩
    obtain ⟨nm, hm, rfl⟩ := List.mem_map.mp hx
    exact q H2 nm hm s2 fun b o hb e => o2 b o hb (x1 _ _ e)
end
end Fc
set_option maxRecDepth 100000
set_option maxHeartbeats 4000000
namespace Fc
open PySem PySem.Spec PyProof.Rows L2 FcR
open Evl (Ex)
theorem ne_srcQ {H : Hp} {p b : Addr} {n : Nat} (h : SrcB H p n) (e : H b = none) : b ≠ p := fun z => by
  obtain ⟨_, _, _, h, _⟩ := h
  rw [z, h] at e
  cases e
theorem nf_to {xs : List V} {a : Nat} (h : a < xs.length) : ¬ (HT.sIx xs.length 0 none = 0 ∧ HT.sIx xs.length xs.length (some (a : Int)) = xs.length) := by
  rintro ⟨_, z⟩
  rw [HT.sIx_nat] at z
  omega
theorem nf_from {xs : List V} {a : Nat} (h : 0 < a) (h2 : 0 < xs.length) : ¬ (HT.sIx xs.length 0 (some (a : Int)) = 0 ∧ HT.sIx xs.length xs.length none = xs.length) := by
  rintro ⟨z, _⟩
  rw [HT.sIx_nat] at z
  omega
theorem badIT {K : PySem.W.Frag} {H : Hp} {u : V} {n : Nat} {T : String} (hT : T = "NoneType" ∨ T = "list" ∨ T = "tuple" ∨ T = "dict") (ty : ∀ H', Ex H H' → TyX K H' u (.type T)) : BadI K H n u := by
  rcases hT with rfl | rfl | rfl | rfl <;> exact .ty (b1 := false) (b2 := false) ty (kit_ty (by decide +kernel)) (kit_ty (by decide +kernel)) (kit_ty (by decide +kernel)) rfl
theorem badIB {K : PySem.W.Frag} {H : Hp} {n : Nat} (x : Bool) : BadI K H n (.bl x) := .ty (fun _ _ => .base (.bl x)) (kit_ty (show kitB "bool" "str" = some false by decide +kernel)) (kit_ty (show kitB "bool" "int" = some true by decide +kernel)) (kit_ty (show kitB "bool" "bool" = some true by decide +kernel)) rfl
theorem odd44 {K : PySem.W.Frag} {H : Hp} {m : Nat} {p2 p3 p4 p5 : Addr} (m2 : m ≤ 200) (k2 : H p2 = some (.lst [.int 0])) (k3 : H p3 = some (.dK [])) (k4 : H p4 = some (.tup [.int 0])) (k5 : H p5 = some (.lst [.str "end"])) : ∀ x ∈ [V.int (m : Int), .int ((m : Int) + 1), .int (-1), .bl true, .bl false, .non, .str "stop", .str "End", .str "wait", .str "", .str "0", .ref p2, .ref p3, .ref p4, .ref p5, .int (10 ^ 30)], BadI K H m x := fun x hx => by
  simp only [List.mem_cons, List.not_mem_nil, or_false] at hx
  rcases hx with rfl | rfl | rfl | rfl | rfl | rfl | rfl | rfl | rfl | rfl | rfl | rfl | rfl | rfl | rfl | rfl
  · exact .int (by simp; omega)
  · exact .int (by simp; omega)
  · exact .int (by simp)
  · exact badIB _
  · exact badIB _
  · exact badIT (.inl rfl) fun _ _ => .base .non
  · exact .str (by decide +kernel)
  · exact .str (by decide +kernel)
  · exact .str (by decide +kernel)
  · exact .str (by decide +kernel)
  · exact .str (by decide +kernel)
  · exact badIT (.inr (.inl rfl)) fun _ e => ty_lst (Evl.sq_of (e _ _ k2))
  · exact badIT (.inr (.inr (.inr rfl))) fun _ e => .base (.dK (e _ _ k3))
  · exact badIT (.inr (.inr (.inl rfl))) fun _ e => ty_tup (SqT.of (e _ _ k4))
  · exact badIT (.inr (.inl rfl)) fun _ e => ty_lst (Evl.sq_of (e _ _ k5))
  · have h30 : (400 : Int) < 10 ^ 30 := by decide
    refine .int ?_
    rw [decide_eq_false (p := (10 : Int) ^ 30 ≤ (m : Int) - 1) (by omega)]
    simp
theorem itB_set {K : PySem.W.Frag} {H : Hp} {n : Nat} : ∀ {ys : List Itm} {v : Nat} {x : V}, (∀ y ∈ ys, ItOk n y) → v < ys.length → BadI K H n x → ∃ bs, Paired (ItB K H n) ((ys.map itV).take v ++ x :: (ys.map itV).drop (v + 1)) bs ∧ bs.all id = false
  | y :: ys, 0, x, h, _, b => ⟨false :: List.replicate ys.length true, .cons (.inr ⟨rfl, b⟩) (itB_of fun z hz => h z (List.mem_cons_of_mem _ hz)), rfl⟩
  | y :: ys, v + 1, x, h, l, b => by
    obtain ⟨bs, h1, h2⟩ := itB_set (ys := ys) (v := v) (x := x) (fun z hz => h z (List.mem_cons_of_mem _ hz)) (by simpa using l) b
    exact ⟨true :: bs, .cons (.inl ⟨rfl, y, rfl, h y List.mem_cons_self⟩) h1, by rw [List.all_cons, h2] <;> rfl⟩
theorem row_take {r : TRow} (v : Nat) : (rowV r).take (1 + v) = .int (r.1 : Int) :: (r.2.map itV).take v := by
  rw [Nat.add_comm]
  rfl
theorem catT_any {K : PySem.W.Frag} {a b : Addr} {xs ys : List V} {H : Hp} {Q : VK} (ha : SqT K H a xs) (hb : SqT K H b ys) (hne : xs ≠ []) (sz : (xs ++ ys).length ≤ sizeLine) (h : ∀ (z : Addr) (H' : Hp), Ex H H' → SqT K H' z (xs ++ ys) → Q (.ref z) H') : rCatT K (.ref a) (.ref b) H Q := by
  refine ⟨a, b, _, _, rfl, rfl, ha, hb, hne, by rw [← List.length_append]; exact sz, ⟨fun z => h a H (Evl.Ex.refl _) (by rw [z, List.append_nil]; exact ha), fun _ => ?_⟩⟩
  intro p1 n1
  generalize e1 : upd _ p1 _ = H1
  obtain ⟨x1, s1, o1⟩ := new_of e1 n1
  clear e1
  exact h p1 H1 x1 (SqT.of s1)
/-- what is kept out of a frozen heap -/
structure MOk (M : Addr → Prop) (H : Hp) (p : Addr) : Prop where
  p : M p
  ob : ∀ b, M b → (∃ l, H b = some (.lst l)) ∨ ∃ ps, H b = some (.tbl ps)
theorem MOk.kp {M : Addr → Prop} {H H' : Hp} {p : Addr} {n : Nat} (m : MOk M H p) (k : ∀ b o, b ≠ p → H b = some o → H' b = some o) (s : SrcB H' p n) : MOk M H' p :=
  ⟨m.p, fun b hb => by
    by_cases e : b = p
    · obtain ⟨_, _, _, h, _⟩ := s
      rw [e]
      exact .inl ⟨_, h⟩
    · rcases m.ob b hb with ⟨l, h⟩ | ⟨ps, h⟩
      · exact .inl ⟨l, k b _ e h⟩
      · exact .inr ⟨ps, k b _ e h⟩⟩
theorem MOk.new {M : Addr → Prop} {H : Hp} {p b : Addr} (m : MOk M H p) (n : H b = none) : ¬ M b := fun z => by
  rcases m.ob b z with ⟨l, h⟩ | ⟨ps, h⟩ <;> (rw [n] at h; cases h)
theorem MOk.sqt {K : PySem.W.Frag} {M : Addr → Prop} {H F : Hp} {p t : Addr} {xs : List V} (m : MOk M H p) (z : ∀ b, ¬ M b → F b = H b) (h : SqT K H t xs) : SqT K F t xs := by
  rcases h with h | h
  · refine .inl ?_
    have nm : ∀ {o : HO}, H t = some o → (∀ l, o ≠ .lst l) → (∀ ps, o ≠ .tbl ps) → ¬ M t := fun {o} e n1 n2 y => by
      rcases m.ob t y with ⟨l, h⟩ | ⟨ps, h⟩
      · rw [e] at h; exact n1 l (Option.some.inj h)
      · rw [e] at h; exact n2 ps (Option.some.inj h)
    rcases h with h | ⟨ob, h⟩
    · exact .inl (by rw [z t (nm h (fun l y => by cases y) (fun ps y => by cases y))]; exact h)
    · exact .inr ⟨ob, by rw [z t (nm h (fun l y => by cases y) (fun ps y => by cases y))]; exact h⟩
  · exact .inr h
open Classical in
theorem frzQ (H : Hp) (X : Addr → Prop) : ∃ F : Hp, (∀ b, X b → F b = none) ∧ (∀ b, ¬ X b → F b = H b) ∧ Ex F H := by
  refine ⟨fun b => if X b then none else H b, fun b h => if_pos h, fun b h => if_neg h, fun b o e => ?_⟩
  have e : (if X b then none else H b) = some o := e
  by_cases h : X b
  · rw [if_pos h] at e; cases e
  · rw [if_neg h] at e; exact e
def sp_oddi44 (K : PySem.W.Frag) : Sp := fun vs H Q _ => ∃ (rows : List Row) (p t : Addr) (n m : Nat) (r : TRow), vs = [.ref p, .ref t, .int (m : Int)] ∧ RowAt K H t r ∧ H t = some (.tup (rowV r)) ∧ TV rows m r ∧ r.1 ∈ plN rows ∧ SrcB H p n ∧ n ≤ 900000000 ∧ 1 ≤ m ∧ m ≤ 200 ∧ ∃ M : Addr → Prop, MOk M H p ∧
  ∀ (F' H' : Hp) (x : V), (∀ b o, b ≠ p → H b = some o → H' b = some o) → SrcB H' p (n + 8) → Ex F' H' → (∀ b, M b → F' b = none) → BadR K F' rows m x → Q x H'
def sp_row44 (K : PySem.W.Frag) : Sp := fun vs H Q _ => ∃ (F : Hp) (A : CAd) (rows : List Row) (p : Addr) (n m : Nat), vs = [.ref p, .ref A.p, .int (m : Int)] ∧ CodeH K F F A rows ∧ Ex F H ∧ F p = none ∧ rows.length ≤ 400 ∧ plN rows ≠ [] ∧ SrcB H p n ∧ n ≤ 900000000 ∧ 1 ≤ m ∧ m ≤ 200 ∧
  ∀ (H' : Hp) (t : Addr) (r : TRow), (∀ b o, b ≠ p → H b = some o → H' b = some o) → SrcB H' p (n + 8) → H t = none → H' t = some (.tup (rowV r)) → TV rows m r → Q (.ref t) H'
section
variable {P : Program} {w : World} {h : Heap} {K : PySem.W.Frag} {mg : Str → Option Value} {base : Heap}
abbrev N_law_row : List Str := ["_law_source_here", "_law_program", "_law_many", "_law_place", "_law_items"]
theorem sc_law_row : FnScope N_law_row ["_law_source_here", "_law_program", "_law_many"] (defScope sd_law_row) := ⟨rfl, rfl, rfl, by decide +kernel, rfl, by decide +kernel, by decide +kernel⟩
theorem ok_law_row (T : Tx w h K mg) : Ok P w K mg base 8 ("_law_row", none) ["_law_source_here", "_law_program", "_law_many"] (sp_row44 K) := by
  obtain ⟨fd, F⟩ := F_law_row T
  refine ⟨fd, ?_, F.bindsN (fun _ _ _ _ _ _ us hl => match us, hl with | [_, _, _], _ => rfl), F.kp⟩
  obtain ⟨fd_law_choice, G_law_choice, bi_law_choice, kp_law_choice⟩ := ok_law_choice (P := P) (base := base) T
  obtain ⟨fd_law_draw, G_law_draw, bi_law_draw, kp_law_draw⟩ := ok_law_draw (P := P) (base := base) T
  obtain ⟨fd_Code_kind, G_Code_kind, bi_Code_kind, kp_Code_kind⟩ := ok_Code_kind (P := P) (base := base) T
  obtain ⟨fd_Code_places, G_Code_places, bi_Code_places, kp_Code_places⟩ := ok_Code_places (P := P) (base := base) T
  refine F.ok sc_law_row (fun vs H Q E h => ?_) (fun cdv A outer s H vs Q E hr h => ?_)
  · obtain ⟨F, A, rows, p, n, m, rfl, C, xF, fp, hl, pne, hp, hn, m1, m2, q⟩ := h
    rfl
  · obtain ⟨F, A, rows, p, n, m, rfl, C, xF, fp, hl, pne, hp, hn, m1, m2, q⟩ := h
    refine ⟨_, PSs.nox (pss_cons (ps_set (i := 3) sc_law_row.nd rfl (Or.inl rfl) (pe_call G_law_choice (hr.mono (by decide)) rfl (g_law_choice T) kp_law_choice bi_law_choice .nil passF (pa_cons (pv 0) (pa_cons (pe_meth0 (pv 1) (c_Code T) (me_Code_places T) G_Code_places (hr.mono (by decide)) bi_Code_places .nil passF) pa_nil)))) (pss_cons (ps_set (i := 4) sc_law_row.nd rfl (Or.inl rfl) (pe_lst (pa_cons (pe_call G_law_choice (hr.mono (by decide)) rfl (g_law_choice T) kp_law_choice bi_law_choice .nil passF (pa_cons (pv 0) (pa_cons (pe_lst (pa_cons (pe_call G_law_draw (hr.mono (by decide)) rfl (g_law_draw T) kp_law_draw bi_law_draw .nil passF (pa_cons (pv 0) (pa_cons (pv 2) pa_nil))) (pa_cons pe_int (pa_cons (pe_op op_sub (pv 2) pe_int) (pa_cons pe_str (pa_cons pe_str (pa_cons pe_str pa_nil))))))) pa_nil))) pa_nil))) (Evl.pss_cut (ps_if (pt_cmpR op_in_seq (pe_meth (pv 1) (c_Code T) (me_Code_kind T) G_Code_kind (hr.mono (by decide)) bi_Code_kind .nil passF (pa_cons (pv 3) pa_nil)) (pe_tup (pa_cons pe_str (pa_cons pe_str (pa_cons pe_str pa_nil)))) (by rfl)) (pss_one (ps_expr (pe_bm PySem.F.plainAttrs_list PySem.F.slot_list_append PySem.F.type_list_append mt_append (pv 4) (pa_cons (pe_call G_law_choice (hr.mono (by decide)) rfl (g_law_choice T) kp_law_choice bi_law_choice .nil passF (pa_cons (pv 0) (pa_cons (pe_lst (pa_cons (pe_op op_sub (pv 2) pe_int) (pa_cons pe_str (pa_cons pe_int pa_nil)))) pa_nil))) pa_nil)))) pss_nil) (pss_one (ps_ret (pe_op op_catT (pe_tup (pa_cons (pv 3) pa_nil)) (pe_callTy call_tuple_of rfl (fr_tuple T) b_tuple (pa_cons (pv 4) pa_nil)))))))), ?_⟩
    obtain ⟨vs0, C0, _⟩ := C.ex (Evl.Ex.refl _) xF
    have nH : ∀ {b : Addr} {Hq : Hp} {k : Nat}, (∀ b o, b ≠ p → H b = some o → Hq b = some o) → SrcB Hq p k → Hq b = none → H b = none := fun {b Hq k} kf s e => by
      cases z : H b with
      | none => rfl
      | some o =>
        have bp := ne_srcQ s e
        rw [kf b o bp z] at e
        cases e
    refine ⟨_, rfl, _, rfl, A.p, _, _, rfl, C0.ob, fm_Code_places _ _ _ _ _, F, A, rows, rfl, C, xF, hl, fun H1 a1 x1 na1 s1 => ?_⟩
    have hp1 : SrcB H1 p n := hp.kp fun o h => x1 _ _ h
    have a1p : a1 ≠ p := ne_srcQ hp na1
    have pll : (intsV (plN rows)).length ≤ 400 := by
      have := pl_len rows rows.length
      show ((plN rows).map _).length ≤ 400
      rw [List.length_map]
      unfold plN
      omega
    have pne' : intsV (plN rows) ≠ [] := fun z => pne (List.map_eq_nil_iff.mp z)
    refine ⟨p, a1, n, _, rfl, hp1, by omega, s1, a1p, pne', by omega, fun H2 x hx s2 o2 => ?_⟩
    obtain ⟨pl, hpl, rfl⟩ := List.mem_map.mp hx
    have plb := (List.mem_filter.mp hpl).2
    have pll2 : pl < rows.length := List.mem_range.mp (List.mem_filter.mp hpl).1
    obtain ⟨r, hr⟩ := row_at pll2
    have k2 : ∀ b o, b ≠ p → H b = some o → H2 b = some o := fun b o nb e => o2 b o nb (x1 _ _ e)
    refine ⟨_, rfl, _, rfl, _, rfl, p, n + 1, _, rfl, s2, by omega, by omega, by omega, fun v3 H3 v30 v31 s3 o3 => ?_⟩
    refine ⟨_, rfl, _, _, rfl, rfl, sz (by simp), ?_⟩
    have k3 : ∀ b o, b ≠ p → H b = some o → H3 b = some o := fun b o nb e => o3 b o nb (k2 b o nb e)
    intro p4 n4
    generalize e4 : upd _ p4 _ = H4
    obtain ⟨x4, s4, o4⟩ := new_of e4 n4
    clear e4
    have s4' := s3.kp fun o h => x4 _ _ h
    have p4p := ne_srcQ s3 n4
    have items : ∀ y ∈ [V.int v3, .int 0, .int ((m : Int) - 1), .str "end", .str "return", .str "raise"], ∃ z, y = itV z ∧ ItOk m z := fun y hy => by
      have num : ∀ v : Int, 0 ≤ v → v < (m : Int) → ∃ z, V.int v = itV z ∧ ItOk m z := fun v h1 h2 => ⟨.inl v.toNat, congrArg V.int (by omega), .inl ⟨_, rfl, by omega⟩⟩
      simp only [List.mem_cons, List.not_mem_nil, or_false] at hy
      rcases hy with rfl | rfl | rfl | rfl | rfl | rfl
      · exact num _ v30 v31
      · exact num _ (by omega) (by omega)
      · exact num _ (by omega) (by omega)
      · exact ⟨.inr "end", rfl, .inr ⟨_, rfl, by simp [endsL]⟩⟩
      · exact ⟨.inr "return", rfl, .inr ⟨_, rfl, by simp [endsL]⟩⟩
      · exact ⟨.inr "raise", rfl, .inr ⟨_, rfl, by simp [endsL]⟩⟩
    refine ⟨p, p4, n + 2, _, rfl, s4', by omega, s4, p4p, (fun z => by cases z), (by simp), fun H5 y hy s5 o5 => ?_⟩
    obtain ⟨z, rfl, zok⟩ := items y hy
    have k5 : ∀ b o, b ≠ p → H b = some o → H5 b = some o := fun b o nb e => o5 b o nb (x4 _ _ (k3 b o nb e))
    refine ⟨sz (by simp), ?_⟩
    intro p6 n6
    generalize e6 : upd _ p6 _ = H6
    obtain ⟨x6, s6, o6⟩ := new_of e6 n6
    clear e6
    have s6' := s5.kp fun o h => x6 _ _ h
    have k6 : ∀ b o, b ≠ p → H b = some o → H6 b = some o := fun b o nb e => x6 _ _ (k5 b o nb e)
    have p6p := ne_srcQ s5 n6
    have p6H := nH k5 s5 n6
    have xF6 : Ex F H6 := fun b o e => k6 b o (fun z => by rw [z, fp] at e; cases e) (xF b o e)
    obtain ⟨vs6, C6, _⟩ := C.ex (Evl.Ex.refl _) xF6
    have ek : kdR rows pl = kindD r.d := by unfold kdR; rw [List.getD_eq_getElem?_getD, hr] <;> rfl
    refine ⟨fun σ' H' => ∃ zs : List Itm, σ' = [some (.ref p), some (.ref A.p), some (.int (m : Int)), some (.int (pl : Int)), some (.ref p6)] ∧ (∀ b o, b ≠ p → b ≠ p6 → H b = some o → H' b = some o) ∧ SrcB H' p (n + 8) ∧ H' p6 = some (.lst (zs.map itV)) ∧ TV rows m (pl, zs), ?_, ?_⟩
    · refine ⟨_, rfl, A.p, _, _, rfl, C6.ob, fm_Code_kind _ _ _ _ _, _, rfl, F, A, rows, pl, r, rfl, C, xF6, hr, ?_⟩
      refine ⟨sz (by simp), ?_⟩
      intro p7 n7
      generalize e7 : upd _ p7 _ = H7
      obtain ⟨x7, s7, o7⟩ := new_of e7 n7
      clear e7
      have e7 : inV (.str (kindD r.d)) [.str "call", .str "if", .str "while"] = decide (kindD r.d ∈ askL) := inV_strs _ askL
      refine ⟨p7, _, rfl, .inr (SqT.of s7), rfl, flat_strs askL, _, rfl, ?_⟩
      rw [e7]
      have s7' := s6'.kp fun o h => x7 _ _ h
      refine ite_of (fun c => ?_) (fun c => ?_)
      · have c : kindD r.d ∈ askL := of_decide_eq_true c
        have l7 := x7 _ _ s6
        refine ⟨_, rfl, .inl ⟨rfl, _, Evl.sq_of l7⟩, _, rfl, _, rfl, _, _, rfl, rfl, sz (by simp), ?_⟩
        intro p8 n8
        generalize e8 : upd _ p8 _ = H8
        obtain ⟨x8, s8, o8⟩ := new_of e8 n8
        clear e8
        have s8' := s7'.kp fun o h => x8 _ _ h
        refine ⟨p, p8, n + 3, _, rfl, s8', by omega, s8, ne_srcQ s7' n8, (fun z => by cases z), (by simp), fun H9 y hy s9 o9 => ?_⟩
        obtain ⟨z2, rfl, zok2⟩ : ∃ z, y = itV z ∧ ItOk m z := by
          simp only [List.mem_cons, List.not_mem_nil, or_false] at hy
          rcases hy with rfl | rfl | rfl
          · exact items _ (by simp)
          · exact items _ (by simp)
          · exact items _ (by simp)
        have l9 := o9 _ _ p6p (x8 _ _ l7)
        refine ⟨p6, _, _, rfl, rfl, l9, szl (by simp), ?_⟩
        generalize e10 : upd _ p6 _ = H10
        obtain ⟨s10, o10⟩ := set_of e10
        clear e10
        refine ⟨[z, z2], rfl, fun b o nb n6' e => (o10 b n6').trans (o9 _ _ nb (x8 _ _ (x7 _ _ (k6 b o nb e)))), (s9.kp fun o h => (o10 p (Ne.symm p6p)).trans h).up (by omega), s10, plb, ?_, fun y hy => ?_⟩
        · show 2 = 1 + _
          rw [ek, if_pos c]
        · simp only [List.mem_cons, List.not_mem_nil, or_false] at hy
          rcases hy with rfl | rfl
          · exact zok
          · exact zok2
      · have c : ¬ kindD r.d ∈ askL := of_decide_eq_false c
        refine ⟨[z], rfl, fun b o nb _ e => x7 _ _ (k6 b o nb e), s7'.up (by omega), x7 _ _ s6, plb, ?_, fun y hy => ?_⟩
        · show 1 = 1 + _
          rw [ek, if_neg c]
        · rw [List.mem_singleton.mp hy]
          exact zok
    rintro σ' H11 ⟨zs, rfl, k11, s11, l11, tv⟩
    refine ⟨_, rfl, sz (by simp), ?_⟩
    intro p12 n12
    generalize e12 : upd _ p12 _ = H12
    obtain ⟨x12, s12, o12⟩ := new_of e12 n12
    clear e12
    refine ⟨_, rfl, p6, _, rfl, .inl ⟨Evl.sq_of (x12 _ _ l11), ?_⟩⟩
    intro p13 n13
    generalize e13 : upd _ p13 _ = H13
    obtain ⟨x13, s13, o13⟩ := new_of e13 n13
    clear e13
    have zne : zs ≠ [] := fun z => by have := tv.ln; rw [z] at this; simp at this; omega
    have zle : zs.length ≤ 2 := by have := tv.ln; rw [show zs.length = _ from this]; split <;> decide
    refine ⟨p12, p13, _, _, rfl, rfl, SqT.of (x13 _ _ s12), SqT.of s13, (fun z => by cases z), sz (by simp; omega), ⟨fun z => absurd (List.map_eq_nil_iff.mp z) zne, fun _ => ?_⟩⟩
    intro p14 n14
    generalize e14 : upd _ p14 _ = H14
    obtain ⟨x14, s14, o14⟩ := new_of e14 n14
    clear e14
    have x114 := x12.trans (x13.trans x14)
    have k13 : ∀ b o, b ≠ p → H b = some o → H13 b = some o := fun b o nb e => x13 _ _ (x12 _ _ (k11 b o nb (fun z => by rw [z, p6H] at e; cases e) e))
    have s13' := s11.kp fun o h => x13 _ _ (x12 _ _ h)
    refine q H14 p14 (pl, zs) (fun b o nb e => x14 _ _ (k13 b o nb e)) (s13'.kp fun o h => x14 _ _ h) (nH k13 s13' n14) ?_ tv
    rw [s14]
    rfl
abbrev N_law_odd_item : List Str := ["_law_source_here", "_law_row_here", "_law_many", "_law_at", "_law_odd", "_law_some", "_law_thing"]
theorem sc_law_odd_item : FnScope N_law_odd_item ["_law_source_here", "_law_row_here", "_law_many"] (defScope sd_law_odd_item) := ⟨rfl, rfl, rfl, by decide +kernel, rfl, by decide +kernel, by decide +kernel⟩
theorem ok_law_odd_item (T : Tx w h K mg) : Ok P w K mg base 8 ("_law_odd_item", none) ["_law_source_here", "_law_row_here", "_law_many"] (sp_oddi44 K) := by
  obtain ⟨fd, F⟩ := F_law_odd_item T
  refine ⟨fd, ?_, F.bindsN (fun _ _ _ _ _ _ us hl => match us, hl with | [_, _, _], _ => rfl), F.kp⟩
  obtain ⟨fd_law_choice, G_law_choice, bi_law_choice, kp_law_choice⟩ := ok_law_choice (P := P) (base := base) T
  obtain ⟨fd_law_draw, G_law_draw, bi_law_draw, kp_law_draw⟩ := ok_law_draw (P := P) (base := base) T
  refine F.ok sc_law_odd_item (fun vs H Q E h => ?_) (fun cdv A outer s H vs Q E hr h => ?_)
  · obtain ⟨rows, p, t, n, m, r, rfl, rt, ht, tv, hp0, hp, hn, m1, m2, M, mok, q⟩ := h
    rfl
  · obtain ⟨rows, p, t, n, m, r, rfl, rt, ht, tv, hp0, hp, hn, m1, m2, M, mok, q⟩ := h
    refine ⟨_, PSs.nox (pss_cons (ps_set (i := 3) sc_law_odd_item.nd rfl (Or.inr rfl) (pe_op op_add pe_int (pe_call G_law_draw (hr.mono (by decide)) rfl (g_law_draw T) kp_law_draw bi_law_draw .nil passF (pa_cons (pv 0) (pa_cons (pe_op op_sub (pe_callB call_len_seq rfl (fr_len T) b_len (pa_cons (pv 1) pa_nil)) pe_int) pa_nil))))) (pss_cons (ps_set (i := 4) sc_law_odd_item.nd rfl (Or.inl rfl) (pe_lst (pa_cons (pv 2) (pa_cons (pe_op op_add (pv 2) pe_int) (pa_cons (pe_un un_neg pe_int) (pa_cons pe_bl (pa_cons pe_bl (pa_cons pe_non (pa_cons pe_str (pa_cons pe_str (pa_cons pe_str (pa_cons pe_str (pa_cons pe_str (pa_cons (pe_lst (pa_cons pe_int pa_nil)) (pa_cons pe_dnewK (pa_cons (pe_tup (pa_cons pe_int pa_nil)) (pa_cons (pe_lst (pa_cons pe_str pa_nil)) (pa_cons (pe_op op_pow pe_int pe_int) pa_nil)))))))))))))))))) (pss_cons (ps_setLc (i := 5) (own := [("_law_thing", 6)]) rfl sc_law_odd_item.nd rfl rfl (sw_true rfl rfl rfl (by decide +kernel)) (pi_list (pv 4)) (blkOk_by (N := N_law_odd_item) (sc := defScope sd_law_odd_item) (by decide +kernel)) (fun _ _ _ _ _ => (pg_name (i := 6) sc_law_odd_item.nd rfl (Or.inl rfl))) (fun _ _ _ _ _ => pts_nil) (fun _ _ _ _ _ => (pe_op (show OpR _ _ (rCatT K) from op_catT) (pe_op (show OpR _ _ (rCatT K) from op_catT) (pe_slice (show SlR _ (rSlT K) from sl_tup) (pv 1) po_none (po_some (pv 3))) (pe_tup (pa_cons (pv 6) pa_nil))) (pe_slice (show SlR _ (rSlT K) from sl_tup) (pv 1) (po_some (pe_op op_add (pv 3) pe_int)) po_none)))) (pss_one (ps_ret (pe_call G_law_choice (hr.mono (by decide)) rfl (g_law_choice T) kp_law_choice bi_law_choice .nil passF (pa_cons (pv 0) (pa_cons (pe_op op_cat (pv 5) (pe_lst (pa_cons (pe_op op_catT (pe_slice sl_tup (pv 1) po_none (po_some (pv 3))) (pe_slice sl_tup (pv 1) (po_some (pe_op op_add (pv 3) pe_int)) po_none)) (pa_cons (pe_op op_catT (pe_op op_catT (pe_slice sl_tup (pv 1) po_none (po_some (pv 3))) (pe_tup (pa_cons pe_int pa_nil))) (pe_slice sl_tup (pv 1) (po_some (pv 3)) po_none)) (pa_cons (pe_op op_catT (pv 1) (pe_tup (pa_cons pe_str pa_nil))) pa_nil))))) pa_nil)))))))), ?_⟩
    have c2 : r.2.length ≤ 2 := by rw [tv.ln]; split <;> decide
    have c1 : 1 ≤ r.2.length := by rw [tv.ln]; omega
    have el : (rowV r).length = 1 + r.2.length := by simp [rowV]; omega
    have tp : t ≠ p := fun z => by
      obtain ⟨_, _, _, h, _⟩ := hp
      rw [z, h] at ht; cases ht
    refine ⟨_, rfl, _, rfl, t, _, rfl, .inr rt, ?_⟩
    refine ⟨_, _, rfl, rfl, p, n, _, rfl, hp, by omega, by rw [el]; omega, by rw [el]; omega, fun v1' H1 v10 v11 s1 o1 => ?_⟩
    rw [el] at v11
    obtain ⟨v, rfl⟩ : ∃ v : Nat, v1' = (v : Int) := ⟨v1'.toNat, by omega⟩
    have hv : v < r.2.length := by omega
    refine ⟨_, _, rfl, rfl, ?_⟩
    refine ⟨_, rfl, _, rfl, _, _, rfl, rfl, _, rfl, sz (by simp), ?_⟩
    intro p2 n2
    generalize e2 : upd _ p2 _ = H2
    obtain ⟨x2, s2, o2⟩ := new_of e2 n2
    clear e2
    show ∀ (p3 : Addr), H2 p3 = none → _
    intro p3 n3
    generalize e3 : upd _ p3 _ = H3
    obtain ⟨x3, s3, o3⟩ := new_of e3 n3
    clear e3
    refine ⟨sz (by simp), ?_⟩
    intro p4 n4
    generalize e4 : upd _ p4 _ = H4
    obtain ⟨x4, s4, o4⟩ := new_of e4 n4
    clear e4
    refine ⟨sz (by simp), ?_⟩
    intro p5 n5
    generalize e5 : upd _ p5 _ = H5
    obtain ⟨x5, s5, o5⟩ := new_of e5 n5
    clear e5
    refine ⟨_, _, rfl, rfl, ⟨by decide, by decide, by decide⟩, sz (by simp), ?_⟩
    intro p6 n6
    generalize e6 : upd _ p6 _ = H6
    obtain ⟨x6, s6, o6⟩ := new_of e6 n6
    clear e6
    have x26 : Ex H2 H6 := x3.trans (x4.trans (x5.trans x6))
    have x36 : Ex H3 H6 := x4.trans (x5.trans x6)
    have s2' := x26 _ _ s2
    have s3' := x36 _ _ s3
    have s4' := x6 _ _ (x5 _ _ s4)
    have s5' := x6 _ _ s5
    have ea : (1 : Int) + (v : Int) = ((1 + v : Nat) : Int) := by omega
    have ea2 : (1 : Int) + (v : Int) + 1 = ((v + 2 : Nat) : Int) := by omega
    have k06 : ∀ b o, b ≠ p → H b = some o → H6 b = some o := fun b o nb e => x26 _ _ (x2 _ _ (o1 b o nb e))
    have rt6 : SqT K H6 t (rowV r) := SqT.of (k06 _ _ tp ht)
    have sp6 : SrcB H6 p (n + 1) := s1.kp fun o h => x26 _ _ (x2 _ _ h)
    have n1f : ¬ (HT.sIx (rowV r).length 0 none = 0 ∧ HT.sIx (rowV r).length (rowV r).length (some ((1 : Int) + (v : Int))) = (rowV r).length) := by rw [ea]; exact nf_to (by rw [el]; omega)
    have n2f : ¬ (HT.sIx (rowV r).length 0 (some ((1 : Int) + (v : Int) + 1)) = 0 ∧ HT.sIx (rowV r).length (rowV r).length none = (rowV r).length) := by rw [ea2]; exact nf_from (by omega) (by rw [el]; omega)
    have n3f : ¬ (HT.sIx (rowV r).length 0 (some ((1 : Int) + (v : Int))) = 0 ∧ HT.sIx (rowV r).length (rowV r).length none = (rowV r).length) := by rw [ea]; exact nf_from (by omega) (by rw [el]; omega)
    have cu1 : cutV (rowV r) none (some ((1 : Int) + (v : Int))) = .int (r.1 : Int) :: (r.2.map itV).take v := by rw [ea, cut_to, row_take]
    have cu2 : cutV (rowV r) (some ((1 : Int) + (v : Int) + 1)) none = (r.2.map itV).drop (v + 1) := by rw [ea2, cut_from] <;> rfl
    have cu3 : cutV (rowV r) (some ((1 : Int) + (v : Int))) none = (r.2.map itV).drop v := by rw [ea, cut_from, Nat.add_comm] <;> rfl
    have lz : (r.2.map itV).length = r.2.length := List.length_map ..
    generalize hodd : [V.int (m : Int), .int ((m : Int) + 1), .int (-1), .bl true, .bl false, .non, .str "stop", .str "End", .str "wait", .str "", .str "0", .ref p2, .ref p3, .ref p4, .ref p5, .int (10 ^ 30)] = os
    have s6' : H6 p6 = some (.lst os) := by rw [← hodd]; exact s6
    have ol : os.length = 16 := by rw [← hodd] <;> rfl
    refine ⟨_, rfl, p6, rfl, ⟨_, Evl.sq_of s6'⟩, fun D nD => ?_⟩
    refine lc_it (walk_list (xs := os)) (fun i H' => Ex H6 H' ∧ ∃ zs : List Addr, zs.length = i ∧ H' D = some (.lst (zs.map V.ref)) ∧ ∀ z ∈ zs, ∃ x ∈ os, H' z = some (.tup (.int (r.1 : Int) :: ((r.2.map itV).take v ++ x :: (r.2.map itV).drop (v + 1))))) ?_ ?_ ?_ ?_
    · exact ⟨exu (Evl.Ex.refl _) nD, [], rfl, upd_same, fun z hz => nomatch hz⟩
    · exact fun i H' _ ⟨e, _⟩ => Evl.sq_of (e _ _ s6')
    · rintro i x Ja Jb hi ⟨e, zs, zl, lD, hz⟩ ⟨rfl, hx⟩
      have xm := List.mem_of_getElem? hx
      refine ⟨rfl, _, rfl, ?_⟩
      unfold tNoPart
      refine ⟨_, rfl, _, rfl, t, _, rfl, Evl.ex_t e rt6, n1f, ?_⟩
      intro p7 n7
      generalize e7 : upd _ p7 _ = H7
      obtain ⟨x7, s7, o7⟩ := new_of e7 n7
      clear e7
      rw [cu1] at s7
      refine ⟨_, rfl, sz (by simp), ?_⟩
      intro p8 n8
      generalize e8 : upd _ p8 _ = H8
      obtain ⟨x8, s8, o8⟩ := new_of e8 n8
      clear e8
      refine ⟨p7, p8, _, _, rfl, rfl, SqT.of (x8 _ _ s7), SqT.of s8, (fun z => by cases z), sz (by simp; omega), ⟨fun z => (by cases z), fun _ => ?_⟩⟩
      intro p9 n9
      generalize e9 : upd _ p9 _ = H9
      obtain ⟨x9, s9, o9⟩ := new_of e9 n9
      clear e9
      have x79 := x7.trans (x8.trans x9)
      refine ⟨_, rfl, _, rfl, _, _, rfl, rfl, _, rfl, t, _, rfl, Evl.ex_t (e.trans x79) rt6, n2f, ?_⟩
      intro p10 n10
      generalize e10 : upd _ p10 _ = H10
      obtain ⟨x10, s10, o10⟩ := new_of e10 n10
      clear e10
      rw [cu2] at s10
      have x710 := x79.trans x10
      have app : ∀ (H' : Hp) (z : Addr), Ex H10 H' → H' z = some (.tup (.int (r.1 : Int) :: ((r.2.map itV).take v ++ x :: (r.2.map itV).drop (v + 1)))) → ∃ acc, H' D = some (HO.lst acc) ∧ acc.length < sizeLine ∧ Ex H6 (upd H' D (.lst (acc ++ [V.ref z]))) ∧ ∃ zs : List Addr, zs.length = i + 1 ∧ (upd H' D (.lst (acc ++ [V.ref z]))) D = some (.lst (zs.map V.ref)) ∧ ∀ z' ∈ zs, ∃ x ∈ os, (upd H' D (.lst (acc ++ [V.ref z]))) z' = some (.tup (.int (r.1 : Int) :: ((r.2.map itV).take v ++ x :: (r.2.map itV).drop (v + 1)))) := fun H' z xz hz' => by
        have xx := x710.trans xz
        have lD' := xx _ _ lD
        refine ⟨_, lD', szl (by rw [List.length_map]; omega), exm (e.trans xx) nD, zs ++ [z], by simp; omega, by rw [upd_same, List.map_append] <;> rfl, fun z' hz2 => ?_⟩
        rcases List.mem_append.mp hz2 with h | h
        · obtain ⟨x', h1, h2⟩ := hz z' h
          exact ⟨x', h1, by rw [upd_ne (fun y => by rw [y, lD] at h2; cases h2)]; exact xx _ _ h2⟩
        · rw [List.mem_singleton.mp h]
          exact ⟨x, xm, by rw [upd_ne (fun y => by rw [y, lD'] at hz'; cases hz')]; exact hz'⟩
      refine ⟨p9, p10, _, _, rfl, rfl, SqT.of (x10 _ _ s9), SqT.of s10, (fun z => by cases z), sz (by simp; omega), ⟨fun z => ?_, fun _ => ?_⟩⟩
      · refine app H10 p9 (Evl.Ex.refl _) ?_
        rw [x10 _ _ s9, z]
        rfl
      · intro p11 n11
        generalize e11 : upd _ p11 _ = H11
        obtain ⟨x11, s11, o11⟩ := new_of e11 n11
        clear e11
        refine app H11 p11 x11 ?_
        rw [s11]
        show some (HO.tup (V.int (r.1 : Int) :: (((r.2.map itV).take v ++ [x]) ++ (r.2.map itV).drop (v + 1)))) = _
        rw [List.append_assoc] <;> rfl
    rintro H12 ⟨x12, zs, zl, lD, hz⟩
    have zl16 : zs.length = 16 := by rw [zl, ol]
    have rt12 := Evl.ex_t x12 rt6
    -- one is left out
    refine ⟨_, rfl, _, rfl, _, rfl, ?_⟩
    unfold tNoPart
    refine ⟨_, rfl, _, rfl, t, _, rfl, rt12, n1f, ?_⟩
    intro p13 n13
    generalize e13 : upd _ p13 _ = H13
    obtain ⟨x13, s13, o13⟩ := new_of e13 n13
    clear e13
    rw [cu1] at s13
    refine ⟨_, rfl, _, rfl, _, _, rfl, rfl, _, rfl, t, _, rfl, Evl.ex_t x13 rt12, n2f, ?_⟩
    intro p14 n14
    generalize e14 : upd _ p14 _ = H14
    obtain ⟨x14, s14, o14⟩ := new_of e14 n14
    clear e14
    rw [cu2] at s14
    have tl2 : ((r.2.map itV).take v).length = v := by rw [List.length_take, lz]; omega
    refine catT_any (SqT.of (x14 _ _ s13)) (SqT.of s14) (fun z => by cases z) (sz (by simp; omega)) fun z15 H15 x15 s15 => ?_
    have x1215 := x13.trans (x14.trans x15)
    -- one is put in
    refine ⟨_, rfl, ?_⟩
    refine ⟨_, rfl, _, rfl, t, _, rfl, Evl.ex_t x1215 rt12, n1f, ?_⟩
    intro p16 n16
    generalize e16 : upd _ p16 _ = H16
    obtain ⟨x16, s16, o16⟩ := new_of e16 n16
    clear e16
    rw [cu1] at s16
    refine ⟨sz (by simp), ?_⟩
    intro p17 n17
    generalize e17 : upd _ p17 _ = H17
    obtain ⟨x17, s17, o17⟩ := new_of e17 n17
    clear e17
    refine catT_any (SqT.of (x17 _ _ s16)) (SqT.of s17) (fun z => by cases z) (sz (by simp; omega)) fun z18 H18 x18 s18 => ?_
    have x1518 := x16.trans (x17.trans x18)
    refine ⟨_, rfl, _, rfl, _, rfl, t, _, rfl, Evl.ex_t (x1215.trans x1518) rt12, n3f, ?_⟩
    intro p19 n19
    generalize e19 : upd _ p19 _ = H19
    obtain ⟨x19, s19, o19⟩ := new_of e19 n19
    clear e19
    rw [cu3] at s19
    refine catT_any (Evl.ex_t x19 s18) (SqT.of s19) (fun z => by cases z) (sz (by simp; omega)) fun z20 H20 x20 s20 => ?_
    have x1520 := x1518.trans (x19.trans x20)
    -- one is put behind
    refine ⟨_, rfl, sz (by simp), ?_⟩
    intro p21 n21
    generalize e21 : upd _ p21 _ = H21
    obtain ⟨x21, s21, o21⟩ := new_of e21 n21
    clear e21
    refine catT_any (Evl.ex_t (x1215.trans (x1520.trans x21)) rt12) (SqT.of s21) (fun z => by cases z) (sz (by rw [List.length_append, el]; simp; omega)) fun z22 H22 x22 s22 => ?_
    have x2022 := x21.trans x22
    refine ⟨sz (by simp), ?_⟩
    intro p23 n23
    generalize e23 : upd _ p23 _ = H23
    obtain ⟨x23, s23, o23⟩ := new_of e23 n23
    clear e23
    have x1222 := x1215.trans (x1520.trans x2022)
    have lD23 := x23 _ _ (x1222 _ _ lD)
    refine ⟨D, p23, _, _, rfl, rfl, lD23, s23, szl (by rw [List.length_map, zl16]; simp), ?_⟩
    intro p24 n24
    generalize e24 : upd _ p24 _ = H24
    obtain ⟨x24, s24, o24⟩ := new_of e24 n24
    clear e24
    have x2224 := x23.trans x24
    have k024 : ∀ b o, b ≠ p → H b = some o → H24 b = some o := fun b o nb e => x2224 _ _ (x1222 _ _ (x12 _ _ (k06 b o nb e)))
    have sp23 : SrcB H23 p (n + 1) := sp6.kp fun o h => x23 _ _ (x1222 _ _ (x12 _ _ h))
    refine ⟨p, p24, n + 1, _, rfl, sp23.kp fun o h => x24 _ _ h, by omega, s24, ne_srcQ sp23 n24, (fun z => by have := congrArg List.length z; simp at this), (by rw [List.length_append, List.length_map, zl16]; simp), fun H25 x hx s25 o25 => ?_⟩
    have k124 : ∀ b o, H1 b = some o → H24 b = some o := fun b o e => x2224 _ _ (x1222 _ _ (x12 _ _ (x26 _ _ (x2 _ _ e))))
    have mok1 := mok.kp o1 s1
    have mok24 : MOk M H24 p := mok.kp k024 (sp23.kp fun o h => x24 _ _ h)
    obtain ⟨FZ, z1, z2, xFZ⟩ := frzQ H24 M
    have nw : ∀ {b : Addr} {o : HO} {Hq : Hp}, Ex H1 Hq → Hq b = none → H24 b = some o → FZ b = some o := fun {b o Hq} e n h => by
      rw [z2 b (mok1.new (ex_none e n))]
      exact h
    have x624 : Ex H6 H24 := x12.trans (x1222.trans x2224)
    have oddF := odd44 (K := K) (H := FZ) (m := m) m2 (nw (Evl.Ex.refl _) n2 (x624 _ _ s2')) (nw x2 n3 (x624 _ _ s3')) (nw (x2.trans x3) n4 (x624 _ _ s4')) (nw (x2.trans (x3.trans x4)) n5 (x624 _ _ s5'))
    rw [hodd] at oddF
    have allF : ∀ x ∈ zs.map V.ref ++ [V.ref z15, .ref z20, .ref z22], BadR K FZ rows m x := fun x hx => by
      rcases List.mem_append.mp hx with h | h
      · obtain ⟨z, hz1, rfl⟩ := List.mem_map.mp h
        obtain ⟨x, xm, h2⟩ := hz z hz1
        obtain ⟨bs, hb1, hb2⟩ := itB_set tv.it hv (oddF x xm)
        refine .it (mok24.sqt z2 (Evl.ex_t (x1222.trans x2224) (SqT.of h2))) hp0 ?_ hb1 hb2
        rw [← tv.ln, List.length_append, List.length_cons, List.length_take, List.length_drop, lz]
        omega
      · simp only [List.mem_cons, List.not_mem_nil, or_false] at h
        rcases h with rfl | rfl | rfl
        · exact .len (xs := (r.2.map itV).take v ++ (r.2.map itV).drop (v + 1)) (mok24.sqt z2 (Evl.ex_t (x1520.trans (x2022.trans x2224)) s15)) hp0 (by rw [List.length_append, tl2, List.length_drop, lz, ← tv.ln]; omega)
        · exact .len (xs := (r.2.map itV).take v ++ [V.int 0] ++ (r.2.map itV).drop v) (mok24.sqt z2 (Evl.ex_t (x2022.trans x2224) s20)) hp0 (by rw [List.length_append, List.length_append, tl2, List.length_drop, lz, ← tv.ln, List.length_singleton]; omega)
        · exact .len (xs := r.2.map itV ++ [V.str "end"]) (mok24.sqt z2 (Evl.ex_t x2224 s22)) hp0 (by rw [List.length_append, lz, ← tv.ln, List.length_singleton]; omega)
    exact q FZ H25 x (fun b o nb e => o25 b o nb (k024 b o nb e)) (s25.up (by omega)) (fun b o e => by
      have nm : ¬ M b := fun y => by rw [z1 b y] at e; cases e
      rw [z2 b nm] at e
      exact o25 b o (fun y => nm (by rw [y]; exact mok.p)) e) z1 (allF x hx)
end
end Fc
set_option maxRecDepth 100000
set_option maxHeartbeats 4000000
namespace Fc
open PySem PySem.Spec PyProof.Rows L2 FcR
open Evl (Ex)
def sp_len (K : PySem.W.Frag) : Sp := fun vs H Q _ => ∃ (F : Hp) (A : CAd) (rows : List Row), vs = [.ref A.p] ∧ CodeH K F F A rows ∧ Ex F H ∧ Q (.int (rows.length : Int)) H
section
variable {P : Program} {w : World} {h : Heap} {K : PySem.W.Frag} {mg : Str → Option Value} {base : Heap}
abbrev N_Code___len__ : List Str := ["self"]
theorem sc_Code___len__ : FnScope N_Code___len__ ["self"] (defScope sd_Code___len__) := ⟨rfl, rfl, rfl, by decide +kernel, rfl, by decide +kernel, by decide +kernel⟩
theorem ok_Code___len__ (T : Tx w h K mg) : Ok P w K mg base 1 ("Code", some "__len__") ["self"] (sp_len K) := by
  obtain ⟨fd, F⟩ := F_Code___len__ T
  refine ⟨fd, ?_, F.bindsN (fun _ _ _ _ _ _ us hl => match us, hl with | [_], _ => rfl), F.kp⟩
  refine F.ok sc_Code___len__ (fun vs H Q E h => ?_) (fun cdv A outer s H vs Q E hr h => ?_)
  · obtain ⟨F, A, rows, rfl, C, xF, q⟩ := h
    rfl
  · obtain ⟨F, A, rows, rfl, C, xF, q⟩ := h
    refine ⟨_, PSs.nox (pss_one (ps_ret (pe_callB call_len_seq rfl (fr_len T) b_len (pa_cons (pe_fld (pv 0) rfl) pa_nil)))), ?_⟩
    obtain ⟨vs, C1, _⟩ := C.ex (Evl.Ex.refl _) xF
    refine ⟨_, rfl, A.p, _, _, _, _, rfl, C1.ob, c_Code T, na_Code_kinds T, fl_Code_kinds _ _ _ _ _, A.a2, _, rfl, .inl (Evl.sq_of C1.h2), ?_⟩
    rw [List.length_map]
    exact q
end
end Fc
set_option maxRecDepth 100000
set_option maxHeartbeats 4000000
namespace Fc
open PySem PySem.Spec PyProof.Rows L2 FcR
open Evl (Ex)
theorem row_len {r : TRow} : (rowV r).length = 1 + r.2.length := by simp [rowV]; omega
theorem row_but {r : TRow} (h : r.2 ≠ []) : cutV (rowV r) none (some (-1)) = .int (r.1 : Int) :: (r.2.map itV).take (r.2.length - 1) ∧ ¬ (HT.sIx (rowV r).length 0 none = 0 ∧ HT.sIx (rowV r).length (rowV r).length (some (-1)) = (rowV r).length) := by
  have hl := List.length_pos_iff.mpr h
  have e1 : HT.sIx (rowV r).length 0 none = 0 := rfl
  have e2 : HT.sIx (rowV r).length (rowV r).length (some (-1)) = r.2.length := by
    rw [row_len]
    simp [HT.sIx]
    try omega
  constructor
  · unfold cutV
    rw [e1, e2]
    simp only [List.drop_zero, Nat.sub_zero]
    obtain ⟨k, hk⟩ : ∃ k, r.2.length = k + 1 := ⟨r.2.length - 1, by omega⟩
    rw [hk]
    rfl
  · rintro ⟨_, z⟩
    rw [e2, row_len] at z
    omega
theorem row_mid {r : TRow} : cutV (rowV r) (some 1) (some 2) = (r.2.map itV).take 1 ∧ ¬ (HT.sIx (rowV r).length 0 (some 1) = 0 ∧ HT.sIx (rowV r).length (rowV r).length (some 2) = (rowV r).length) := by
  have e1 : HT.sIx (rowV r).length 0 (some ((1 : Nat) : Int)) = min 1 (rowV r).length := HT.sIx_nat ..
  have e2 : HT.sIx (rowV r).length (rowV r).length (some ((2 : Nat) : Int)) = min 2 (rowV r).length := HT.sIx_nat ..
  have l := row_len (r := r)
  constructor
  · show ((rowV r).drop (HT.sIx (rowV r).length 0 (some ((1 : Nat) : Int)))).take (HT.sIx (rowV r).length (rowV r).length (some ((2 : Nat) : Int)) - HT.sIx (rowV r).length 0 (some ((1 : Nat) : Int))) = _
    rw [e1, e2, Nat.min_eq_left (show 1 ≤ (rowV r).length by omega)]
    show (r.2.map itV).take _ = _
    by_cases c : r.2.length = 0
    · rw [show r.2.map itV = [] from by rw [List.length_eq_zero_iff.mp c] <;> rfl]
      simp
    · rw [Nat.min_eq_left (by omega)]
  · rintro ⟨z, _⟩
    have z : HT.sIx (rowV r).length 0 (some ((1 : Nat) : Int)) = 0 := z
    rw [e1] at z
    omega
def sp_oddr44 (K : PySem.W.Frag) : Sp := fun vs H Q _ => ∃ (F : Hp) (A : CAd) (rows : List Row) (p t : Addr) (n m : Nat) (r : TRow), vs = [.ref p, .ref A.p, .ref t, .int (m : Int)] ∧ CodeH K F F A rows ∧ Ex F H ∧ F p = none ∧ 1 ≤ rows.length ∧ rows.length ≤ 400 ∧ H t = some (.tup (rowV r)) ∧ TV rows m r ∧ r.1 ∈ plN rows ∧ SrcB H p n ∧ n ≤ 800000000 ∧ 1 ≤ m ∧ m ≤ 200 ∧ ∃ M : Addr → Prop, MOk M H p ∧
  ∀ (F' H' : Hp) (x : V), (∀ b o, b ≠ p → H b = some o → H' b = some o) → SrcB H' p (n + 20) → Ex F' H' → (∀ b, M b → F' b = none) → BadR K F' rows m x → Q x H'
section
variable {P : Program} {w : World} {h : Heap} {K : PySem.W.Frag} {mg : Str → Option Value} {base : Heap}
abbrev N_law_odd_row : List Str := ["_law_source_here", "_law_program", "_law_row_here", "_law_many", "_law_some", "_law_number"]
theorem sc_law_odd_row : FnScope N_law_odd_row ["_law_source_here", "_law_program", "_law_row_here", "_law_many"] (defScope sd_law_odd_row) := ⟨rfl, rfl, rfl, by decide +kernel, rfl, by decide +kernel, by decide +kernel⟩
theorem ok_law_odd_row (T : Tx w h K mg) : Ok P w K mg base 12 ("_law_odd_row", none) ["_law_source_here", "_law_program", "_law_row_here", "_law_many"] (sp_oddr44 K) := by
  obtain ⟨fd, F⟩ := F_law_odd_row T
  refine ⟨fd, ?_, F.bindsN (fun _ _ _ _ _ _ us hl => match us, hl with | [_, _, _, _], _ => rfl), F.kp⟩
  obtain ⟨fd_law_draw, G_law_draw, bi_law_draw, kp_law_draw⟩ := ok_law_draw (P := P) (base := base) T
  obtain ⟨fd_law_odd_item, G_law_odd_item, bi_law_odd_item, kp_law_odd_item⟩ := ok_law_odd_item (P := P) (base := base) T
  obtain ⟨fd_Code___len__, G_Code___len__, bi_Code___len__, kp_Code___len__⟩ := ok_Code___len__ (P := P) (base := base) T
  obtain ⟨fd_Code_kind, G_Code_kind, bi_Code_kind, kp_Code_kind⟩ := ok_Code_kind (P := P) (base := base) T
  refine F.ok sc_law_odd_row (fun vs H Q E h => ?_) (fun cdv A outer s H vs Q E hr h => ?_)
  · obtain ⟨F, A, rows, p, t, n, m, r, rfl, C, xF, fp, hl1, hl, ht, tv, hp0, hp, hn, m1, m2, M, mok, q⟩ := h
    rfl
  · obtain ⟨F, A, rows, p, t, n, m, r, rfl, C, xF, fp, hl1, hl, ht, tv, hp0, hp, hn, m1, m2, M, mok, q⟩ := h
    refine ⟨_, PSs.nox (pss_cons (ps_if (pt_cmpR op_eq (pe_call G_law_draw (hr.mono (by decide)) rfl (g_law_draw T) kp_law_draw bi_law_draw .nil passF (pa_cons (pv 0) (pa_cons pe_int pa_nil))) pe_int (nomark _)) (pss_one (ps_ret (pe_call G_law_odd_item (hr.mono (by decide)) rfl (g_law_odd_item T) kp_law_odd_item bi_law_odd_item .nil passF (pa_cons (pv 0) (pa_cons (pv 2) (pa_cons (pv 3) pa_nil)))))) pss_nil) (pss_cons (ps_set (i := 4) sc_law_odd_row.nd rfl (Or.inl rfl) (pe_lst (pa_cons pe_non (pa_cons (pe_callTy call_list_of rfl (fr_list T) b_list (pa_cons (pv 2) pa_nil)) (pa_cons (pe_tup pa_nil) (pa_cons (pe_slice sl_tup (pv 2) po_none (po_some pe_int)) (pa_cons (pe_op op_catT (pv 2) (pe_tup (pa_cons pe_int pa_nil))) (pa_cons (pe_op op_catT (pe_tup (pa_cons (pe_un un_neg pe_int) pa_nil)) (pe_slice sl_tup (pv 2) (po_some pe_int) po_none)) (pa_cons (pe_op op_catT (pe_tup (pa_cons (pe_callB (FcO.call_lenO G_Code___len__ (hr.mono (by decide)) (me_Code___len__ T) bi_Code___len__ passF) rfl (fr_len T) b_len (pa_cons (pv 1) pa_nil)) pa_nil)) (pe_slice sl_tup (pv 2) (po_some pe_int) po_none)) (pa_cons (pe_op op_catT (pe_tup (pa_cons pe_non pa_nil)) (pe_slice sl_tup (pv 2) (po_some pe_int) po_none)) pa_nil)))))))))) (pss_cons (ps_set (i := 4) sc_law_odd_row.nd rfl (Or.inl rfl) (pe_op op_cat (pv 4) (pe_lst (pa_cons (pe_op op_catT (pe_tup (pa_cons (pe_lst (pa_cons pe_int pa_nil)) pa_nil)) (pe_slice sl_tup (pv 2) (po_some pe_int) po_none)) (pa_cons (pe_op op_catT (pe_slice sl_tup (pv 2) po_none (po_some (pe_un un_neg pe_int))) (pe_tup (pa_cons (pv 3) pa_nil))) (pa_cons (pe_op op_catT (pe_slice sl_tup (pv 2) po_none (po_some (pe_un un_neg pe_int))) (pe_tup (pa_cons (pe_un un_neg pe_int) pa_nil))) (pa_cons (pe_op op_catT (pe_slice sl_tup (pv 2) po_none (po_some (pe_un un_neg pe_int))) (pe_tup (pa_cons pe_bl pa_nil))) (pa_cons (pe_op op_catT (pe_slice sl_tup (pv 2) po_none (po_some (pe_un un_neg pe_int))) (pe_tup (pa_cons pe_non pa_nil))) pa_nil)))))))) (pss_cons (ps_set (i := 4) sc_law_odd_row.nd rfl (Or.inl rfl) (pe_op op_cat (pv 4) (pe_lst (pa_cons (pe_op op_catT (pe_slice sl_tup (pv 2) po_none (po_some (pe_un un_neg pe_int))) (pe_tup (pa_cons pe_str pa_nil))) (pa_cons (pe_op op_catT (pe_slice sl_tup (pv 2) po_none (po_some (pe_un un_neg pe_int))) (pe_tup (pa_cons (pe_lst (pa_cons pe_int pa_nil)) pa_nil))) (pa_cons (pe_op op_catT (pe_slice sl_tup (pv 2) po_none (po_some (pe_un un_neg pe_int))) (pe_tup (pa_cons pe_dnewK pa_nil))) (pa_cons pe_str (pa_cons pe_int (pa_cons (pe_op op_catT (pe_tup (pa_cons pe_str pa_nil)) (pe_slice sl_tup (pv 2) (po_some pe_int) po_none)) (pa_cons pe_dnewK pa_nil)))))))))) (pss_cons (ps_set (i := 4) sc_law_odd_row.nd rfl (Or.inl rfl) (pe_op op_cat (pv 4) (pe_lst (pa_cons (pe_op op_catT (pe_tup (pa_cons pe_bl pa_nil)) (pe_slice sl_tup (pv 2) (po_some pe_int) po_none)) (pa_cons (pe_op op_catT (pe_tup (pa_cons pe_bl pa_nil)) (pe_slice sl_tup (pv 2) (po_some pe_int) po_none)) (pa_cons (pe_op op_catT (pe_slice sl_tup (pv 2) po_none (po_some (pe_un un_neg pe_int))) (pe_tup (pa_cons pe_str pa_nil))) (pa_cons (pe_op op_catT (pe_slice sl_tup (pv 2) po_none (po_some (pe_un un_neg pe_int))) (pe_tup (pa_cons pe_str pa_nil))) pa_nil))))))) (pss_cons (ps_set (i := 4) sc_law_odd_row.nd rfl (Or.inl rfl) (pe_op op_cat (pv 4) (pe_lc (own := [("_law_number", 5)]) rfl sc_law_odd_row.nd (pi_range1 rfl (fr_range T) (pa_cons (pe_callB (FcO.call_lenO G_Code___len__ (hr.mono (by decide)) (me_Code___len__ T) bi_Code___len__ passF) rfl (fr_len T) b_len (pa_cons (pv 1) pa_nil)) pa_nil)) (blkOk_by (N := N_law_odd_row) (sc := defScope sd_law_odd_row) (by decide +kernel)) (fun _ _ _ _ _ => (pg_name (i := 5) sc_law_odd_row.nd rfl (Or.inl rfl))) (fun _ _ _ _ _ => (pts_one (pt_cmpR (show OpR _ _ (rIn K false) from op_in_seq) (pe_meth (pv 1) (c_Code T) (me_Code_kind T) G_Code_kind (hr.mono (by decide)) bi_Code_kind .nil passF (pa_cons (pv 5) pa_nil)) (pe_tup (pa_cons pe_str (pa_cons pe_str pa_nil))) (by rfl)))) (fun _ _ _ _ _ => (pe_op (show OpR _ _ (rCatT K) from op_catT) (pe_tup (pa_cons (pv 5) pa_nil)) (pe_slice (show SlR _ (rSlT K) from sl_tup) (pv 2) (po_some pe_int) (po_some pe_int))))))) (pss_one (ps_ret (pe_ix ix_list (pv 4) (pe_call G_law_draw (hr.mono (by decide)) rfl (g_law_draw T) kp_law_draw bi_law_draw .nil passF (pa_cons (pv 0) (pa_cons (pe_callB call_len_seq rfl (fr_len T) b_len (pa_cons (pv 4) pa_nil)) pa_nil))) (fun _ _ => rfl)))))))))), ?_⟩
    have c2 : r.2.length ≤ 2 := by rw [tv.ln]; split <;> decide
    have c1 : 1 ≤ r.2.length := by rw [tv.ln]; omega
    have rne : r.2 ≠ [] := fun z => by rw [z] at c1; simp at c1
    have lz : (r.2.map itV).length = r.2.length := List.length_map ..
    have el := row_len (r := r)
    have tp : t ≠ p := fun z => by
      obtain ⟨_, _, _, h, _⟩ := hp
      rw [z, h] at ht; cases ht
    obtain ⟨cub, nfb⟩ := row_but rne
    refine ⟨_, rfl, p, n, 2, rfl, hp, by omega, by decide, by decide, fun v H0 v0 v1 s0 o0 => ?_⟩
    have rt0 : SqT K H0 t (rowV r) := SqT.of (o0 _ _ tp ht)
    refine ⟨rfl, _, rfl, ite_of (fun _ => ?_) (fun _ => ?_)⟩
    · refine ⟨_, rfl, _, rfl, _, rfl, rows, p, t, n + 1, m, r, rfl, rt0, o0 _ _ tp ht, tv, hp0, s0, by omega, m1, m2, M, mok.kp o0 s0, fun F' H' x k s xF' zM b => ?_⟩
      exact q F' H' x (fun b o nb e => k b o nb (o0 b o nb e)) (s.up (by omega)) xF' zM b
    have rt := rt0
    have e0 : Ex H0 H0 := Evl.Ex.refl _
    have xF0 : Ex F H0 := fun b o e => o0 b o (fun z => by rw [z, fp] at e; cases e) (xF b o e)
    -- the first ones
    refine ⟨_, rfl, t, _, rfl, .inr (Evl.ex_t e0 rt), ?_⟩
    intro p1 n1
    generalize e1 : upd _ p1 _ = H1
    obtain ⟨x1, s1, o1⟩ := new_of e1 n1
    clear e1
    have e1 := e0.trans x1
    refine ⟨sz (by simp), ?_⟩
    intro p2 n2
    generalize e2 : upd _ p2 _ = H2
    obtain ⟨x2, s2, o2⟩ := new_of e2 n2
    clear e2
    have e2 := e1.trans x2
    refine ⟨_, rfl, ?_⟩
    unfold tNoPart
    refine ⟨1, rfl, t, _, rfl, Evl.ex_t e2 rt, row_n1 rne, ?_⟩
    intro p3 n3
    generalize e3 : upd _ p3 _ = H3
    obtain ⟨x3, s3, o3⟩ := new_of e3 n3
    clear e3
    have e3 := e2.trans x3
    rw [row_c1] at s3
    refine ⟨_, rfl, ?_⟩
    refine ⟨sz (by simp), ?_⟩
    intro p4 n4
    generalize e4 : upd _ p4 _ = H4
    obtain ⟨x4, s4, o4⟩ := new_of e4 n4
    clear e4
    have e4 := e3.trans x4
    refine catT_any (Evl.ex_t e4 rt) (SqT.of s4) (fun z => by cases z) (sz (by rw [List.length_append, el]; simp; omega)) fun p5 H5 x5 s5 => ?_
    have e5 := e4.trans x5
    refine ⟨_, rfl, ?_⟩
    refine ⟨sz (by simp), ?_⟩
    intro p6 n6
    generalize e6 : upd _ p6 _ = H6
    obtain ⟨x6, s6, o6⟩ := new_of e6 n6
    clear e6
    have e6 := e5.trans x6
    refine ⟨_, rfl, 1, rfl, t, _, rfl, Evl.ex_t e6 rt, row_n2, ?_⟩
    intro p7 n7
    generalize e7 : upd _ p7 _ = H7
    obtain ⟨x7, s7, o7⟩ := new_of e7 n7
    clear e7
    rw [row_c2] at s7
    refine catT_any (SqT.of (x7 _ _ s6)) (SqT.of s7) (fun z => by cases z) (sz (by simp; omega)) fun p8 H8 x8 s8 => ?_
    have e8 := e6.trans (x7.trans x8)
    obtain ⟨_, C8, _⟩ := C.ex (Evl.Ex.refl _) (xF0.trans e8)
    refine ⟨_, rfl, A.p, _, _, rfl, C8.ob, F, A, rows, rfl, C, xF0.trans e8, rows.length, rfl, by omega, ?_⟩
    refine ⟨sz (by simp), ?_⟩
    intro p9 n9
    generalize e9 : upd _ p9 _ = H9
    obtain ⟨x9, s9, o9⟩ := new_of e9 n9
    clear e9
    have e9 := e8.trans x9
    refine ⟨_, rfl, 1, rfl, t, _, rfl, Evl.ex_t e9 rt, row_n2, ?_⟩
    intro p10 n10
    generalize e10 : upd _ p10 _ = H10
    obtain ⟨x10, s10, o10⟩ := new_of e10 n10
    clear e10
    rw [row_c2] at s10
    refine catT_any (SqT.of (x10 _ _ s9)) (SqT.of s10) (fun z => by cases z) (sz (by simp; omega)) fun p11 H11 x11 s11 => ?_
    have e11 := e9.trans (x10.trans x11)
    refine ⟨sz (by simp), ?_⟩
    intro p12 n12
    generalize e12 : upd _ p12 _ = H12
    obtain ⟨x12, s12, o12⟩ := new_of e12 n12
    clear e12
    have e12 := e11.trans x12
    refine ⟨_, rfl, 1, rfl, t, _, rfl, Evl.ex_t e12 rt, row_n2, ?_⟩
    intro p13 n13
    generalize e13 : upd _ p13 _ = H13
    obtain ⟨x13, s13, o13⟩ := new_of e13 n13
    clear e13
    rw [row_c2] at s13
    refine catT_any (SqT.of (x13 _ _ s12)) (SqT.of s13) (fun z => by cases z) (sz (by simp; omega)) fun p14 H14 x14 s14 => ?_
    have e14 := e12.trans (x13.trans x14)
    refine ⟨sz (by simp), ?_⟩
    intro p15 n15
    generalize e15 : upd _ p15 _ = H15
    obtain ⟨x15, s15, o15⟩ := new_of e15 n15
    clear e15
    have e15 := e14.trans x15
    -- the second ones
    refine ⟨_, rfl, ?_⟩
    refine ⟨sz (by simp), ?_⟩
    intro p16 n16
    generalize e16 : upd _ p16 _ = H16
    obtain ⟨x16, s16, o16⟩ := new_of e16 n16
    clear e16
    have e16 := e15.trans x16
    refine ⟨sz (by simp), ?_⟩
    intro p17 n17
    generalize e17 : upd _ p17 _ = H17
    obtain ⟨x17, s17, o17⟩ := new_of e17 n17
    clear e17
    have e17 := e16.trans x17
    refine ⟨_, rfl, 1, rfl, t, _, rfl, Evl.ex_t e17 rt, row_n2, ?_⟩
    intro p18 n18
    generalize e18 : upd _ p18 _ = H18
    obtain ⟨x18, s18, o18⟩ := new_of e18 n18
    clear e18
    rw [row_c2] at s18
    refine catT_any (SqT.of (x18 _ _ s17)) (SqT.of s18) (fun z => by cases z) (sz (by simp; omega)) fun p19 H19 x19 s19 => ?_
    have e19 := e17.trans (x18.trans x19)
    refine ⟨_, rfl, ?_⟩
    refine ⟨_, rfl, _, rfl, t, _, rfl, Evl.ex_t e19 rt, nfb, ?_⟩
    intro p20 n20
    generalize e20 : upd _ p20 _ = H20
    obtain ⟨x20, s20, o20⟩ := new_of e20 n20
    clear e20
    rw [cub] at s20
    have e20 := e19.trans x20
    refine ⟨_, rfl, ?_⟩
    refine ⟨sz (by simp), ?_⟩
    intro p21 n21
    generalize e21 : upd _ p21 _ = H21
    obtain ⟨x21, s21, o21⟩ := new_of e21 n21
    clear e21
    refine catT_any (Evl.ex_t (show Ex H20 H21 from x21) (SqT.of s20)) (SqT.of s21) (fun z => by cases z) (sz (by simp; omega)) fun p22 H22 x22 s22 => ?_
    have e22 := e20.trans (x21.trans x22)
    refine ⟨_, rfl, ?_⟩
    refine ⟨_, rfl, _, rfl, t, _, rfl, Evl.ex_t e22 rt, nfb, ?_⟩
    intro p23 n23
    generalize e23 : upd _ p23 _ = H23
    obtain ⟨x23, s23, o23⟩ := new_of e23 n23
    clear e23
    rw [cub] at s23
    have e23 := e22.trans x23
    refine ⟨_, rfl, ?_⟩
    refine ⟨sz (by simp), ?_⟩
    intro p24 n24
    generalize e24 : upd _ p24 _ = H24
    obtain ⟨x24, s24, o24⟩ := new_of e24 n24
    clear e24
    refine catT_any (Evl.ex_t (show Ex H23 H24 from x24) (SqT.of s23)) (SqT.of s24) (fun z => by cases z) (sz (by simp; omega)) fun p25 H25 x25 s25 => ?_
    have e25 := e23.trans (x24.trans x25)
    refine ⟨_, rfl, ?_⟩
    refine ⟨_, rfl, _, rfl, t, _, rfl, Evl.ex_t e25 rt, nfb, ?_⟩
    intro p26 n26
    generalize e26 : upd _ p26 _ = H26
    obtain ⟨x26, s26, o26⟩ := new_of e26 n26
    clear e26
    rw [cub] at s26
    have e26 := e25.trans x26
    refine ⟨sz (by simp), ?_⟩
    intro p27 n27
    generalize e27 : upd _ p27 _ = H27
    obtain ⟨x27, s27, o27⟩ := new_of e27 n27
    clear e27
    refine catT_any (Evl.ex_t (show Ex H26 H27 from x27) (SqT.of s26)) (SqT.of s27) (fun z => by cases z) (sz (by simp; omega)) fun p28 H28 x28 s28 => ?_
    have e28 := e26.trans (x27.trans x28)
    refine ⟨_, rfl, ?_⟩
    refine ⟨_, rfl, _, rfl, t, _, rfl, Evl.ex_t e28 rt, nfb, ?_⟩
    intro p29 n29
    generalize e29 : upd _ p29 _ = H29
    obtain ⟨x29, s29, o29⟩ := new_of e29 n29
    clear e29
    rw [cub] at s29
    have e29 := e28.trans x29
    refine ⟨sz (by simp), ?_⟩
    intro p30 n30
    generalize e30 : upd _ p30 _ = H30
    obtain ⟨x30, s30, o30⟩ := new_of e30 n30
    clear e30
    refine catT_any (Evl.ex_t (show Ex H29 H30 from x30) (SqT.of s29)) (SqT.of s30) (fun z => by cases z) (sz (by simp; omega)) fun p31 H31 x31 s31 => ?_
    have e31 := e29.trans (x30.trans x31)
    refine ⟨sz (by simp), ?_⟩
    intro p32 n32
    generalize e32 : upd _ p32 _ = H32
    obtain ⟨x32, s32, o32⟩ := new_of e32 n32
    clear e32
    have e32 := e31.trans x32
    refine ⟨p15, p32, _, _, rfl, rfl, (x16.trans (x17.trans (x18.trans (x19.trans (x20.trans (x21.trans (x22.trans (x23.trans (x24.trans (x25.trans (x26.trans (x27.trans (x28.trans (x29.trans (x30.trans (x31.trans x32)))))))))))))))) _ _ s15, s32, szl (by simp), ?_⟩
    intro p33 n33
    generalize e33 : upd _ p33 _ = H33
    obtain ⟨x33, s33, o33⟩ := new_of e33 n33
    clear e33
    have e33 := e32.trans x33
    -- the third ones
    refine ⟨_, rfl, ?_⟩
    refine ⟨_, rfl, ?_⟩
    refine ⟨_, rfl, _, rfl, t, _, rfl, Evl.ex_t e33 rt, nfb, ?_⟩
    intro p34 n34
    generalize e34 : upd _ p34 _ = H34
    obtain ⟨x34, s34, o34⟩ := new_of e34 n34
    clear e34
    rw [cub] at s34
    have e34 := e33.trans x34
    refine ⟨sz (by simp), ?_⟩
    intro p35 n35
    generalize e35 : upd _ p35 _ = H35
    obtain ⟨x35, s35, o35⟩ := new_of e35 n35
    clear e35
    refine catT_any (Evl.ex_t (show Ex H34 H35 from x35) (SqT.of s34)) (SqT.of s35) (fun z => by cases z) (sz (by simp; omega)) fun p36 H36 x36 s36 => ?_
    have e36 := e34.trans (x35.trans x36)
    refine ⟨_, rfl, ?_⟩
    refine ⟨_, rfl, _, rfl, t, _, rfl, Evl.ex_t e36 rt, nfb, ?_⟩
    intro p37 n37
    generalize e37 : upd _ p37 _ = H37
    obtain ⟨x37, s37, o37⟩ := new_of e37 n37
    clear e37
    rw [cub] at s37
    have e37 := e36.trans x37
    refine ⟨sz (by simp), ?_⟩
    intro p38 n38
    generalize e38 : upd _ p38 _ = H38
    obtain ⟨x38, s38, o38⟩ := new_of e38 n38
    clear e38
    have e38 := e37.trans x38
    refine ⟨sz (by simp), ?_⟩
    intro p39 n39
    generalize e39 : upd _ p39 _ = H39
    obtain ⟨x39, s39, o39⟩ := new_of e39 n39
    clear e39
    refine catT_any (Evl.ex_t (show Ex H37 H39 from x38.trans x39) (SqT.of s37)) (SqT.of s39) (fun z => by cases z) (sz (by simp; omega)) fun p40 H40 x40 s40 => ?_
    have e40 := e38.trans (x39.trans x40)
    refine ⟨_, rfl, ?_⟩
    refine ⟨_, rfl, _, rfl, t, _, rfl, Evl.ex_t e40 rt, nfb, ?_⟩
    intro p41 n41
    generalize e41 : upd _ p41 _ = H41
    obtain ⟨x41, s41, o41⟩ := new_of e41 n41
    clear e41
    rw [cub] at s41
    have e41 := e40.trans x41
    show ∀ (p42 : Addr), H41 p42 = none → _
    intro p42 n42
    generalize e42 : upd _ p42 _ = H42
    obtain ⟨x42, s42, o42⟩ := new_of e42 n42
    clear e42
    have e42 := e41.trans x42
    refine ⟨sz (by simp), ?_⟩
    intro p43 n43
    generalize e43 : upd _ p43 _ = H43
    obtain ⟨x43, s43, o43⟩ := new_of e43 n43
    clear e43
    refine catT_any (Evl.ex_t (show Ex H41 H43 from x42.trans x43) (SqT.of s41)) (SqT.of s43) (fun z => by cases z) (sz (by simp; omega)) fun p44 H44 x44 s44 => ?_
    have e44 := e42.trans (x43.trans x44)
    refine ⟨sz (by simp), ?_⟩
    intro p45 n45
    generalize e45 : upd _ p45 _ = H45
    obtain ⟨x45, s45, o45⟩ := new_of e45 n45
    clear e45
    have e45 := e44.trans x45
    refine ⟨_, rfl, 1, rfl, t, _, rfl, Evl.ex_t e45 rt, row_n2, ?_⟩
    intro p46 n46
    generalize e46 : upd _ p46 _ = H46
    obtain ⟨x46, s46, o46⟩ := new_of e46 n46
    clear e46
    rw [row_c2] at s46
    refine catT_any (SqT.of (x46 _ _ s45)) (SqT.of s46) (fun z => by cases z) (sz (by simp; omega)) fun p47 H47 x47 s47 => ?_
    have e47 := e45.trans (x46.trans x47)
    show ∀ (p48 : Addr), H47 p48 = none → _
    intro p48 n48
    generalize e48 : upd _ p48 _ = H48
    obtain ⟨x48, s48, o48⟩ := new_of e48 n48
    clear e48
    have e48 := e47.trans x48
    refine ⟨sz (by simp), ?_⟩
    intro p49 n49
    generalize e49 : upd _ p49 _ = H49
    obtain ⟨x49, s49, o49⟩ := new_of e49 n49
    clear e49
    have e49 := e48.trans x49
    refine ⟨p33, p49, _, _, rfl, rfl, (x34.trans (x35.trans (x36.trans (x37.trans (x38.trans (x39.trans (x40.trans (x41.trans (x42.trans (x43.trans (x44.trans (x45.trans (x46.trans (x47.trans (x48.trans x49))))))))))))))) _ _ s33, s49, szl (by simp), ?_⟩
    intro p50 n50
    generalize e50 : upd _ p50 _ = H50
    obtain ⟨x50, s50, o50⟩ := new_of e50 n50
    clear e50
    have e50 := e49.trans x50
    -- the fourth ones
    refine ⟨_, rfl, ?_⟩
    refine ⟨sz (by simp), ?_⟩
    intro p51 n51
    generalize e51 : upd _ p51 _ = H51
    obtain ⟨x51, s51, o51⟩ := new_of e51 n51
    clear e51
    have e51 := e50.trans x51
    refine ⟨_, rfl, 1, rfl, t, _, rfl, Evl.ex_t e51 rt, row_n2, ?_⟩
    intro p52 n52
    generalize e52 : upd _ p52 _ = H52
    obtain ⟨x52, s52, o52⟩ := new_of e52 n52
    clear e52
    rw [row_c2] at s52
    refine catT_any (SqT.of (x52 _ _ s51)) (SqT.of s52) (fun z => by cases z) (sz (by simp; omega)) fun p53 H53 x53 s53 => ?_
    have e53 := e51.trans (x52.trans x53)
    refine ⟨sz (by simp), ?_⟩
    intro p54 n54
    generalize e54 : upd _ p54 _ = H54
    obtain ⟨x54, s54, o54⟩ := new_of e54 n54
    clear e54
    have e54 := e53.trans x54
    refine ⟨_, rfl, 1, rfl, t, _, rfl, Evl.ex_t e54 rt, row_n2, ?_⟩
    intro p55 n55
    generalize e55 : upd _ p55 _ = H55
    obtain ⟨x55, s55, o55⟩ := new_of e55 n55
    clear e55
    rw [row_c2] at s55
    refine catT_any (SqT.of (x55 _ _ s54)) (SqT.of s55) (fun z => by cases z) (sz (by simp; omega)) fun p56 H56 x56 s56 => ?_
    have e56 := e54.trans (x55.trans x56)
    refine ⟨_, rfl, ?_⟩
    refine ⟨_, rfl, _, rfl, t, _, rfl, Evl.ex_t e56 rt, nfb, ?_⟩
    intro p57 n57
    generalize e57 : upd _ p57 _ = H57
    obtain ⟨x57, s57, o57⟩ := new_of e57 n57
    clear e57
    rw [cub] at s57
    have e57 := e56.trans x57
    refine ⟨sz (by simp), ?_⟩
    intro p58 n58
    generalize e58 : upd _ p58 _ = H58
    obtain ⟨x58, s58, o58⟩ := new_of e58 n58
    clear e58
    refine catT_any (Evl.ex_t (show Ex H57 H58 from x58) (SqT.of s57)) (SqT.of s58) (fun z => by cases z) (sz (by simp; omega)) fun p59 H59 x59 s59 => ?_
    have e59 := e57.trans (x58.trans x59)
    refine ⟨_, rfl, ?_⟩
    refine ⟨_, rfl, _, rfl, t, _, rfl, Evl.ex_t e59 rt, nfb, ?_⟩
    intro p60 n60
    generalize e60 : upd _ p60 _ = H60
    obtain ⟨x60, s60, o60⟩ := new_of e60 n60
    clear e60
    rw [cub] at s60
    have e60 := e59.trans x60
    refine ⟨sz (by simp), ?_⟩
    intro p61 n61
    generalize e61 : upd _ p61 _ = H61
    obtain ⟨x61, s61, o61⟩ := new_of e61 n61
    clear e61
    refine catT_any (Evl.ex_t (show Ex H60 H61 from x61) (SqT.of s60)) (SqT.of s61) (fun z => by cases z) (sz (by simp; omega)) fun p62 H62 x62 s62 => ?_
    have e62 := e60.trans (x61.trans x62)
    refine ⟨sz (by simp), ?_⟩
    intro p63 n63
    generalize e63 : upd _ p63 _ = H63
    obtain ⟨x63, s63, o63⟩ := new_of e63 n63
    clear e63
    have e63 := e62.trans x63
    refine ⟨p50, p63, _, _, rfl, rfl, (x51.trans (x52.trans (x53.trans (x54.trans (x55.trans (x56.trans (x57.trans (x58.trans (x59.trans (x60.trans (x61.trans (x62.trans x63)))))))))))) _ _ s50, s63, szl (by simp), ?_⟩
    intro p64 n64
    generalize e64 : upd _ p64 _ = H64
    obtain ⟨x64, s64, o64⟩ := new_of e64 n64
    clear e64
    have e64 := e63.trans x64
    have s4L : H64 p64 = some (.lst [V.non, V.ref p1, V.ref p2, V.ref p3, V.ref p5, V.ref p8, V.ref p11, V.ref p14, V.ref p19, V.ref p22, V.ref p25, V.ref p28, V.ref p31, V.ref p36, V.ref p40, V.ref p44, V.str "row", V.int 0, V.ref p47, V.ref p48, V.ref p53, V.ref p56, V.ref p59, V.ref p62]) := s64
    clear s64
    -- the last ones
    have xF1 := xF0.trans e64
    obtain ⟨_, Cz, _⟩ := C.ex (Evl.Ex.refl _) xF1
    refine ⟨_, rfl, _, rfl, A.p, _, _, rfl, Cz.ob, F, A, rows, rfl, C, xF1, rows.length, rfl, by omega, _, rfl, by omega, by omega, fun D nD => ?_⟩
    rw [Int.toNat_natCast]
    refine lc_it (walk_range (lo := 0) (n := rows.length)) (fun i H' => Ex H64 H' ∧ ∃ zs : List Addr, zs.length ≤ i ∧ H' D = some (.lst (zs.map V.ref)) ∧ ∀ z ∈ zs, ∃ j, j < rows.length ∧ plB rows j = false ∧ SqT K H' z (.int (j : Int) :: (r.2.map itV).take 1)) ?_ ?_ ?_ ?_
    · exact ⟨exu (Evl.Ex.refl _) nD, [], Nat.le_refl _, upd_same, fun z hz => nomatch hz⟩
    · exact fun _ _ _ _ => True.intro
    · rintro i v2 Ja Jb hi ⟨e, zs, zl, lD, hz⟩ ⟨rfl, rfl⟩
      have hi : i < rows.length := hi
      obtain ⟨ri, hri⟩ := row_at hi
      have ei : (0 : Int) + (i : Int) = (i : Int) := by omega
      have xF2 := xF1.trans e
      obtain ⟨_, C2, _⟩ := C.ex (Evl.Ex.refl _) xF2
      refine ⟨rfl, _, rfl, A.p, _, _, rfl, C2.ob, fm_Code_kind _ _ _ _ _, _, rfl, F, A, rows, i, ri, (by show [V.ref A.p, V.int (0 + (i : Int))] = _; rw [ei]), C, xF2, hri, sz (by simp), ?_⟩
      intro p901 n901
      generalize e901 : upd _ p901 _ = H901
      obtain ⟨x901, s901, o901⟩ := new_of e901 n901
      clear e901
      have e9 : inV (.str (kindD ri.d)) [.str "seq", .str "try"] = decide (kindD ri.d ∈ (["seq", "try"] : List Str)) := inV_strs _ ["seq", "try"]
      refine ⟨p901, _, rfl, .inr (SqT.of s901), rfl, flat_strs ["seq", "try"], _, rfl, ?_⟩
      rw [e9]
      refine ite_of (fun c => ?_) (fun c => ?_)
      · refine ⟨_, rfl, sz (by simp), ?_⟩
        intro p902 n902
        generalize e902 : upd _ p902 _ = H902
        obtain ⟨x902, s902, o902⟩ := new_of e902 n902
        clear e902
        refine ⟨_, rfl, 1, rfl, 2, rfl, t, _, rfl, Evl.ex_t (e64.trans (e.trans (x901.trans x902))) rt, row_mid.2, ?_⟩
        intro p903 n903
        generalize e903 : upd _ p903 _ = H903
        obtain ⟨x903, s903, o903⟩ := new_of e903 n903
        clear e903
        rw [row_mid.1] at s903
        refine catT_any (SqT.of (x903 _ _ s902)) (SqT.of s903) (fun z => by cases z) (sz (by simp; omega)) fun p904 H904 x904 s904 => ?_
        have x9 := x901.trans (x902.trans (x903.trans x904))
        have lD9 := x9 _ _ lD
        refine ⟨_, lD9, szl (by rw [List.length_map]; omega), exm (e.trans x9) nD, zs ++ [p904], by simp; omega, by rw [upd_same, List.map_append] <;> rfl, fun z h => ?_⟩
        rcases List.mem_append.mp h with h | h
        · obtain ⟨j, j1, j2, j3⟩ := hz z h
          exact ⟨j, j1, j2, row_set (Evl.ex_t x9 j3) lD9⟩
        · rw [List.mem_singleton.mp h]
          refine ⟨i, hi, ?_, row_set (by rw [← ei]; exact s904) lD9⟩
          rw [pl_of hri]
          unfold isPl
          have c' : decide (kindD ri.d ∈ (["seq", "try"] : List Str)) = true := c
          rw [c'] <;> rfl
      · exact ⟨e.trans x901, zs, by omega, x901 _ _ lD, fun z h => by
          obtain ⟨j, j1, j2, j3⟩ := hz z h
          exact ⟨j, j1, j2, Evl.ex_t x901 j3⟩⟩
    rintro H910 ⟨x910, zs, zl, lD, hz⟩
    refine ⟨p64, D, _, _, rfl, rfl, x910 _ _ s4L, lD, (Nat.le_trans (show 24 + (zs.map V.ref).length ≤ 1000 from by rw [List.length_map]; omega) (Nat.le_of_lt (szl (by decide)))), ?_⟩
    intro p911 n911
    generalize e911 : upd _ p911 _ = H911
    obtain ⟨x911, s911, o911⟩ := new_of e911 n911
    clear e911
    have xf := x910.trans x911
    have e911 := e64.trans xf
    have k911 : ∀ b o, b ≠ p → H b = some o → H911 b = some o := fun b o nb e => e911 _ _ (o0 b o nb e)
    have sp911 : SrcB H911 p (n + 1) := s0.kp fun o h => e911 _ _ h
    have mok0 := mok.kp o0 s0
    have mokF : MOk M H911 p := mok.kp k911 sp911
    have llen : ([V.non, V.ref p1, V.ref p2, V.ref p3, V.ref p5, V.ref p8, V.ref p11, V.ref p14, V.ref p19, V.ref p22, V.ref p25, V.ref p28, V.ref p31, V.ref p36, V.ref p40, V.ref p44, V.str "row", V.int 0, V.ref p47, V.ref p48, V.ref p53, V.ref p56, V.ref p59, V.ref p62] ++ zs.map V.ref : List V).length ≤ 500 := by rw [List.length_append, List.length_map]; simp; omega
    refine ⟨_, rfl, _, rfl, _, rfl, p911, _, rfl, .inl (Evl.sq_of s911), p, n + 1, _, rfl, sp911, by omega, by simp; omega, by omega, fun v9 H9 v90 v91 s9 o9 => ?_⟩
    obtain ⟨w9, rfl⟩ : ∃ w : Nat, v9 = (w : Int) := ⟨v9.toNat, by omega⟩
    have p911p : p911 ≠ p := ne_srcQ (s0.kp fun o h => (e64.trans x910) _ _ h) n911
    obtain ⟨x, hx⟩ : ∃ x, ([V.non, V.ref p1, V.ref p2, V.ref p3, V.ref p5, V.ref p8, V.ref p11, V.ref p14, V.ref p19, V.ref p22, V.ref p25, V.ref p28, V.ref p31, V.ref p36, V.ref p40, V.ref p44, V.str "row", V.int 0, V.ref p47, V.ref p48, V.ref p53, V.ref p56, V.ref p59, V.ref p62] ++ zs.map V.ref : List V)[w9]? = some x := ⟨_, List.getElem?_eq_getElem (by omega)⟩
    refine ⟨p911, _, (w9 : Int), x, rfl, rfl, Evl.sq_of (o9 _ _ p911p s911), atI_nat hx, ?_⟩
    obtain ⟨FZ, z1, z2, xFZ⟩ := frzQ H911 M
    have nw : ∀ {b : Addr} {o : HO} {Hq : Hp}, Ex H0 Hq → Hq b = none → H911 b = some o → FZ b = some o := fun {b o Hq} e n h => by
      rw [z2 b (mok0.new (ex_none e n))]
      exact h
    have sq : ∀ {z : Addr} {xs : List V}, SqT K H911 z xs → SqT K FZ z xs := fun h => mokF.sqt z2 h
    have pne : ∀ k : Int, k < 0 ∨ (rows.length : Int) ≤ k → ∀ p ∈ plN rows, (p : Int) ≠ k := fun k hk p hp e => by
      have := List.mem_range.mp (List.mem_filter.mp hp).1
      omega
    have bit : ∀ {z : Addr} {x : V}, SqT K FZ z (V.int (r.1 : Int) :: (r.2.map itV).take (r.2.length - 1) ++ [x]) → BadI K FZ m x → BadR K FZ rows m (.ref z) := fun {z x} h b => by
      obtain ⟨bs, hb1, hb2⟩ := itB_set (v := r.2.length - 1) tv.it (by omega) b
      rw [show (r.2.map itV).drop (r.2.length - 1 + 1) = [] from List.drop_eq_nil_of_le (by rw [lz]; omega)] at hb1
      refine .it (p := r.1) (xs := (r.2.map itV).take (r.2.length - 1) ++ [x]) h hp0 ?_ hb1 hb2
      rw [← tv.ln, List.length_append, List.length_take, lz]
      simp
      omega
    have allF : ∀ x ∈ ([V.non, V.ref p1, V.ref p2, V.ref p3, V.ref p5, V.ref p8, V.ref p11, V.ref p14, V.ref p19, V.ref p22, V.ref p25, V.ref p28, V.ref p31, V.ref p36, V.ref p40, V.ref p44, V.str "row", V.int 0, V.ref p47, V.ref p48, V.ref p53, V.ref p56, V.ref p59, V.ref p62] ++ zs.map V.ref : List V), BadR K FZ rows m x := fun x hx => by
      rcases List.mem_append.mp hx with h | h
      · simp only [List.mem_cons, List.not_mem_nil, or_false] at h
        rcases h with rfl | rfl | rfl | rfl | rfl | rfl | rfl | rfl | rfl | rfl | rfl | rfl | rfl | rfl | rfl | rfl | rfl | rfl | rfl | rfl | rfl | rfl | rfl | rfl
        · exact .ty (fun _ _ => .base .non) (k_tuple .none)
        · exact .ty (fun _ e => ty_lst (Evl.sq_of (e _ _ (nw e0 n1 (xf _ _ ((x2.trans (x3.trans (x4.trans (x5.trans (x6.trans (x7.trans (x8.trans (x9.trans (x10.trans (x11.trans (x12.trans (x13.trans (x14.trans (x15.trans (x16.trans (x17.trans (x18.trans (x19.trans (x20.trans (x21.trans (x22.trans (x23.trans (x24.trans (x25.trans (x26.trans (x27.trans (x28.trans (x29.trans (x30.trans (x31.trans (x32.trans (x33.trans (x34.trans (x35.trans (x36.trans (x37.trans (x38.trans (x39.trans (x40.trans (x41.trans (x42.trans (x43.trans (x44.trans (x45.trans (x46.trans (x47.trans (x48.trans (x49.trans (x50.trans (x51.trans (x52.trans (x53.trans (x54.trans (x55.trans (x56.trans (x57.trans (x58.trans (x59.trans (x60.trans (x61.trans (x62.trans (x63.trans x64)))))))))))))))))))))))))))))))))))))))))))))))))))))))))))))) _ _ s1)))))) (k_tuple (.list []))
        · exact .nil (sq (Evl.ex_t (show Ex H2 H911 from ((x3.trans (x4.trans (x5.trans (x6.trans (x7.trans (x8.trans (x9.trans (x10.trans (x11.trans (x12.trans (x13.trans (x14.trans (x15.trans (x16.trans (x17.trans (x18.trans (x19.trans (x20.trans (x21.trans (x22.trans (x23.trans (x24.trans (x25.trans (x26.trans (x27.trans (x28.trans (x29.trans (x30.trans (x31.trans (x32.trans (x33.trans (x34.trans (x35.trans (x36.trans (x37.trans (x38.trans (x39.trans (x40.trans (x41.trans (x42.trans (x43.trans (x44.trans (x45.trans (x46.trans (x47.trans (x48.trans (x49.trans (x50.trans (x51.trans (x52.trans (x53.trans (x54.trans (x55.trans (x56.trans (x57.trans (x58.trans (x59.trans (x60.trans (x61.trans (x62.trans (x63.trans x64)))))))))))))))))))))))))))))))))))))))))))))))))))))))))))))).trans xf) (SqT.of s2)))
        · exact .len (xs := []) (sq (Evl.ex_t (show Ex H3 H911 from ((x4.trans (x5.trans (x6.trans (x7.trans (x8.trans (x9.trans (x10.trans (x11.trans (x12.trans (x13.trans (x14.trans (x15.trans (x16.trans (x17.trans (x18.trans (x19.trans (x20.trans (x21.trans (x22.trans (x23.trans (x24.trans (x25.trans (x26.trans (x27.trans (x28.trans (x29.trans (x30.trans (x31.trans (x32.trans (x33.trans (x34.trans (x35.trans (x36.trans (x37.trans (x38.trans (x39.trans (x40.trans (x41.trans (x42.trans (x43.trans (x44.trans (x45.trans (x46.trans (x47.trans (x48.trans (x49.trans (x50.trans (x51.trans (x52.trans (x53.trans (x54.trans (x55.trans (x56.trans (x57.trans (x58.trans (x59.trans (x60.trans (x61.trans (x62.trans (x63.trans x64))))))))))))))))))))))))))))))))))))))))))))))))))))))))))))).trans xf) (SqT.of s3))) hp0 (by rw [← tv.ln]; simp; omega)
        · exact .len (xs := r.2.map itV ++ [V.int 0]) (sq (Evl.ex_t (show Ex H5 H911 from ((x6.trans (x7.trans (x8.trans (x9.trans (x10.trans (x11.trans (x12.trans (x13.trans (x14.trans (x15.trans (x16.trans (x17.trans (x18.trans (x19.trans (x20.trans (x21.trans (x22.trans (x23.trans (x24.trans (x25.trans (x26.trans (x27.trans (x28.trans (x29.trans (x30.trans (x31.trans (x32.trans (x33.trans (x34.trans (x35.trans (x36.trans (x37.trans (x38.trans (x39.trans (x40.trans (x41.trans (x42.trans (x43.trans (x44.trans (x45.trans (x46.trans (x47.trans (x48.trans (x49.trans (x50.trans (x51.trans (x52.trans (x53.trans (x54.trans (x55.trans (x56.trans (x57.trans (x58.trans (x59.trans (x60.trans (x61.trans (x62.trans (x63.trans x64))))))))))))))))))))))))))))))))))))))))))))))))))))))))))).trans xf) s5)) hp0 (by rw [← tv.ln, List.length_append, lz]; simp)
        · exact .pl (sq (Evl.ex_t (show Ex H8 H911 from ((x9.trans (x10.trans (x11.trans (x12.trans (x13.trans (x14.trans (x15.trans (x16.trans (x17.trans (x18.trans (x19.trans (x20.trans (x21.trans (x22.trans (x23.trans (x24.trans (x25.trans (x26.trans (x27.trans (x28.trans (x29.trans (x30.trans (x31.trans (x32.trans (x33.trans (x34.trans (x35.trans (x36.trans (x37.trans (x38.trans (x39.trans (x40.trans (x41.trans (x42.trans (x43.trans (x44.trans (x45.trans (x46.trans (x47.trans (x48.trans (x49.trans (x50.trans (x51.trans (x52.trans (x53.trans (x54.trans (x55.trans (x56.trans (x57.trans (x58.trans (x59.trans (x60.trans (x61.trans (x62.trans (x63.trans x64)))))))))))))))))))))))))))))))))))))))))))))))))))))))).trans xf) s8)) (pne _ (by omega))
        · exact .pl (sq (Evl.ex_t (show Ex H11 H911 from ((x12.trans (x13.trans (x14.trans (x15.trans (x16.trans (x17.trans (x18.trans (x19.trans (x20.trans (x21.trans (x22.trans (x23.trans (x24.trans (x25.trans (x26.trans (x27.trans (x28.trans (x29.trans (x30.trans (x31.trans (x32.trans (x33.trans (x34.trans (x35.trans (x36.trans (x37.trans (x38.trans (x39.trans (x40.trans (x41.trans (x42.trans (x43.trans (x44.trans (x45.trans (x46.trans (x47.trans (x48.trans (x49.trans (x50.trans (x51.trans (x52.trans (x53.trans (x54.trans (x55.trans (x56.trans (x57.trans (x58.trans (x59.trans (x60.trans (x61.trans (x62.trans (x63.trans x64))))))))))))))))))))))))))))))))))))))))))))))))))))).trans xf) s11)) (pne _ (by omega))
        · exact .fst (sq (Evl.ex_t (show Ex H14 H911 from ((x15.trans (x16.trans (x17.trans (x18.trans (x19.trans (x20.trans (x21.trans (x22.trans (x23.trans (x24.trans (x25.trans (x26.trans (x27.trans (x28.trans (x29.trans (x30.trans (x31.trans (x32.trans (x33.trans (x34.trans (x35.trans (x36.trans (x37.trans (x38.trans (x39.trans (x40.trans (x41.trans (x42.trans (x43.trans (x44.trans (x45.trans (x46.trans (x47.trans (x48.trans (x49.trans (x50.trans (x51.trans (x52.trans (x53.trans (x54.trans (x55.trans (x56.trans (x57.trans (x58.trans (x59.trans (x60.trans (x61.trans (x62.trans (x63.trans x64)))))))))))))))))))))))))))))))))))))))))))))))))).trans xf) s14)) (fun _ _ => .base .non) (kit_ty (show kitB "NoneType" "int" = some false by decide +kernel)) (kit_ty (show kitB "NoneType" "bool" = some false by decide +kernel)) rfl
        · exact .fst (sq (Evl.ex_t (show Ex H19 H911 from ((x20.trans (x21.trans (x22.trans (x23.trans (x24.trans (x25.trans (x26.trans (x27.trans (x28.trans (x29.trans (x30.trans (x31.trans (x32.trans (x33.trans (x34.trans (x35.trans (x36.trans (x37.trans (x38.trans (x39.trans (x40.trans (x41.trans (x42.trans (x43.trans (x44.trans (x45.trans (x46.trans (x47.trans (x48.trans (x49.trans (x50.trans (x51.trans (x52.trans (x53.trans (x54.trans (x55.trans (x56.trans (x57.trans (x58.trans (x59.trans (x60.trans (x61.trans (x62.trans (x63.trans x64))))))))))))))))))))))))))))))))))))))))))))).trans xf) s19)) (fun _ e => ty_lst (Evl.sq_of (e _ _ (nw e15 n16 (xf _ _ ((x17.trans (x18.trans (x19.trans (x20.trans (x21.trans (x22.trans (x23.trans (x24.trans (x25.trans (x26.trans (x27.trans (x28.trans (x29.trans (x30.trans (x31.trans (x32.trans (x33.trans (x34.trans (x35.trans (x36.trans (x37.trans (x38.trans (x39.trans (x40.trans (x41.trans (x42.trans (x43.trans (x44.trans (x45.trans (x46.trans (x47.trans (x48.trans (x49.trans (x50.trans (x51.trans (x52.trans (x53.trans (x54.trans (x55.trans (x56.trans (x57.trans (x58.trans (x59.trans (x60.trans (x61.trans (x62.trans (x63.trans x64))))))))))))))))))))))))))))))))))))))))))))))) _ _ s16)))))) (kit_ty (show kitB "list" "int" = some false by decide +kernel)) (kit_ty (show kitB "list" "bool" = some false by decide +kernel)) rfl
        · exact bit (sq (Evl.ex_t (show Ex H22 H911 from ((x23.trans (x24.trans (x25.trans (x26.trans (x27.trans (x28.trans (x29.trans (x30.trans (x31.trans (x32.trans (x33.trans (x34.trans (x35.trans (x36.trans (x37.trans (x38.trans (x39.trans (x40.trans (x41.trans (x42.trans (x43.trans (x44.trans (x45.trans (x46.trans (x47.trans (x48.trans (x49.trans (x50.trans (x51.trans (x52.trans (x53.trans (x54.trans (x55.trans (x56.trans (x57.trans (x58.trans (x59.trans (x60.trans (x61.trans (x62.trans (x63.trans x64)))))))))))))))))))))))))))))))))))))))))).trans xf) s22)) (.int (by simp; try omega))
        · exact bit (sq (Evl.ex_t (show Ex H25 H911 from ((x26.trans (x27.trans (x28.trans (x29.trans (x30.trans (x31.trans (x32.trans (x33.trans (x34.trans (x35.trans (x36.trans (x37.trans (x38.trans (x39.trans (x40.trans (x41.trans (x42.trans (x43.trans (x44.trans (x45.trans (x46.trans (x47.trans (x48.trans (x49.trans (x50.trans (x51.trans (x52.trans (x53.trans (x54.trans (x55.trans (x56.trans (x57.trans (x58.trans (x59.trans (x60.trans (x61.trans (x62.trans (x63.trans x64))))))))))))))))))))))))))))))))))))))).trans xf) s25)) (.int (by simp; try omega))
        · exact bit (sq (Evl.ex_t (show Ex H28 H911 from ((x29.trans (x30.trans (x31.trans (x32.trans (x33.trans (x34.trans (x35.trans (x36.trans (x37.trans (x38.trans (x39.trans (x40.trans (x41.trans (x42.trans (x43.trans (x44.trans (x45.trans (x46.trans (x47.trans (x48.trans (x49.trans (x50.trans (x51.trans (x52.trans (x53.trans (x54.trans (x55.trans (x56.trans (x57.trans (x58.trans (x59.trans (x60.trans (x61.trans (x62.trans (x63.trans x64)))))))))))))))))))))))))))))))))))).trans xf) s28)) (badIB _)
        · exact bit (sq (Evl.ex_t (show Ex H31 H911 from ((x32.trans (x33.trans (x34.trans (x35.trans (x36.trans (x37.trans (x38.trans (x39.trans (x40.trans (x41.trans (x42.trans (x43.trans (x44.trans (x45.trans (x46.trans (x47.trans (x48.trans (x49.trans (x50.trans (x51.trans (x52.trans (x53.trans (x54.trans (x55.trans (x56.trans (x57.trans (x58.trans (x59.trans (x60.trans (x61.trans (x62.trans (x63.trans x64))))))))))))))))))))))))))))))))).trans xf) s31)) (badIT (.inl rfl) fun _ _ => .base .non)
        · exact bit (sq (Evl.ex_t (show Ex H36 H911 from ((x37.trans (x38.trans (x39.trans (x40.trans (x41.trans (x42.trans (x43.trans (x44.trans (x45.trans (x46.trans (x47.trans (x48.trans (x49.trans (x50.trans (x51.trans (x52.trans (x53.trans (x54.trans (x55.trans (x56.trans (x57.trans (x58.trans (x59.trans (x60.trans (x61.trans (x62.trans (x63.trans x64)))))))))))))))))))))))))))).trans xf) s36)) (.str (by decide +kernel))
        · exact bit (sq (Evl.ex_t (show Ex H40 H911 from ((x41.trans (x42.trans (x43.trans (x44.trans (x45.trans (x46.trans (x47.trans (x48.trans (x49.trans (x50.trans (x51.trans (x52.trans (x53.trans (x54.trans (x55.trans (x56.trans (x57.trans (x58.trans (x59.trans (x60.trans (x61.trans (x62.trans (x63.trans x64)))))))))))))))))))))))).trans xf) s40)) (badIT (.inr (.inl rfl)) fun _ e => ty_lst (Evl.sq_of (e _ _ (nw e37 n38 (xf _ _ ((x39.trans (x40.trans (x41.trans (x42.trans (x43.trans (x44.trans (x45.trans (x46.trans (x47.trans (x48.trans (x49.trans (x50.trans (x51.trans (x52.trans (x53.trans (x54.trans (x55.trans (x56.trans (x57.trans (x58.trans (x59.trans (x60.trans (x61.trans (x62.trans (x63.trans x64))))))))))))))))))))))))) _ _ s38))))))
        · exact bit (sq (Evl.ex_t (show Ex H44 H911 from ((x45.trans (x46.trans (x47.trans (x48.trans (x49.trans (x50.trans (x51.trans (x52.trans (x53.trans (x54.trans (x55.trans (x56.trans (x57.trans (x58.trans (x59.trans (x60.trans (x61.trans (x62.trans (x63.trans x64)))))))))))))))))))).trans xf) s44)) (badIT (.inr (.inr (.inr rfl))) fun _ e => .base (.dK (e _ _ (nw e41 n42 (xf _ _ ((x43.trans (x44.trans (x45.trans (x46.trans (x47.trans (x48.trans (x49.trans (x50.trans (x51.trans (x52.trans (x53.trans (x54.trans (x55.trans (x56.trans (x57.trans (x58.trans (x59.trans (x60.trans (x61.trans (x62.trans (x63.trans x64))))))))))))))))))))) _ _ s42))))))
        · exact .ty (fun _ _ => .base (.str _)) (k_tuple (.str "row"))
        · exact .ty (fun _ _ => .base (.int _)) (k_tuple (.int 0))
        · exact .fst (sq (Evl.ex_t (show Ex H47 H911 from ((x48.trans (x49.trans (x50.trans (x51.trans (x52.trans (x53.trans (x54.trans (x55.trans (x56.trans (x57.trans (x58.trans (x59.trans (x60.trans (x61.trans (x62.trans (x63.trans x64))))))))))))))))).trans xf) s47)) (fun _ _ => .base (.str _)) (kit_ty (show kitB "str" "int" = some false by decide +kernel)) (kit_ty (show kitB "str" "bool" = some false by decide +kernel)) rfl
        · exact .ty (fun _ e => .base (.dK (e _ _ (nw e47 n48 (xf _ _ ((x49.trans (x50.trans (x51.trans (x52.trans (x53.trans (x54.trans (x55.trans (x56.trans (x57.trans (x58.trans (x59.trans (x60.trans (x61.trans (x62.trans (x63.trans x64))))))))))))))) _ _ s48)))))) (k_tuple (.dict []))
        · exact .fst (sq (Evl.ex_t (show Ex H53 H911 from ((x54.trans (x55.trans (x56.trans (x57.trans (x58.trans (x59.trans (x60.trans (x61.trans (x62.trans (x63.trans x64))))))))))).trans xf) s53)) (fun _ _ => .base (.bl _)) (kit_ty (show kitB "bool" "int" = some true by decide +kernel)) (kit_ty (show kitB "bool" "bool" = some true by decide +kernel)) rfl
        · exact .fst (sq (Evl.ex_t (show Ex H56 H911 from ((x57.trans (x58.trans (x59.trans (x60.trans (x61.trans (x62.trans (x63.trans x64)))))))).trans xf) s56)) (fun _ _ => .base (.bl _)) (kit_ty (show kitB "bool" "int" = some true by decide +kernel)) (kit_ty (show kitB "bool" "bool" = some true by decide +kernel)) rfl
        · exact bit (sq (Evl.ex_t (show Ex H59 H911 from ((x60.trans (x61.trans (x62.trans (x63.trans x64))))).trans xf) s59)) (.str (by decide +kernel))
        · exact bit (sq (Evl.ex_t (show Ex H62 H911 from ((x63.trans x64)).trans xf) s62)) (.str (by decide +kernel))
      · obtain ⟨z, hz1, rfl⟩ := List.mem_map.mp h
        obtain ⟨j, j1, j2, j3⟩ := hz z hz1
        refine .pl (sq (Evl.ex_t x911 j3)) fun p' hp' e => ?_
        have h3 := (List.mem_filter.mp hp').2
        rw [show p' = j from by omega, j2] at h3
        cases h3
    exact q FZ H9 x (fun b o nb e => o9 b o nb (k911 b o nb e)) (s9.up (by omega)) (fun b o e => by
      have nm : ¬ M b := fun y => by rw [z1 b y] at e; cases e
      rw [z2 b nm] at e
      exact o9 b o (fun y => nm (by rw [y]; exact mok.p)) e) z1 (allF x (List.mem_of_getElem? hx))
end
end Fc
set_option maxRecDepth 100000
set_option maxHeartbeats 4000000
namespace Fc
open PySem PySem.Spec PyProof.Rows L2 FcR
open Evl (Ex)
def sp_leafB (K : PySem.W.Frag) : Sp := fun vs H Q _ => ∃ (F : Hp) (p : Addr) (n loops : Nat), vs = [.ref p, .int (loops : Int)] ∧ Ex F H ∧ F p = none ∧ SrcB H p n ∧ n ≤ 900000000 ∧ loops < 1000 ∧
  ∀ (F' H' : Hp) (v : V) (d : PyData), Gr (fun b => b = p) F H F' H' → F' p = none → SrcB H' p (n + 2) → Dp K F' v d → (∀ r k b, 1 ≤ r → 1 ≤ k → b ≤ 25 → SB r k loops b d) → Q v H'
section
variable {P : Program} {w : World} {h : Heap} {K : PySem.W.Frag} {mg : Str → Option Value} {base : Heap}
abbrev N_law_leaf : List Str := ["_law_source_here", "_law_loops", "_law_way"]
theorem sc_law_leaf : FnScope N_law_leaf ["_law_source_here", "_law_loops"] (defScope sd_law_leaf) := ⟨rfl, rfl, rfl, by decide +kernel, rfl, by decide +kernel, by decide +kernel⟩
theorem ok_law_leaf (T : Tx w h K mg) : Ok P w K mg base 4 ("_law_leaf", none) ["_law_source_here", "_law_loops"] (sp_leafB K) := by
  obtain ⟨fd, F⟩ := F_law_leaf T
  refine ⟨fd, ?_, F.bindsN (fun _ _ _ _ _ _ us hl => match us, hl with | [_, _], _ => rfl), F.kp⟩
  obtain ⟨fd_law_draw, G_law_draw, bi_law_draw, kp_law_draw⟩ := ok_law_draw (P := P) (base := base) T
  obtain ⟨fd_law_name, G_law_name, bi_law_name, kp_law_name⟩ := ok_law_name (P := P) (base := base) T
  refine F.ok sc_law_leaf (fun vs H Q E h => ?_) (fun cdv A outer s H vs Q E hr h => ?_)
  · obtain ⟨F, p, n, loops, rfl, xF, fp, hp, hn, hlp, q⟩ := h
    rfl
  · obtain ⟨F, p, n, loops, rfl, xF, fp, hp, hn, hlp, q⟩ := h
    refine ⟨_, PSs.nox (pss_cons (ps_set (i := 2) sc_law_leaf.nd rfl (Or.inl rfl) (pe_call G_law_draw (hr.mono (by decide)) rfl (g_law_draw T) kp_law_draw bi_law_draw .nil passF (pa_cons (pv 0) (pa_cons pe_int pa_nil)))) (pss_cons (ps_if (pt_cmpR op_gt (pv 2) pe_int (nomark _)) (pss_one (ps_ret (pe_ix ix_list (pe_lst (pa_cons (pe_tup (pa_cons pe_str pa_nil)) (pa_cons (pe_tup (pa_cons pe_str pa_nil)) (pa_cons (pe_tup (pa_cons pe_str pa_nil)) pa_nil)))) (pe_op op_sub (pv 2) pe_int) (fun _ _ => rfl)))) pss_nil) (pss_cons (ps_if (PW.pt (pw_and (pt_cmpR op_gt (pv 2) pe_int (nomark _)) (pw_and1 (pt_cmpR op_gt (pv 1) pe_int (nomark _))))) (pss_one (ps_ret (pe_tup (pa_cons (pe_ix ix_list (pe_lst (pa_cons pe_str (pa_cons pe_str pa_nil))) (pe_op op_mod (pe_callTy call_int1 rfl (fr_int T) b_int (pa_cons (pv 2) pa_nil)) pe_int) (fun _ _ => rfl)) (pa_cons (pe_op op_add pe_int (pe_call G_law_draw (hr.mono (by decide)) rfl (g_law_draw T) kp_law_draw bi_law_draw .nil passF (pa_cons (pv 0) (pa_cons (pv 1) pa_nil)))) pa_nil))))) pss_nil) (pss_one (ps_ret (pe_tup (pa_cons (pe_ix ix_list (pe_lst (pa_cons pe_str (pa_cons pe_str pa_nil))) (pe_callTy call_int1 rfl (fr_int T) b_int (pa_cons (pe_cmpR op_gt (pv 2) pe_int (nomark _)) pa_nil)) (fun _ _ => rfl)) (pa_cons (pe_call G_law_name (hr.mono (by decide)) rfl (g_law_name T) kp_law_name bi_law_name .nil passF (pa_cons (pv 0) pa_nil)) pa_nil)))))))), ?_⟩
    refine ⟨_, rfl, p, n, 10, rfl, hp, by omega, by decide, by decide, fun v H1 v0 v1 s1 o1 => ?_⟩
    have g1 : Gr (fun b => b = p) F H F H1 := gr_kp xF fp o1
    have fin : ∀ {Hx H5 : Hp} {q5 : Addr} {xs : List V} {ds : List PyData}, Gr (fun b => b = p) F H F Hx → Hx q5 = none → H5 q5 = some (.tup xs) → (∀ b, b ≠ q5 → H5 b = Hx b) → SrcB Hx p (n + 2) → DpAll K (upd F q5 (.tup xs)) xs ds → (∀ r k b, 1 ≤ r → 1 ≤ k → b ≤ 25 → SB r k loops b (.tuple ds)) → Q (.ref q5) H5 := fun {Hx H5 q5 xs ds} g n5 s5 o5 sp da sd => by
      have pq : p ≠ q5 := fun z => by
        obtain ⟨b1, b2, b3, hb, _⟩ := sp
        rw [z, n5] at hb
        cases hb
      exact q (upd F q5 (.tup xs)) H5 _ _ (g.trans (Gr.frz g.fh n5 s5 o5)) (by rw [upd_ne pq]; exact fp) (sp.kp fun o h => by rw [o5 p pq]; exact h) (.tup (Evl.st_of upd_same) da) sd
    refine ⟨_, rfl, _, _, rfl, rfl, _, rfl, ite_of (fun h2 => ?_) (fun h2 => ?_)⟩
    · have h2 := of_decide_eq_true h2
      refine ⟨sz (by simp), ?_⟩
      intro p2 n2
      generalize e2 : upd _ p2 _ = H2
      obtain ⟨x2, s2, o2⟩ := new_of e2 n2
      clear e2
      refine ⟨sz (by simp), ?_⟩
      intro p3 n3
      generalize e3 : upd _ p3 _ = H3
      obtain ⟨x3, s3, o3⟩ := new_of e3 n3
      clear e3
      refine ⟨sz (by simp), ?_⟩
      intro p4 n4
      generalize e4 : upd _ p4 _ = H4
      obtain ⟨x4, s4, o4⟩ := new_of e4 n4
      clear e4
      refine ⟨sz (by simp), ?_⟩
      intro p5 n5
      generalize e5 : upd _ p5 _ = H5
      obtain ⟨x5, s5, o5⟩ := new_of e5 n5
      clear e5
      have x15 : Ex H1 H5 := x2.trans (x3.trans (x4.trans x5))
      have g5 := g1.trans (Gr.new g1.fh x15)
      have hx : ∀ {b : Addr}, H1 b = none → H b = none := fun {b} hb => by
        cases z : H b with
        | none => rfl
        | some o =>
          by_cases e : b = p
          · obtain ⟨_, _, _, hs, _⟩ := s1
            rw [e, hs] at hb
            cases hb
          · rw [o1 b o e z] at hb
            cases hb
      obtain ⟨j, hj, hj3⟩ : ∃ j : Nat, v - 7 = (j : Int) ∧ j < 3 := ⟨(v - 7).toNat, by omega, by omega⟩
      obtain ⟨px, kq, hpx, hpn, hps, hkq⟩ : ∃ (px : Addr) (kq : Str), [V.ref p2, .ref p3, .ref p4][j]? = some (.ref px) ∧ H1 px = none ∧ H5 px = some (.tup [.str kq]) ∧ (kq = "return" ∨ kq = "raise") := by
        have : j = 0 ∨ j = 1 ∨ j = 2 := by omega
        rcases this with rfl | rfl | rfl
        · exact ⟨p2, _, rfl, n2, x5 _ _ (x4 _ _ (x3 _ _ s2)), .inl rfl⟩
        · exact ⟨p3, _, rfl, ex_none x2 n3, x5 _ _ (x4 _ _ s3), .inr rfl⟩
        · exact ⟨p4, _, rfl, ex_none (x2.trans x3) n4, x5 _ _ s4, .inr rfl⟩
      refine ⟨_, rfl, _, _, rfl, rfl, p5, _, (j : Int), .ref px, rfl, congrArg V.int hj, Evl.sq_of s5, atI_nat hpx, ?_⟩
      have pp : p ≠ px := fun z => by obtain ⟨_, _, _, hs, _⟩ := s1; rw [z, hpn] at hs; cases hs
      refine q (upd F px (.tup [.str kq])) H5 _ _ (g5.frzAt (hx hpn) hps (ex_none xF (hx hpn))) (by rw [upd_ne pp]; exact fp) ((s1.kp fun o h => x15 _ _ h).up (by omega)) (.tup (Evl.st_of upd_same) (.cons (.str _) .nil)) fun r k b h1 h2 h3 => sb_ret h1 h2 h3 hkq
    refine ⟨_, rfl, _, _, rfl, rfl, _, rfl, ?_⟩
    by_cases hv2 : 2 < v
    · by_cases hl0 : 0 < loops
      · refine itT (decide_eq_true hv2) ?_
        refine ⟨_, rfl, _, _, rfl, rfl, _, rfl, itT (decide_eq_true (show (0 : Int) < (loops : Int) by omega)) ?_⟩
        refine ⟨sz (by simp), ?_⟩
        intro p2 n2
        generalize e2 : upd _ p2 _ = H2
        obtain ⟨x2, s2, o2⟩ := new_of e2 n2
        clear e2
        obtain ⟨j, hj, hj2⟩ : ∃ j : Nat, v % 2 = (j : Int) ∧ j < 2 := ⟨(v % 2).toNat, by omega, by omega⟩
        obtain ⟨kq, hkq, kk⟩ : ∃ kq : Str, [V.str "break", .str "continue"][j]? = some (.str kq) ∧ (kq = "break" ∨ kq = "continue") := by
          have : j = 0 ∨ j = 1 := by omega
          rcases this with rfl | rfl
          · exact ⟨_, rfl, .inl rfl⟩
          · exact ⟨_, rfl, .inr rfl⟩
        refine ⟨_, rfl, .inl ⟨_, rfl, _, _, rfl, rfl, (show (0 : Int) < 2 by decide), p2, _, (j : Int), .str kq, rfl, congrArg V.int hj, Evl.sq_of s2, atI_nat hkq, ?_⟩⟩
        have pn : p2 ≠ p := fun z => by obtain ⟨_, _, _, h, _⟩ := s1; rw [z, h] at n2; cases n2
        refine ⟨_, rfl, _, rfl, p, n + 1, _, rfl, s1.kp fun o h => x2 _ _ h, by omega, by omega, by omega, fun v' H3 w0 w1 s3 o3 => ?_⟩
        refine ⟨_, _, rfl, rfl, sz (by simp), ?_⟩
        intro p4 n4
        generalize e4 : upd _ p4 _ = H4
        obtain ⟨x4, s4, o4⟩ := new_of e4 n4
        clear e4
        have g2 := g1.trans (Gr.new g1.fh x2)
        have g3 := g2.trans (gr_kp g2.fh fp o3)
        exact fin g3 n4 s4 o4 s3 (.cons (.str _) (.cons (.int _) .nil)) fun r k b h1 h2 h3 => sb_jmp h1 h2 h3 kk (by omega) (by omega)
      · refine itT (decide_eq_true hv2) ?_
        refine ⟨_, rfl, _, _, rfl, rfl, _, rfl, itF (decide_eq_false (show ¬ (0 : Int) < (loops : Int) by omega)) ?_⟩
        refine ⟨sz (by simp), ?_⟩
        intro p2 n2
        generalize e2 : upd _ p2 _ = H2
        obtain ⟨x2, s2, o2⟩ := new_of e2 n2
        clear e2
        obtain ⟨kq, hkq, kk⟩ : ∃ kq : Str, [V.str "do", .str "call"][(if decide (0 < v) = true then 1 else 0 : Nat)]? = some (.str kq) ∧ (kq = "do" ∨ kq = "call") := by
          cases decide (0 < v)
          · exact ⟨_, rfl, .inl rfl⟩
          · exact ⟨_, rfl, .inr rfl⟩
        have hji : (if decide (0 < v) = true then (1 : Int) else 0) = ((if decide (0 < v) = true then 1 else 0 : Nat) : Int) := by cases decide (0 < v) <;> rfl
        refine ⟨_, rfl, _, _, rfl, rfl, .inr ⟨_, rfl, p2, _, _, .str kq, rfl, congrArg V.int hji, Evl.sq_of s2, atI_nat hkq, ?_⟩⟩
        refine ⟨_, rfl, p, n + 1, rfl, s1.kp fun o h => x2 _ _ h, by omega, fun H3 nm hm s3 o3 => ?_⟩
        refine ⟨sz (by simp), ?_⟩
        intro p4 n4
        generalize e4 : upd _ p4 _ = H4
        obtain ⟨x4, s4, o4⟩ := new_of e4 n4
        clear e4
        have g2 := g1.trans (Gr.new g1.fh x2)
        have g3 := g2.trans (gr_kp g2.fh fp o3)
        exact fin g3 n4 s4 o4 s3 (.cons (.str _) (.cons (.str _) .nil)) fun r k b h1 h2 h3 => sb_do h1 h2 h3 kk hm
    · refine itF (decide_eq_false hv2) ?_
      refine ⟨sz (by simp), ?_⟩
      intro p2 n2
      generalize e2 : upd _ p2 _ = H2
      obtain ⟨x2, s2, o2⟩ := new_of e2 n2
      clear e2
      obtain ⟨kq, hkq, kk⟩ : ∃ kq : Str, [V.str "do", .str "call"][(if decide (0 < v) = true then 1 else 0 : Nat)]? = some (.str kq) ∧ (kq = "do" ∨ kq = "call") := by
        cases decide (0 < v)
        · exact ⟨_, rfl, .inl rfl⟩
        · exact ⟨_, rfl, .inr rfl⟩
      have hji : (if decide (0 < v) = true then (1 : Int) else 0) = ((if decide (0 < v) = true then 1 else 0 : Nat) : Int) := by cases decide (0 < v) <;> rfl
      refine ⟨_, rfl, _, _, rfl, rfl, .inr ⟨_, rfl, p2, _, _, .str kq, rfl, congrArg V.int hji, Evl.sq_of s2, atI_nat hkq, ?_⟩⟩
      refine ⟨_, rfl, p, n + 1, rfl, s1.kp fun o h => x2 _ _ h, by omega, fun H3 nm hm s3 o3 => ?_⟩
      refine ⟨sz (by simp), ?_⟩
      intro p4 n4
      generalize e4 : upd _ p4 _ = H4
      obtain ⟨x4, s4, o4⟩ := new_of e4 n4
      clear e4
      have g2 := g1.trans (Gr.new g1.fh x2)
      have g3 := g2.trans (gr_kp g2.fh fp o3)
      exact fin g3 n4 s4 o4 s3 (.cons (.str _) (.cons (.str _) .nil)) fun r k b h1 h2 h3 => sb_do h1 h2 h3 kk hm
end
end Fc
set_option maxRecDepth 100000
set_option maxHeartbeats 4000000
namespace Fc
open PySem PySem.Spec PyProof.Rows L2 FcR
open Evl (Ex)
theorem sbs_nil {k l b r : Nat} {ds : List PyData} (h : SBs k l b r ds) : ds = [] → r = 0 := by
  cases h with
  | nil => exact fun _ => rfl
  | snoc => intro e; simp at e
def sp_stmB (K : PySem.W.Frag) (n : Nat) : Sp := fun vs H Q _ => ∃ (F : Hp) (p : Addr) (m room deep loops blocks : Nat), vs = [.ref p, .int (room : Int), .int (deep : Int), .int (loops : Int), .int (blocks : Int)] ∧ deep ≤ n ∧ 1 ≤ room ∧ 1 ≤ deep ∧ room ≤ 400 ∧ loops + deep ≤ 900 ∧ blocks ≤ 25 ∧ Ex F H ∧ F p = none ∧ SrcB H p m ∧ m + 8 * room ≤ 900000000 ∧
  ∀ (F' H' : Hp) (v : V) (d : PyData), Gr (fun b => b = p) F H F' H' → F' p = none → SrcB H' p (m + 8 * room) → Dp K F' v d → SB room deep loops blocks d → Q v H'
section
variable {P : Program} {w : World} {h : Heap} {K : PySem.W.Frag} {mg : Str → Option Value} {base : Heap}
theorem st_preB (n : Nat) (IH : ∀ m, m < n → Ok P w K mg base (m + 5) ("_law_statement", none) ["_law_source_here", "_law_room", "_law_deep", "_law_loops", "_law_blocks"] (sp_stmB K m)) (T : Tx w h K mg) :
    Ok P w K mg base (n + 4) ("_law_statement", none) ["_law_source_here", "_law_room", "_law_deep", "_law_loops", "_law_blocks"] (fun vs H Q E => ∃ m, m < n ∧ sp_stmB K m vs H Q E) := by
  cases n with
  | zero =>
    obtain ⟨fd, F⟩ := F_law_statement T
    refine ⟨fd, ⟨fun vs H Q E h => ?_, fun A outer s H args us vs Q E _ _ _ _ h => ?_⟩, F.bindsN (fun _ _ _ _ _ _ us hl => match us, hl with | [_, _, _, _, _], _ => rfl), F.kp⟩
    · obtain ⟨m, h, _⟩ := h
      exact absurd h (Nat.not_lt_zero _)
    · obtain ⟨m, h, _⟩ := h
      exact absurd h (Nat.not_lt_zero _)
  | succ n =>
    obtain ⟨fd, G, b, kp⟩ := IH n (Nat.lt_succ_self _)
    refine ⟨fd, G.imp fun vs H Q E h => ?_, b, kp⟩
    obtain ⟨m, hm, F, p, m0, room, deep, loops, blocks, e, hd, r⟩ := h
    exact ⟨F, p, m0, room, deep, loops, blocks, e, by omega, r⟩
abbrev N_law_statement : List Str := ["_law_source_here", "_law_room", "_law_deep", "_law_loops", "_law_blocks", "_law_way", "_law_parts", "_law_rest", "_law_turn", "_law_share", "_law_one", "_law_other"]
theorem sc_law_statement : FnScope N_law_statement ["_law_source_here", "_law_room", "_law_deep", "_law_loops", "_law_blocks"] (defScope sd_law_statement) := ⟨rfl, rfl, rfl, by decide +kernel, rfl, by decide +kernel, by decide +kernel⟩
theorem ok_law_statement (n : Nat) (IH : ∀ m, m < n → Ok P w K mg base (m + 5) ("_law_statement", none) ["_law_source_here", "_law_room", "_law_deep", "_law_loops", "_law_blocks"] (sp_stmB K m)) (T : Tx w h K mg) : Ok P w K mg base (n+5) ("_law_statement", none) ["_law_source_here", "_law_room", "_law_deep", "_law_loops", "_law_blocks"] (sp_stmB K n) := by
  obtain ⟨fd, F⟩ := F_law_statement T
  refine ⟨fd, ?_, F.bindsN (fun _ _ _ _ _ _ us hl => match us, hl with | [_, _, _, _, _], _ => rfl), F.kp⟩
  obtain ⟨fd_law_draw, G_law_draw, bi_law_draw, kp_law_draw⟩ := ok_law_draw (P := P) (base := base) T
  obtain ⟨fd_law_leaf, G_law_leaf, bi_law_leaf, kp_law_leaf⟩ := ok_law_leaf (P := P) (base := base) T
  obtain ⟨fd_law_name, G_law_name, bi_law_name, kp_law_name⟩ := ok_law_name (P := P) (base := base) T
  obtain ⟨fd_law_statement, G_law_statement, bi_law_statement, kp_law_statement⟩ : Ok P w K mg base (n + 4) ("_law_statement", none) ["_law_source_here", "_law_room", "_law_deep", "_law_loops", "_law_blocks"] (fun vs H Q E => ∃ m, m < n ∧ sp_stmB K m vs H Q E) := st_preB n IH T
  refine F.ok sc_law_statement (fun vs H Q E h => ?_) (fun cdv A outer s H vs Q E hr h => ?_)
  · obtain ⟨F, p, m, room, deep, loops, blocks, rfl, hn, r1, d1, r4, hlp, hbl, xF, fp, hp, hm, q⟩ := h
    rfl
  · obtain ⟨F, p, m, room, deep, loops, blocks, rfl, hn, r1, d1, r4, hlp, hbl, xF, fp, hp, hm, q⟩ := h
    refine ⟨_, PSs.nox (pss_cons (ps_set (i := 5) sc_law_statement.nd rfl (Or.inl rfl) (pe_call G_law_draw (hr.mono (by omega)) rfl (g_law_draw T) kp_law_draw bi_law_draw .nil passF (pa_cons (pv 0) (pa_cons pe_int pa_nil)))) (pss_cons (ps_if (PW.pt (pw_or (pt_cmpR op_lt (pv 1) pe_int (nomark _)) (pw_or (pt_cmpR op_lt (pv 2) pe_int (nomark _)) (pw_or1 (pt_cmpR op_eq (pv 5) pe_int (nomark _)))))) (pss_one (ps_ret (pe_call G_law_leaf (hr.mono (by omega)) rfl (g_law_leaf T) kp_law_leaf bi_law_leaf .nil passF (pa_cons (pv 0) (pa_cons (pv 3) pa_nil))))) pss_nil) (pss_cons (ps_if (pt_cmpR op_lt (pv 5) pe_int (nomark _)) (pss_one (ps_ret (pe_tup (pa_cons pe_str (pa_cons (pe_call G_law_name (hr.mono (by omega)) rfl (g_law_name T) kp_law_name bi_law_name .nil passF (pa_cons (pv 0) pa_nil)) (pa_cons (pe_call G_law_statement (hr.mono (by omega)) rfl (g_law_statement T) kp_law_statement bi_law_statement .nil passF (pa_cons (pv 0) (pa_cons (pe_op op_sub (pv 1) pe_int) (pa_cons (pe_op op_sub (pv 2) pe_int) (pa_cons (pe_op op_add (pv 3) pe_int) (pa_cons (pv 4) pa_nil)))))) pa_nil)))))) pss_nil) (pss_cons (ps_if (PW.pt (pw_or (pt_cmpR op_lt (pv 1) pe_int (nomark _)) (pw_or1 (pt_cmpR op_gt (pv 5) pe_int (nomark _))))) (pss_cons (ps_par rfl sc_law_statement.nd (i := 6) (j := 7) rfl rfl (by decide) rfl rfl (pa_cons (pe_lst pa_nil) (pa_cons (pe_op op_sub (pv 1) pe_int) pa_nil)) (by rfl)) (pss_cons (ps_for PassesOwn.never rfl (pi_range1 rfl (fr_range T) (pa_cons (pe_op op_add pe_int (pe_call G_law_draw (hr.mono (by omega)) rfl (g_law_draw T) kp_law_draw bi_law_draw .nil passF (pa_cons (pv 0) (pa_cons pe_int pa_nil)))) pa_nil)) (pg_name (i := 8) sc_law_statement.nd rfl (Or.inl rfl)) (pss_one (ps_if (pt_cmpR op_gt (pv 7) pe_int (nomark _)) (pss_cons (ps_set (i := 9) sc_law_statement.nd rfl (Or.inl rfl) (pe_op op_add pe_int (pe_call G_law_draw (hr.mono (by omega)) rfl (g_law_draw T) kp_law_draw bi_law_draw .nil passF (pa_cons (pv 0) (pa_cons (pv 7) pa_nil))))) (pss_cons (ps_expr (pe_bm PySem.F.plainAttrs_list PySem.F.slot_list_append PySem.F.type_list_append mt_append (pv 6) (pa_cons (pe_call G_law_statement (hr.mono (by omega)) rfl (g_law_statement T) kp_law_statement bi_law_statement .nil passF (pa_cons (pv 0) (pa_cons (pv 9) (pa_cons (pe_op op_sub (pv 2) pe_int) (pa_cons (pv 3) (pa_cons (pv 4) pa_nil)))))) pa_nil))) (pss_one (ps_set (i := 7) sc_law_statement.nd rfl (Or.inl rfl) (pe_op op_sub (pv 7) (pv 9)))))) pss_nil))) (pss_one (ps_ret (pe_tup (pa_cons pe_str (pa_cons (pe_callTy call_tuple_of rfl (fr_tuple T) b_tuple (pa_cons (pv 6) pa_nil)) pa_nil))))))) pss_nil) (pss_cons (ps_set (i := 9) sc_law_statement.nd rfl (Or.inl rfl) (pe_op op_add pe_int (pe_call G_law_draw (hr.mono (by omega)) rfl (g_law_draw T) kp_law_draw bi_law_draw .nil passF (pa_cons (pv 0) (pa_cons (pe_op op_sub (pv 1) pe_int) pa_nil))))) (pss_cons (ps_set (i := 10) sc_law_statement.nd rfl (Or.inl rfl) (pe_call G_law_statement (hr.mono (by omega)) rfl (g_law_statement T) kp_law_statement bi_law_statement .nil passF (pa_cons (pv 0) (pa_cons (pv 9) (pa_cons (pe_op op_sub (pv 2) pe_int) (pa_cons (pv 3) (pa_cons (pv 4) pa_nil))))))) (pss_cons (ps_if (PW.pt (pw_and (pt_cmpR op_lt (pv 5) pe_int (nomark _)) (pw_and1 (pt_cmpR op_lt (pv 4) pe_int (nomark _))))) (pss_one (ps_ret (pe_tup (pa_cons pe_str (pa_cons (pv 10) (pa_cons (pe_call G_law_statement (hr.mono (by omega)) rfl (g_law_statement T) kp_law_statement bi_law_statement .nil passF (pa_cons (pv 0) (pa_cons (pe_op op_sub (pe_op op_sub (pv 1) pe_int) (pv 9)) (pa_cons (pe_op op_sub (pv 2) pe_int) (pa_cons (pv 3) (pa_cons (pe_op op_add (pv 4) pe_int) pa_nil)))))) pa_nil)))))) pss_nil) (pss_cons (ps_set (i := 11) sc_law_statement.nd rfl (Or.inl rfl) (pe_call G_law_statement (hr.mono (by omega)) rfl (g_law_statement T) kp_law_statement bi_law_statement .nil passF (pa_cons (pv 0) (pa_cons (pe_op op_sub (pe_op op_sub (pv 1) pe_int) (pv 9)) (pa_cons (pe_op op_sub (pv 2) pe_int) (pa_cons (pv 3) (pa_cons (pv 4) pa_nil))))))) (pss_one (ps_ret (pe_ifExp (pt_cmpR op_eq (pv 5) pe_int (nomark _)) (pe_tup (pa_cons pe_str (pa_cons (pv 10) (pa_cons (pv 11) pa_nil)))) (pe_tup (pa_cons pe_str (pa_cons (pe_call G_law_name (hr.mono (by omega)) rfl (g_law_name T) kp_law_name bi_law_name .nil passF (pa_cons (pv 0) pa_nil)) (pa_cons (pv 10) (pa_cons (pv 11) pa_nil)))))))))))))))), ?_⟩
    refine ⟨_, rfl, p, m, 12, rfl, hp, by omega, by decide, by decide, fun v H1 v0 v1 s1 o1 => ?_⟩
    have g1 : Gr (fun b => b = p) F H F H1 := gr_kp xF fp o1
    have leafQ : sp_leafB K [.ref p, .int (loops : Int)] H1 Q (fun _ _ _ => False) := ⟨F, p, m + 1, loops, rfl, g1.fh, fp, s1, by omega, by omega, fun F' H' v d g' f' s' dv sb => q F' H' v d (g1.trans g') f' (s'.up (by omega)) dv (sb _ _ _ r1 d1 hbl)⟩
    have fin : ∀ {F4 H4 H5 : Hp} {q5 : Addr} {xs : List V} {ds : List PyData} {m' : Nat}, Gr (fun b => b = p) F H F4 H4 → F4 p = none → H4 q5 = none → H5 q5 = some (.tup xs) → (∀ b, b ≠ q5 → H5 b = H4 b) → SrcB H4 p m' → m' ≤ m + 8 * room → DpAll K F4 xs ds → SB room deep loops blocks (.tuple ds) → Q (.ref q5) H5 := fun {F4 H4 H5 q5 xs ds m'} g f4 n5 s5 o5 sp hm' da sd => by
      have pq : p ≠ q5 := fun z => by
        obtain ⟨b1, b2, b3, hb, _⟩ := sp
        rw [z, n5] at hb
        cases hb
      exact q (upd F4 q5 (.tup xs)) H5 _ _ (g.trans (Gr.frz g.fh n5 s5 o5)) (by rw [upd_ne pq]; exact f4) ((sp.kp fun o h => by rw [o5 p pq]; exact h).up hm') (.tup (Evl.st_of upd_same) (dpA_ex (exu (Evl.Ex.refl _) (ex_none g.fh n5)) da)) sd
    have rec_ : ∀ {F4 H4 : Hp} {m' rm lp bk : Nat} {ri di li bi : Int} {Q' : VK}, ri = (rm : Int) → di = ((deep - 1 : Nat) : Int) → li = (lp : Int) → bi = (bk : Int) → 2 ≤ deep → Gr (fun b => b = p) F H F4 H4 → F4 p = none → SrcB H4 p m' → m' + 8 * rm ≤ 900000000 → 1 ≤ rm → rm ≤ 400 → lp + deep ≤ 901 → bk ≤ 25 → (∀ (F' H' : Hp) (v : V) (d : PyData), Gr (fun b => b = p) F4 H4 F' H' → F' p = none → SrcB H' p (m' + 8 * rm) → Dp K F' v d → SB rm (deep - 1) lp bk d → Q' v H') →
        (∃ k, k < n ∧ sp_stmB K k [.ref p, .int ri, .int di, .int li, .int bi] H4 Q' (fun _ _ _ => False)) := fun {F4 H4 m' rm lp bk ri di li bi Q'} e1 e2 e3 e4 d2 g f4 s4 hm' hr1 hr4 hl hb hq => by
      rw [e1, e2, e3, e4]
      exact ⟨deep - 1, by omega, F4, p, m', rm, deep - 1, lp, bk, rfl, Nat.le_refl _, hr1, by omega, hr4, by omega, hb, g.fh, f4, s4, hm', hq⟩
    by_cases hr2 : room < 2
    · refine ⟨_, rfl, _, _, rfl, rfl, _, rfl, itT (decide_eq_true (show (room : Int) < 2 by omega)) ?_⟩
      exact ⟨_, rfl, _, rfl, leafQ⟩
    refine ⟨_, rfl, _, _, rfl, rfl, _, rfl, itF (decide_eq_false (show ¬ (room : Int) < 2 by omega)) ?_⟩
    by_cases hd2 : deep < 2
    · refine ⟨_, rfl, _, _, rfl, rfl, _, rfl, itT (decide_eq_true (show (deep : Int) < 2 by omega)) ?_⟩
      exact ⟨_, rfl, _, rfl, leafQ⟩
    refine ⟨_, rfl, _, _, rfl, rfl, _, rfl, itF (decide_eq_false (show ¬ (deep : Int) < 2 by omega)) ?_⟩
    refine ⟨_, rfl, rfl, _, rfl, ite_of (fun h0 => ?_) (fun h0 => ?_)⟩
    · exact ⟨_, rfl, _, rfl, leafQ⟩
    obtain ⟨dm, rfl⟩ : ∃ dm, deep = dm + 1 := ⟨deep - 1, by omega⟩
    obtain ⟨rr, rfl⟩ : ∃ rr, room = rr + 1 := ⟨room - 1, by omega⟩
    have edm : ((dm + 1 : Nat) : Int) - 1 = ((dm + 1 - 1 : Nat) : Int) := by omega
    have hdd : dm + 1 - 1 = dm := rfl
    refine ⟨_, rfl, _, _, rfl, rfl, _, rfl, ite_of (fun h3 => ?_) (fun h3 => ?_)⟩
    · -- while
      refine ⟨_, rfl, p, m + 1, rfl, s1, by omega, fun H2 nm hnm s2 o2 => ?_⟩
      have g2 := g1.trans (gr_kp g1.fh fp o2)
      refine ⟨_, rfl, _, rfl, _, _, rfl, rfl, _, rfl, _, _, rfl, rfl, _, rfl, _, _, rfl, rfl, _, rfl, ?_⟩
      refine rec_ (rm := rr) (lp := loops + 1) (bk := blocks) (by show ((rr + 1 : Nat) : Int) - 1 = _; omega) edm (by omega) rfl (by omega) g2 fp s2 (by omega) (by omega) (by omega) (by omega) hbl fun F3 H3 va da g3 f3 s3 dva sba => ?_
      refine ⟨sz (by simp), ?_⟩
      intro p4 n4
      generalize e4 : upd _ p4 _ = H4
      obtain ⟨x4, s4, o4⟩ := new_of e4 n4
      clear e4
      exact fin (g2.trans g3) f3 n4 s4 o4 s3 (by omega) (.cons (.str _) (.cons (.str _) (.cons dva .nil))) (sb_whl hnm hbl sba)
    by_cases hr3 : rr + 1 < 3
    · refine ⟨_, rfl, _, _, rfl, rfl, _, rfl, itT (decide_eq_true (show ((rr + 1 : Nat) : Int) < 3 by omega)) ?_⟩
      refine ⟨sz (by simp), ?_⟩
      intro p2 n2
      generalize e2 : upd _ p2 _ = H2
      obtain ⟨x2, s2, o2⟩ := new_of e2 n2
      clear e2
      refine ⟨_, rfl, _, _, rfl, rfl, _, _, rfl, ?_⟩
      have p2p : p2 ≠ p := fun z => by obtain ⟨_, _, _, h, _⟩ := s1; rw [z, h] at n2; cases n2
      have nH2 : H p2 = none := by
        cases z : H p2 with
        | none => rfl
        | some o => rw [o1 p2 o p2p z] at n2; cases n2
      refine ⟨_, rfl, p, m + 1, 4, rfl, s1.kp fun o h => x2 _ _ h, by omega, by decide, by decide, fun c H3 c0 c1 s3 o3 => ?_⟩
      have g2 := g1.trans (Gr.new g1.fh x2)
      have g3 := g2.trans (gr_kp g2.fh fp o3)
      have l3 := o3 p2 _ p2p s2
      refine ⟨_, _, rfl, rfl, _, rfl, (by omega), (by omega), ?_⟩
      obtain ⟨cn, hcn⟩ : ∃ cn : Nat, ((1 : Int) + c).toNat = cn := ⟨_, rfl⟩
      rw [hcn]
      refine for_it (walk_range (lo := 0) (n := cn)) (fun i σ' H' => ∃ (F' : Hp) (ds : List PyData) (vs : List V) (rest used : Nat) (o8 o9 : Option V), σ' = [some (.ref p), some (.int ((rr + 1 : Nat) : Int)), some (.int ((dm + 1 : Nat) : Int)), some (.int (loops : Int)), some (.int (blocks : Int)), some (.int v), some (.ref p2), some (.int (rest : Int)), o8, o9, none, none] ∧ Gr (fun b => b = p) F H F' H' ∧ F' p = none ∧ F' p2 = none ∧ H' p2 = some (.lst vs) ∧ DpAll K F' vs ds ∧ SBs dm loops blocks used ds ∧ used + rest = rr ∧ ds.length ≤ i ∧ (1 ≤ i → ds ≠ []) ∧ SrcB H' p (m + 2 + i + 8 * used)) ?_ ?_ ?_ ?_
      · exact ⟨F, [], [], rr, 0, _, _, (by have e : ((rr + 1 : Nat) : Int) - 1 = (rr : Int) := by omega
                                           rw [← e] <;> rfl), g3, fp, ex_none g1.fh n2, l3, .nil, .nil, by omega, Nat.le_refl _, fun z => absurd z (by decide), s3.up (by omega)⟩
      · exact fun _ _ _ _ _ => True.intro
      · rintro i vi σ' Ha H4 hi ⟨F4, ds, vs, rest, used, o8, o9, rfl, g4, f4, f42, l4, da, sbs, hu, hdl, hne, s4⟩ ⟨rfl, _⟩
        have hi : i < cn := hi
        have i4 : i < 4 := by omega
        refine ⟨_, rfl, _, _, rfl, rfl, _, rfl, ite_of (fun h5 => ?_) (fun h5 => ?_)⟩
        · have h5 : 0 < rest := by have := of_decide_eq_true h5; omega
          refine ⟨_, rfl, _, rfl, p, _, _, rfl, s4, by omega, by omega, by omega, fun sh H5 sh0 sh1 s5 o5 => ?_⟩
          obtain ⟨sn, hsn⟩ : ∃ sn : Nat, (1 : Int) + sh = (sn : Int) := ⟨(1 + sh).toNat, by omega⟩
          have g5 := g4.trans (gr_kp g4.fh f4 o5)
          have l5 := o5 p2 _ p2p l4
          refine ⟨_, _, rfl, rfl, ?_⟩
          refine ⟨_, rfl, Or.inl ⟨rfl, _, Evl.sq_of l5⟩, _, rfl, _, rfl, _, rfl, _, _, rfl, rfl, _, rfl, _, rfl, ?_⟩
          refine rec_ (rm := sn) (lp := loops) (bk := blocks) hsn edm rfl rfl (by omega) g5 f4 s5 (by omega) (by omega) (by omega) (by omega) hbl fun F6 H6 va d6 g6 f6 s6 dva sba => ?_
          have l6 := g6.kp p2 _ l5 p2p
          have f62 : F6 p2 = none := g6.nw p2 (by rw [l5]; exact fun z => nomatch z) f42 p2p
          refine ⟨p2, _, _, rfl, rfl, l6, szl (by have := dpA_len da; omega), ?_⟩
          generalize e7 : upd _ p2 _ = H7
          obtain ⟨s7, o7⟩ := set_of e7
          clear e7
          refine ⟨_, rfl, _, rfl, _, _, rfl, rfl, ?_⟩
          have g56 := g5.trans g6
          refine ⟨F6, ds ++ [d6], vs ++ [va], rest - sn, used + sn, some vi, some (.int (1 + sh)), ?_, ⟨g56.ff, set_ex g56.fh f62 o7, g56.nw, fun b o e hb => by rw [o7 b (ne_of_none e nH2)]; exact g56.kp b o e hb⟩, f6, f62, s7, dpA_app (dpA_ex g6.ff da) (.cons dva .nil), .snoc sbs sba, by omega, (by simp; omega), (fun _ => by simp), ?_⟩
          · have e : (rest : Int) - (1 + sh) = ((rest - sn : Nat) : Int) := by omega
            rw [← e] <;> rfl
          · exact (s6.kp fun o h => by rw [o7 p p2p.symm]; exact h).up (by omega)
        · have h5 : rest = 0 := by have := of_decide_eq_false h5; omega
          refine ⟨F4, ds, vs, rest, used, _, _, rfl, g4, f4, f42, l4, da, sbs, hu, by omega, fun _ => ?_, s4.up (by omega)⟩
          rcases Nat.eq_zero_or_pos i with z | z
          · subst z
            have := sbs_nil sbs (List.eq_nil_of_length_eq_zero (by omega))
            omega
          · exact hne z
      rintro σ' H4 ⟨F4, ds, vs, rest, used, o8, o9, rfl, g4, f4, f42, l4, da, sbs, hu, hdl, hne, s4⟩
      have hdl : ds.length ≤ cn := hdl
      refine ⟨_, rfl, p2, vs, rfl, .inl ⟨Evl.sq_of l4, ?_⟩⟩
      intro p8 n8
      generalize e8 : upd _ p8 _ = H8
      obtain ⟨x8, s8, o8⟩ := new_of e8 n8
      clear e8
      refine ⟨sz (by simp), ?_⟩
      intro p9 n9
      generalize e9 : upd _ p9 _ = H9
      obtain ⟨x9, s9, o9⟩ := new_of e9 n9
      clear e9
      have p8p : p ≠ p8 := fun e => by obtain ⟨_, _, _, h, _⟩ := s4; rw [← e, h] at n8; cases n8
      have g8 := g4.trans (Gr.frz g4.fh n8 s8 o8)
      have hm9 : m + 2 + cn + 8 * used ≤ m + 8 * (rr + 1) := by omega
      exact fin (m' := m + 2 + cn + 8 * used) (ds := [.str "seq", .tuple ds]) g8 (by rw [upd_ne p8p]; exact f4) n9 s9 o9 (s4.kp fun o h => x8 _ _ h) hm9 (.cons (.str _) (.cons (.tup (Evl.st_of upd_same) (dpA_ex (exu (Evl.Ex.refl _) (ex_none g4.fh n8)) da)) .nil)) ((sb_seq hbl (hne (show 1 ≤ cn by omega)) (by omega) sbs).up (by omega) (Nat.le_refl _))
    refine ⟨_, rfl, _, _, rfl, rfl, _, rfl, itF (decide_eq_false (show ¬ ((rr + 1 : Nat) : Int) < 3 by omega)) ?_⟩
    refine ⟨_, rfl, _, _, rfl, rfl, _, rfl, ite_of (fun h9 => ?_) (fun h9 => ?_)⟩
    · refine ⟨sz (by simp), ?_⟩
      intro p2 n2
      generalize e2 : upd _ p2 _ = H2
      obtain ⟨x2, s2, o2⟩ := new_of e2 n2
      clear e2
      refine ⟨_, rfl, _, _, rfl, rfl, _, _, rfl, ?_⟩
      have p2p : p2 ≠ p := fun z => by obtain ⟨_, _, _, h, _⟩ := s1; rw [z, h] at n2; cases n2
      have nH2 : H p2 = none := by
        cases z : H p2 with
        | none => rfl
        | some o => rw [o1 p2 o p2p z] at n2; cases n2
      refine ⟨_, rfl, p, m + 1, 4, rfl, s1.kp fun o h => x2 _ _ h, by omega, by decide, by decide, fun c H3 c0 c1 s3 o3 => ?_⟩
      have g2 := g1.trans (Gr.new g1.fh x2)
      have g3 := g2.trans (gr_kp g2.fh fp o3)
      have l3 := o3 p2 _ p2p s2
      refine ⟨_, _, rfl, rfl, _, rfl, (by omega), (by omega), ?_⟩
      obtain ⟨cn, hcn⟩ : ∃ cn : Nat, ((1 : Int) + c).toNat = cn := ⟨_, rfl⟩
      rw [hcn]
      refine for_it (walk_range (lo := 0) (n := cn)) (fun i σ' H' => ∃ (F' : Hp) (ds : List PyData) (vs : List V) (rest used : Nat) (o8 o9 : Option V), σ' = [some (.ref p), some (.int ((rr + 1 : Nat) : Int)), some (.int ((dm + 1 : Nat) : Int)), some (.int (loops : Int)), some (.int (blocks : Int)), some (.int v), some (.ref p2), some (.int (rest : Int)), o8, o9, none, none] ∧ Gr (fun b => b = p) F H F' H' ∧ F' p = none ∧ F' p2 = none ∧ H' p2 = some (.lst vs) ∧ DpAll K F' vs ds ∧ SBs dm loops blocks used ds ∧ used + rest = rr ∧ ds.length ≤ i ∧ (1 ≤ i → ds ≠ []) ∧ SrcB H' p (m + 2 + i + 8 * used)) ?_ ?_ ?_ ?_
      · exact ⟨F, [], [], rr, 0, _, _, (by have e : ((rr + 1 : Nat) : Int) - 1 = (rr : Int) := by omega
                                           rw [← e] <;> rfl), g3, fp, ex_none g1.fh n2, l3, .nil, .nil, by omega, Nat.le_refl _, fun z => absurd z (by decide), s3.up (by omega)⟩
      · exact fun _ _ _ _ _ => True.intro
      · rintro i vi σ' Ha H4 hi ⟨F4, ds, vs, rest, used, o8, o9, rfl, g4, f4, f42, l4, da, sbs, hu, hdl, hne, s4⟩ ⟨rfl, _⟩
        have hi : i < cn := hi
        have i4 : i < 4 := by omega
        refine ⟨_, rfl, _, _, rfl, rfl, _, rfl, ite_of (fun h5 => ?_) (fun h5 => ?_)⟩
        · have h5 : 0 < rest := by have := of_decide_eq_true h5; omega
          refine ⟨_, rfl, _, rfl, p, _, _, rfl, s4, by omega, by omega, by omega, fun sh H5 sh0 sh1 s5 o5 => ?_⟩
          obtain ⟨sn, hsn⟩ : ∃ sn : Nat, (1 : Int) + sh = (sn : Int) := ⟨(1 + sh).toNat, by omega⟩
          have g5 := g4.trans (gr_kp g4.fh f4 o5)
          have l5 := o5 p2 _ p2p l4
          refine ⟨_, _, rfl, rfl, ?_⟩
          refine ⟨_, rfl, Or.inl ⟨rfl, _, Evl.sq_of l5⟩, _, rfl, _, rfl, _, rfl, _, _, rfl, rfl, _, rfl, _, rfl, ?_⟩
          refine rec_ (rm := sn) (lp := loops) (bk := blocks) hsn edm rfl rfl (by omega) g5 f4 s5 (by omega) (by omega) (by omega) (by omega) hbl fun F6 H6 va d6 g6 f6 s6 dva sba => ?_
          have l6 := g6.kp p2 _ l5 p2p
          have f62 : F6 p2 = none := g6.nw p2 (by rw [l5]; exact fun z => nomatch z) f42 p2p
          refine ⟨p2, _, _, rfl, rfl, l6, szl (by have := dpA_len da; omega), ?_⟩
          generalize e7 : upd _ p2 _ = H7
          obtain ⟨s7, o7⟩ := set_of e7
          clear e7
          refine ⟨_, rfl, _, rfl, _, _, rfl, rfl, ?_⟩
          have g56 := g5.trans g6
          refine ⟨F6, ds ++ [d6], vs ++ [va], rest - sn, used + sn, some vi, some (.int (1 + sh)), ?_, ⟨g56.ff, set_ex g56.fh f62 o7, g56.nw, fun b o e hb => by rw [o7 b (ne_of_none e nH2)]; exact g56.kp b o e hb⟩, f6, f62, s7, dpA_app (dpA_ex g6.ff da) (.cons dva .nil), .snoc sbs sba, by omega, (by simp; omega), (fun _ => by simp), ?_⟩
          · have e : (rest : Int) - (1 + sh) = ((rest - sn : Nat) : Int) := by omega
            rw [← e] <;> rfl
          · exact (s6.kp fun o h => by rw [o7 p p2p.symm]; exact h).up (by omega)
        · have h5 : rest = 0 := by have := of_decide_eq_false h5; omega
          refine ⟨F4, ds, vs, rest, used, _, _, rfl, g4, f4, f42, l4, da, sbs, hu, by omega, fun _ => ?_, s4.up (by omega)⟩
          rcases Nat.eq_zero_or_pos i with z | z
          · subst z
            have := sbs_nil sbs (List.eq_nil_of_length_eq_zero (by omega))
            omega
          · exact hne z
      rintro σ' H4 ⟨F4, ds, vs, rest, used, o8, o9, rfl, g4, f4, f42, l4, da, sbs, hu, hdl, hne, s4⟩
      have hdl : ds.length ≤ cn := hdl
      refine ⟨_, rfl, p2, vs, rfl, .inl ⟨Evl.sq_of l4, ?_⟩⟩
      intro p8 n8
      generalize e8 : upd _ p8 _ = H8
      obtain ⟨x8, s8, o8⟩ := new_of e8 n8
      clear e8
      refine ⟨sz (by simp), ?_⟩
      intro p9 n9
      generalize e9 : upd _ p9 _ = H9
      obtain ⟨x9, s9, o9⟩ := new_of e9 n9
      clear e9
      have p8p : p ≠ p8 := fun e => by obtain ⟨_, _, _, h, _⟩ := s4; rw [← e, h] at n8; cases n8
      have g8 := g4.trans (Gr.frz g4.fh n8 s8 o8)
      have hm9 : m + 2 + cn + 8 * used ≤ m + 8 * (rr + 1) := by omega
      exact fin (m' := m + 2 + cn + 8 * used) (ds := [.str "seq", .tuple ds]) g8 (by rw [upd_ne p8p]; exact f4) n9 s9 o9 (s4.kp fun o h => x8 _ _ h) hm9 (.cons (.str _) (.cons (.tup (Evl.st_of upd_same) (dpA_ex (exu (Evl.Ex.refl _) (ex_none g4.fh n8)) da)) .nil)) ((sb_seq hbl (hne (show 1 ≤ cn by omega)) (by omega) sbs).up (by omega) (Nat.le_refl _))
    have hr3 : 3 ≤ rr + 1 := by omega
    refine ⟨_, rfl, _, rfl, _, _, rfl, rfl, p, m + 1, _, rfl, s1, by omega, (by show (0 : Int) < ((rr + 1 : Nat) : Int) - 2; omega), (by show ((rr + 1 : Nat) : Int) - 2 < _; omega), fun sh H2 sh0 sh1 s2 o2 => ?_⟩
    have g2 := g1.trans (gr_kp g1.fh fp o2)
    obtain ⟨sn, hsn⟩ : ∃ sn : Nat, (1 : Int) + sh = (sn : Int) := ⟨(1 + sh).toNat, by omega⟩
    refine ⟨_, _, rfl, rfl, ?_⟩
    refine ⟨_, rfl, _, rfl, _, rfl, _, _, rfl, rfl, _, rfl, _, rfl, ?_⟩
    have sh1 : sh < ((rr + 1 : Nat) : Int) - 2 := sh1
    refine rec_ (rm := sn) (lp := loops) (bk := blocks) hsn edm rfl rfl (by omega) g2 fp s2 (by omega) (by omega) (by omega) (by omega) hbl fun F3 H3 va da g3 f3 s3 dva sba => ?_
    have g23 := g2.trans g3
    have eo : ((rr + 1 : Nat) : Int) - 1 - (1 + sh) = ((rr - sn : Nat) : Int) := by omega
    by_cases h7 : v < 7 ∧ blocks < 25
    · refine ⟨_, rfl, _, _, rfl, rfl, _, rfl, itT (decide_eq_true h7.1) ?_⟩
      refine ⟨_, rfl, _, _, rfl, rfl, _, rfl, itT (decide_eq_true (show (blocks : Int) < 25 by omega)) ?_⟩
      refine ⟨_, rfl, _, rfl, _, rfl, _, _, rfl, rfl, _, rfl, _, _, rfl, rfl, _, rfl, _, _, rfl, rfl, _, rfl, _, rfl, _, _, rfl, rfl, ?_⟩
      refine rec_ (rm := rr - sn) (lp := loops) (bk := blocks + 1) eo edm rfl (by omega) (by omega) g23 f3 s3 (by omega) (by omega) (by omega) (by omega) (by omega) fun F4 H4 vb db g4 f4 s4 dvb sbb => ?_
      refine ⟨sz (by simp), ?_⟩
      intro p5 n5
      generalize e5 : upd _ p5 _ = H5
      obtain ⟨x5, s5, o5⟩ := new_of e5 n5
      clear e5
      exact fin (g23.trans g4) f4 n5 s5 o5 s4 (by omega) (.cons (.str _) (.cons (dp_ex g4.ff dva) (.cons dvb .nil))) ((sb_fin (by omega) sba sbb).up (by omega) (Nat.le_refl _))
    by_cases h7v : v < 7
    · refine ⟨_, rfl, _, _, rfl, rfl, _, rfl, itT (decide_eq_true h7v) ?_⟩
      refine ⟨_, rfl, _, _, rfl, rfl, _, rfl, itF (decide_eq_false (show ¬ (blocks : Int) < 25 by omega)) ?_⟩
      refine ⟨_, rfl, _, rfl, _, _, rfl, rfl, _, rfl, _, _, rfl, rfl, _, rfl, _, _, rfl, rfl, _, rfl, _, rfl, ?_⟩
      refine rec_ (rm := rr - sn) (lp := loops) (bk := blocks) eo edm rfl rfl (by omega) g23 f3 s3 (by omega) (by omega) (by omega) (by omega) hbl fun F4 H4 vb db g4 f4 s4 dvb sbb => ?_
      refine ⟨_, rfl, rfl, _, rfl, ite_of (fun h8 => ?_) (fun h8 => ?_)⟩
      · refine ⟨_, rfl, _, rfl, sz (by simp), ?_⟩
        intro p5 n5
        generalize e5 : upd _ p5 _ = H5
        obtain ⟨x5, s5, o5⟩ := new_of e5 n5
        clear e5
        exact fin (g23.trans g4) f4 n5 s5 o5 s4 (by omega) (.cons (.str _) (.cons (dp_ex g4.ff dva) (.cons dvb .nil))) ((sb_try hbl sba sbb).up (by omega) (Nat.le_refl _))
      · refine ⟨_, rfl, p, _, rfl, s4, by omega, fun H5 nm hnm s5 o5 => ?_⟩
        have g5 := (g23.trans g4).trans (gr_kp g4.fh f4 o5)
        refine ⟨_, rfl, _, rfl, sz (by simp), ?_⟩
        intro p6 n6
        generalize e6 : upd _ p6 _ = H6
        obtain ⟨x6, s6, o6⟩ := new_of e6 n6
        clear e6
        exact fin g5 f4 n6 s6 o6 s5 (by omega) (.cons (.str _) (.cons (.str _) (.cons (dp_ex g4.ff dva) (.cons dvb .nil)))) ((sb_if hnm hbl sba sbb).up (by omega) (Nat.le_refl _))
    · refine ⟨_, rfl, _, _, rfl, rfl, _, rfl, itF (decide_eq_false h7v) ?_⟩
      refine ⟨_, rfl, _, rfl, _, _, rfl, rfl, _, rfl, _, _, rfl, rfl, _, rfl, _, _, rfl, rfl, _, rfl, _, rfl, ?_⟩
      refine rec_ (rm := rr - sn) (lp := loops) (bk := blocks) eo edm rfl rfl (by omega) g23 f3 s3 (by omega) (by omega) (by omega) (by omega) hbl fun F4 H4 vb db g4 f4 s4 dvb sbb => ?_
      refine ⟨_, rfl, rfl, _, rfl, ite_of (fun h8 => ?_) (fun h8 => ?_)⟩
      · refine ⟨_, rfl, _, rfl, sz (by simp), ?_⟩
        intro p5 n5
        generalize e5 : upd _ p5 _ = H5
        obtain ⟨x5, s5, o5⟩ := new_of e5 n5
        clear e5
        exact fin (g23.trans g4) f4 n5 s5 o5 s4 (by omega) (.cons (.str _) (.cons (dp_ex g4.ff dva) (.cons dvb .nil))) ((sb_try hbl sba sbb).up (by omega) (Nat.le_refl _))
      · refine ⟨_, rfl, p, _, rfl, s4, by omega, fun H5 nm hnm s5 o5 => ?_⟩
        have g5 := (g23.trans g4).trans (gr_kp g4.fh f4 o5)
        refine ⟨_, rfl, _, rfl, sz (by simp), ?_⟩
        intro p6 n6
        generalize e6 : upd _ p6 _ = H6
        obtain ⟨x6, s6, o6⟩ := new_of e6 n6
        clear e6
        exact fin g5 f4 n6 s6 o6 s5 (by omega) (.cons (.str _) (.cons (.str _) (.cons (dp_ex g4.ff dva) (.cons dvb .nil)))) ((sb_if hnm hbl sba sbb).up (by omega) (Nat.le_refl _))
theorem ok_stmB (T : Tx w h K mg) (n : Nat) : Ok P w K mg base (n + 5) ("_law_statement", none) ["_law_source_here", "_law_room", "_law_deep", "_law_loops", "_law_blocks"] (sp_stmB K n) := by
  induction n using Nat.strongRecOn with
  | ind n ih => exact ok_law_statement n ih T
end
end Fc
set_option maxRecDepth 100000
set_option maxHeartbeats 4000000
namespace Fc
open PySem PySem.Spec PyProof.Rows L2 FcR
open Evl (Ex)
theorem cut_mem {xs : List V} {lo hi : Option Int} {x : V} (h : x ∈ cutV xs lo hi) : x ∈ xs := by
  unfold cutV at h
  exact List.mem_of_mem_drop (List.mem_of_mem_take h)
end Fc
set_option maxRecDepth 100000
set_option maxHeartbeats 4000000
namespace Fc
open PySem PySem.Spec PyProof.Rows L2 FcR
open Evl (Ex)
section
variable {P : Program} {w : World} {h : Heap} {K : PySem.W.Frag} {mg : Str → Option Value} {base : Heap}
end
end Fc
set_option maxRecDepth 100000
set_option maxHeartbeats 4000000
namespace Fc
open PySem PySem.Spec PyProof.Rows L2 FcR
open Evl (Ex)
/-- the last statement is a place -/
theorem pl_ex46 {rows : List Row} {lp : Nat → Nat} (W : TW rows lp) (h : 0 < rows.length) : plN rows ≠ [] := by
  obtain ⟨n, hn⟩ : ∃ n, n + 1 = rows.length := ⟨rows.length - 1, by omega⟩
  have ln : n < rows.length := by omega
  obtain ⟨r, hr⟩ := row_at ln
  obtain ⟨sv, s2, s3⟩ := W.sv n r hr
  have ch : r.ch = [] := List.eq_nil_iff_forall_not_mem.mpr fun c hc => by
    have hc2 : c ∈ ((tabOf rows).nd n).ch := by rw [tab_nd hr, ← s3]; exact hc
    obtain ⟨h1, h2, _⟩ := W.wf.dn n ln c hc2
    have h2 : c < rows.length := h2
    omega
  have pd : partsD r.d = [] := List.length_eq_zero_iff.mp (by rw [← s2, ch] <;> rfl)
  have hp : isPl r = true := by
    unfold isPl
    cases e : r.d
    case tuple xs =>
      rw [e] at sv pd
      cases sv with
      | seq p ps => cases pd
      | tr => cases pd
      | iff => cases pd
      | whl => cases pd
      | fin => cases pd
      | do_ => show (!decide (("do" : Str) ∈ (["seq", "try"] : List Str))) = true; rw [decide_eq_false (show ¬ ("do" : Str) ∈ (["seq", "try"] : List Str) by decide +kernel)] <;> rfl
      | call => show (!decide (("call" : Str) ∈ (["seq", "try"] : List Str))) = true; rw [decide_eq_false (show ¬ ("call" : Str) ∈ (["seq", "try"] : List Str) by decide +kernel)] <;> rfl
      | brk => show (!decide (("break" : Str) ∈ (["seq", "try"] : List Str))) = true; rw [decide_eq_false (show ¬ ("break" : Str) ∈ (["seq", "try"] : List Str) by decide +kernel)] <;> rfl
      | cnt => show (!decide (("continue" : Str) ∈ (["seq", "try"] : List Str))) = true; rw [decide_eq_false (show ¬ ("continue" : Str) ∈ (["seq", "try"] : List Str) by decide +kernel)] <;> rfl
      | ret => show (!decide (("return" : Str) ∈ (["seq", "try"] : List Str))) = true; rw [decide_eq_false (show ¬ ("return" : Str) ∈ (["seq", "try"] : List Str) by decide +kernel)] <;> rfl
      | rai => show (!decide (("raise" : Str) ∈ (["seq", "try"] : List Str))) = true; rw [decide_eq_false (show ¬ ("raise" : Str) ∈ (["seq", "try"] : List Str) by decide +kernel)] <;> rfl
    all_goals (rw [e] at sv; cases sv)
  have : n ∈ plN rows := List.mem_filter.mpr ⟨List.mem_range.mpr ln, by rw [pl_of hr]; exact hp⟩
  exact fun z => by rw [z] at this; cases this
end Fc
set_option maxRecDepth 100000
set_option maxHeartbeats 4000000
namespace Fc
open PySem PySem.Spec PyProof.Rows L2 FcR
open Evl (Ex)
theorem b_min : bootBuiltins "min" = some (.builtin "min") := by decide +kernel
def sp_law44 (K : PySem.W.Frag) : Sp := fun vs H Q _ => ∃ (a : Addr) (ns : List Int), vs = [.ref a] ∧ ns.length ≤ 63 ∧ SqL K H a (ns.map V.int) ∧ Tb K H ∧ ∀ H', Q (.bl true) H'
structure KT (K : PySem.W.Frag) (H H' : Hp) : Prop where
  kp : ∀ b o, H b = some o → ¬ TM K b → H' b = some o
  tb : Tb K H'
theorem KT.refl {K : PySem.W.Frag} {H : Hp} (t : Tb K H) : KT K H H := ⟨fun _ _ h _ => h, t⟩
theorem KT.ex {K : PySem.W.Frag} {H H1 H2 : Hp} (k : KT K H H1) (e : Ex H1 H2) : KT K H H2 := ⟨fun b o h n => e _ _ (k.kp b o h n), LamX.Tabs.ext k.tb fun b o h => e b o h⟩
theorem KT.trans {K : PySem.W.Frag} {H H1 H2 : Hp} (k : KT K H H1) (e : KT K H1 H2) : KT K H H2 := ⟨fun b o h n => e.kp _ _ (k.kp b o h n) n, e.tb⟩
theorem tb_butQ {K : PySem.W.Frag} {H H' : Hp} {p : Addr} {xs : List V} (h : H p = some (.lst xs)) (kp : ∀ b o, b ≠ p → H b = some o → H' b = some o) (tb : Tb K H) : Tb K H' := fun q hq => by
  obtain ⟨ps, h1, h2, h3⟩ := tb q hq
  refine ⟨ps, kp _ _ (fun e => by rw [e, h] at h1; cases h1) h1, h2, fun pos cv hc => ?_⟩
  obtain ⟨c, e1, e2⟩ := h3 pos cv hc
  exact ⟨c, e1, kp _ _ (fun e => by rw [e, h] at e2; unfold LamX.CodeO at e2; cases e2) e2⟩
/-- kept: all but the source and the tables -/
structure KQ (K : PySem.W.Frag) (p : Addr) (H H' : Hp) : Prop where
  kp : ∀ b o, b ≠ p → ¬ TM K b → H b = some o → H' b = some o
  tb : Tb K H'
theorem KQ.ex {K : PySem.W.Frag} {p : Addr} {H H1 H2 : Hp} (k : KQ K p H H1) (e : Ex H1 H2) : KQ K p H H2 := ⟨fun b o a n h => e _ _ (k.kp b o a n h), LamX.Tabs.ext k.tb fun b o h => e b o h⟩
theorem KQ.dr {K : PySem.W.Frag} {p : Addr} {n : Nat} {H H1 H2 : Hp} (k : KQ K p H H1) (s : SrcB H1 p n) (e : ∀ b o, b ≠ p → H1 b = some o → H2 b = some o) : KQ K p H H2 := ⟨fun b o a n h => e _ _ a (k.kp b o a n h), by obtain ⟨_, _, _, h, _⟩ := s; exact tb_butQ h e k.tb⟩
theorem KQ.kt {K : PySem.W.Frag} {p : Addr} {H H1 H2 : Hp} (k : KQ K p H H1) (kp : ∀ b o, H1 b = some o → ¬ TM K b → H2 b = some o) (tb : Tb K H2) : KQ K p H H2 := ⟨fun b o a n h => kp b o (k.kp b o a n h) n, tb⟩
theorem bl_of44 {w : Nat} {d : PyData} (ok : OkS 0 1 0 w d) (hw : w ≤ 400) : ∃ N fin, Builds N [⟨d, none, 1, 0, 0⟩] [] fin ∧ 0 < fin.length ∧ fin.length ≤ 400 ∧ plN fin ≠ [] := by
  obtain ⟨fin, b, l⟩ := builds_of w [⟨d, none, 1, 0, 0⟩] [] (by have := OkL.cons (it := ⟨d, none, 1, 0, 0⟩) ok .nil; simpa using this) (by simp; omega)
  have hne : 0 < fin.length := by
    rw [l]
    cases ok
    simp
    omega
  obtain ⟨ls, bi⟩ := BI.all b (BI.start d)
  exact ⟨w, fin, b, hne, by rw [l]; simp; omega, pl_ex46 (tw_of bi hne) hne⟩
abbrev RowsEq (H : Hp) (ts : List Addr) (rs : List TRow) : Prop := Paired (fun t r => H t = some (.tup (rowV r))) ts rs
theorem rowsEq_at {K : PySem.W.Frag} {H : Hp} : ∀ {ts : List Addr} {rs : List TRow}, RowsEq H ts rs → RowsAt K H ts rs
  | _, _, .nil => .nil
  | _, _, .cons r t => .cons (SqT.of r) (rowsEq_at t)
theorem rowsEq_len {H : Hp} : ∀ {ts : List Addr} {rs : List TRow}, RowsEq H ts rs → ts.length = rs.length
  | _, _, .nil => rfl
  | _, _, .cons _ t => congrArg (· + 1) (rowsEq_len t)
theorem rowsEq_snoc {H : Hp} {t : Addr} {r : TRow} : ∀ {ts : List Addr} {rs : List TRow}, RowsEq H ts rs → H t = some (.tup (rowV r)) → RowsEq H (ts ++ [t]) (rs ++ [r])
  | _, _, .nil, h => .cons h .nil
  | _, _, .cons r t, h => .cons r (rowsEq_snoc t h)
theorem rowsEq_take {H : Hp} : ∀ {ts : List Addr} {rs : List TRow} (j : Nat), RowsEq H ts rs → RowsEq H (ts.take j) (rs.take j)
  | _, _, 0, _ => .nil
  | _, _, _ + 1, .nil => .nil
  | _, _, j + 1, .cons r t => .cons r (rowsEq_take j t)
theorem ixn44 {n j : Nat} (h : j < n) : ixN n (j : Int) = some j := by
  unfold ixN
  rw [if_pos (by omega), if_pos (by omega), Int.toNat_natCast]
theorem split44 {α : Type} : ∀ {l : List α} {j : Nat} {u : α}, l[j]? = some u → l = l.take j ++ u :: l.drop (j + 1)
  | x :: l, 0, u, h => by cases h; rfl
  | x :: l, j + 1, u, h => by
    have := split44 (l := l) (j := j) h
    show x :: l = x :: (l.take j ++ u :: l.drop (j + 1))
    rw [← this]
theorem take_set44 {α : Type} : ∀ {l : List α} {i j : Nat} {x : α}, j ≤ i → (l.set i x).take j = l.take j
  | [], _, _, _, _ => by simp
  | _ :: _, _, 0, _, _ => rfl
  | y :: l, 0, j + 1, _, h => by omega
  | y :: l, i + 1, j + 1, x, h => by
    show y :: (l.set i x).take j = y :: l.take j
    rw [take_set44 (by omega)]
theorem paired_getT' {H : Hp} {ts : List Addr} {rs : List TRow} (h : RowsEq H ts rs) {x : Nat} (hx : x < rs.length) : ∃ t, ts[x]? = some t ∧ H t = some (.tup (rowV (getR rs x))) := by
  obtain ⟨t, e, r⟩ := paired_getP h (List.getElem?_eq_getElem hx)
  refine ⟨t, e, ?_⟩
  unfold getR
  rw [List.getD_eq_getElem?_getD, List.getElem?_eq_getElem hx]
  exact r
theorem rowsAt_app44 {K : PySem.W.Frag} {H : Hp} : ∀ {ts us : List Addr} {rs qs : List TRow}, RowsAt K H ts rs → RowsAt K H us qs → RowsAt K H (ts ++ us) (rs ++ qs)
  | _, _, _, _, .nil, h => h
  | _, _, _, _, .cons a t, h => .cons a (rowsAt_app44 t h)
theorem rowsAt_rep44 {K : PySem.W.Frag} {H : Hp} {ts : List Addr} {rs : List TRow} (h : RowsAt K H ts rs) : ∀ n : Nat, RowsAt K H (List.replicate n ts).flatten (List.replicate n rs).flatten
  | 0 => .nil
  | n + 1 => by
    rw [List.replicate_succ, List.replicate_succ, List.flatten_cons, List.flatten_cons]
    exact rowsAt_app44 h (rowsAt_rep44 h n)
theorem rowsAt_take44 {K : PySem.W.Frag} {H : Hp} : ∀ {ts : List Addr} {rs : List TRow} (j : Nat), RowsAt K H ts rs → RowsAt K H (ts.take j) (rs.take j)
  | _, _, 0, _ => .nil
  | _, _, _ + 1, .nil => .nil
  | _, _, j + 1, .cons r t => .cons r (rowsAt_take44 j t)
theorem tv_mono44 {rows : List Row} {n n' : Nat} {r : TRow} (h : TV rows n r) (e : n ≤ n') : TV rows n' r :=
  ⟨h.pl, h.ln, fun y hy => (h.it y hy).imp (fun ⟨b, e1, e2⟩ => ⟨b, e1, by omega⟩) id⟩
def lspM44 (K : PySem.W.Frag) : FcL.LSp := fun ws H Q _ => ∃ (F : Hp) (A : CAd) (rows : List Row) (pl : Addr) (ts : List Addr) (rs : List TRow), ws = [some (.ref pl), some (.int (rs.length : Int)), some (.ref A.p)] ∧ CodeH K F F A rows ∧ Ex F H ∧ rows.length ≤ 400 ∧ H pl = some (.lst (ts.map V.ref)) ∧ RowsAt K H ts rs ∧ 1 ≤ rs.length ∧ rs.length ≤ 6 ∧ (∀ r ∈ rs, TV rows rs.length r) ∧ ∀ v H', Ex H H' → Q v H'
section
variable {P : Program} {w : World} {h : Heap} {K : PySem.W.Frag} {mg : Str → Option Value} {base : Heap}
abbrev N_law : List Str := ["_law_script", "_law_cell", "_law_source_here", "_law_turn", "_law_at", "_law_other", "_law_some", "_law_value", "_law_lines", "_law_many", "_law_program"]
theorem sc_law : FnScope N_law ["_law_script"] (defScope sd_law) := ⟨rfl, rfl, rfl, by decide +kernel, rfl, by decide +kernel, by decide +kernel⟩
theorem okF_law (TB : FcL.TabG K base mg tfL) (T : Tx w h K mg) : ∃ fd, FcL.FnG P w K mg base 60 (He.fAd K ("law", none)) fd ["_law_script"] (sp_law44 K) ∧ Binds K fd ["_law_script"] [] ∧ PySem.W.keepIn K (.ref (He.fAd K ("law", none))) = true ∧ FunD K "law" "law" (defArgs sd_law) (defBody sd_law) (defScope sd_law) [] [] (He.fAd K ("law", none)) fd := by
  obtain ⟨fd, F⟩ := F_law T
  refine ⟨fd, ?_, F.bindsN (fun _ _ _ _ _ _ us hl => match us, hl with | [_], _ => rfl), F.kp, F⟩
  obtain ⟨fd_law_cell_at, G_law_cell_at, bi_law_cell_at, kp_law_cell_at⟩ := ok_law_cell_at (P := P) (base := base) T
  obtain ⟨fd_law_draw, G_law_draw, bi_law_draw, kp_law_draw⟩ := ok_law_draw (P := P) (base := base) T
  obtain ⟨fd_law_odd_row, G_law_odd_row, bi_law_odd_row, kp_law_odd_row⟩ := ok_law_odd_row (P := P) (base := base) T
  obtain ⟨fd_law_row, G_law_row, bi_law_row, kp_law_row⟩ := ok_law_row (P := P) (base := base) T
  obtain ⟨fd_law_said, G_law_said, bi_law_said, kp_law_said⟩ := ok_law_said (P := P) T
  obtain ⟨fd_law_source, G_law_source, bi_law_source, kp_law_source⟩ := ok_law_source (P := P) (base := base) T
  obtain ⟨fd_Code___init__, G_Code___init__, bi_Code___init__, kp_Code___init__⟩ := ok_Code___init__ (P := P) (base := base) T
  obtain ⟨fd_law_statement, G_law_statement, bi_law_statement, kp_law_statement⟩ := ok_stmB (P := P) (base := base) T 40
  obtain ⟨fd_law_refused, G_law_refused, bi_law_refused, kp_law_refused⟩ := ok_law_refused (P := P) (base := base) TB T
  refine FcL.okG (at_ := ("law", none)) F sc_law (fun vs H Q E h => ?_) (fun cdv A outer s H vs Q E hgd hcd hr h => ?_)
  · obtain ⟨a, ns, rfl, hl, hs, tb, q⟩ := h
    rfl
  · have hun : (A.deeper (envOfC "law" (defScope sd_law) s.heap.objs.size (He.fAd K ("law", none)) cdv)).units + 100 < cLine := by have := hr.un; omega
    obtain ⟨a, ns, rfl, hl, hs, tb, q⟩ := h
    refine ⟨_, PSs.nox (pss_cons (ps_for PassesOwn.never rfl (pi_list (pe_op op_cat (pe_lst (pa_cons (pe_call G_law_cell_at (hr.mono (by decide)) rfl (g_law_cell_at T) kp_law_cell_at bi_law_cell_at .nil passF (pa_cons (pv 0) (pa_cons pe_int pa_nil))) pa_nil)) (pe_slice sl_list (pv 0) (po_some pe_int) (po_some pe_int)))) (pg_name (i := 1) sc_law.nd rfl (Or.inl rfl)) (pss_cons (ps_set (i := 2) sc_law.nd rfl (Or.inr rfl) (pe_call G_law_source (hr.mono (by decide)) rfl (g_law_source T) kp_law_source bi_law_source .nil passF (pa_cons (pv 1) pa_nil))) (pss_cons (ps_set (i := 10) sc_law.nd rfl (Or.inr rfl) (pe_make (mk_Code T) G_Code___init__ (hr.mono (by decide)) rfl (g_Code T) bi_Code___init__ .nil passF (pa_cons (pe_call G_law_statement (hr.mono (by decide)) rfl (g_law_statement T) kp_law_statement bi_law_statement .nil passF (pa_cons (pv 2) (pa_cons (pe_op op_add pe_int (pe_call G_law_draw (hr.mono (by decide)) rfl (g_law_draw T) kp_law_draw bi_law_draw .nil passF (pa_cons (pv 2) (pa_cons pe_int pa_nil)))) (pa_cons pe_int (pa_cons pe_int (pa_cons pe_int pa_nil)))))) pa_nil))) (pss_cons (ps_set (i := 9) sc_law.nd rfl (Or.inr rfl) (pe_op op_add pe_int (pe_call G_law_draw (hr.mono (by decide)) rfl (g_law_draw T) kp_law_draw bi_law_draw .nil passF (pa_cons (pv 2) (pa_cons pe_int pa_nil))))) (pss_cons (ps_set (i := 8) sc_law.nd rfl (Or.inr rfl) (pe_lc (own := [("_law_turn", 3)]) rfl sc_law.nd (pi_range1 rfl (fr_range T) (pa_cons (pv 9) pa_nil)) (blkOk_by (N := N_law) (sc := defScope sd_law) (by decide +kernel)) (fun _ _ _ _ _ => (pg_name (i := 3) sc_law.nd rfl (Or.inl rfl))) (fun _ _ _ _ _ => pts_nil) (fun _ _ _ _ _ => (pe_call G_law_row (hr.mono (by decide)) rfl (g_law_row T) kp_law_row bi_law_row .nil passF (pa_cons (pv 2) (pa_cons (pv 10) (pa_cons (pv 9) pa_nil))))))) (pss_cons (ps_for PassesOwn.never rfl (pi_range1 rfl (fr_range T) (pa_cons pe_int pa_nil)) (pg_name (i := 3) sc_law.nd rfl (Or.inl rfl)) (pss_cons (ps_par rfl sc_law.nd (i := 4) (j := 5) rfl rfl (by decide) rfl rfl (pa_cons (pe_call G_law_draw (hr.mono (by decide)) rfl (g_law_draw T) kp_law_draw bi_law_draw .nil passF (pa_cons (pv 2) (pa_cons (pv 9) pa_nil))) (pa_cons (pe_call G_law_draw (hr.mono (by decide)) rfl (g_law_draw T) kp_law_draw bi_law_draw .nil passF (pa_cons (pv 2) (pa_cons (pv 9) pa_nil))) pa_nil)) (by rfl)) (pss_cons (ps_set (i := 6) sc_law.nd rfl (Or.inl rfl) (pe_callTy call_list_of rfl (fr_list T) b_list (pa_cons (pv 8) pa_nil))) (pss_cons (ps_asg (pe_call G_law_odd_row (hr.mono (by decide)) rfl (g_law_odd_row T) kp_law_odd_row bi_law_odd_row .nil passF (pa_cons (pv 2) (pa_cons (pv 10) (pa_cons (pe_ix ix_list (pv 8) (pv 4) (fun _ _ => rfl)) (pa_cons (pv 9) pa_nil))))) (pg_sub (pv 6) (pv 4) set_list)) (Evl.pss_cut (ps_if (pt_cmpR op_eq (pe_op op_mod (pe_callTy call_int1 rfl (fr_int T) b_int (pa_cons (pv 3) pa_nil)) pe_int) pe_int (nomark _)) (pss_one (ps_asg (pe_call G_law_odd_row (hr.mono (by decide)) rfl (g_law_odd_row T) kp_law_odd_row bi_law_odd_row .nil passF (pa_cons (pv 2) (pa_cons (pv 10) (pa_cons (pe_ix ix_list (pv 8) (pv 5) (fun _ _ => rfl)) (pa_cons (pv 9) pa_nil))))) (pg_sub (pv 6) (pv 5) set_list))) pss_nil) (pss_one (ps_if (pt_not (pt_val (FcL.pe_callGd G_law_refused (show _ = some [] from hgd) (hr.mono (by decide)) rfl (g_law_refused T) kp_law_refused bi_law_refused (pa_cons (pv 10) (pa_cons (pv 6) (pa_cons (pe_ifExp (pt_cmpR op_eq (pe_op op_mod (pe_callTy call_int1 rfl (fr_int T) b_int (pa_cons (pv 3) pa_nil)) pe_int) pe_int (nomark _)) (pe_callB (call_min2 rfl) rfl (fr_min T) b_min (pa_cons (pv 4) (pa_cons (pv 5) pa_nil))) (pv 4)) pa_nil)))))) (pss_one (ps_ret pe_bl)) pss_nil))))))) (pss_cons (ps_for PassesOwn.never rfl (pi_list (pe_lst (pa_cons pe_non (pa_cons (pe_callTy call_tuple_of rfl (fr_tuple T) b_tuple (pa_cons (pv 8) pa_nil)) (pa_cons pe_dnewK (pa_cons pe_str (pa_cons pe_int (pa_cons pe_bl (pa_cons (pe_lst pa_nil) (pa_cons (pe_op op_rep (pe_slice sl_list (pv 8) po_none (po_some pe_int)) pe_int) pa_nil)))))))))) (pg_name (i := 7) sc_law.nd rfl (Or.inl rfl)) (pss_one (ps_if (pt_not (pt_val (FcL.pe_callGd G_law_refused (show _ = some [] from hgd) (hr.mono (by decide)) rfl (g_law_refused T) kp_law_refused bi_law_refused (pa_cons (pv 10) (pa_cons (pv 7) (pa_cons (pe_un un_neg pe_int) pa_nil)))))) (pss_one (ps_ret pe_bl)) pss_nil))) (pss_one (ps_if (pt_cmpR op_notN (FcL.pe_callG (fun b _ => G_law_said b) (show _ = some [] from hgd) (hr.mono (by decide)) rfl (g_law_said T) kp_law_said bi_law_said (fun _ => rfl) (pa_cons (FcL.pe_lam (T := FcL.tabT K tfL) (P := (He.cT K ("law", none)).2) (fr := ["_law_lines", "_law_many", "_law_program"]) (js := [8, 9, 10]) (TB _ (List.mem_of_getElem? (i := 1) rfl)) hcd (FcL.tabT_m (i := 1) rfl) (FcL.tabT_u (tnd T) (i := 1) rfl) (by show NdefX.ndefB (defScope sd_law) _ _ = true; decide +kernel) rfl rfl) pa_nil)) pe_non (nomark _)) (pss_one (ps_ret pe_bl)) pss_nil))))))))) (pss_one (ps_ret pe_bl))), ?_⟩
    refine ⟨_, rfl, a, ns, 0, rfl, hs, sz (by simp), ?_⟩
    intro p1 n1
    generalize e1 : upd _ p1 _ = H1
    obtain ⟨x1, s1, o1⟩ := new_of e1 n1
    clear e1
    have hs1 := Evl.ex_l x1 hs
    refine ⟨_, rfl, 1, rfl, 4, rfl, a, _, rfl, hs1, ?_⟩
    intro p2 n2
    generalize e2 : upd _ p2 _ = H2
    obtain ⟨x2, s2, o2⟩ := new_of e2 n2
    clear e2
    have hc2 : (cutV (ns.map V.int) (some 1) (some 4)).length ≤ 63 := Nat.le_trans (cutV_length ..) (by rw [List.length_map]; exact hl)
    refine ⟨p1, p2, _, _, rfl, rfl, x2 _ _ s1, s2, sz (by simp; omega), ?_⟩
    intro p3 n3
    generalize e3 : upd _ p3 _ = H3
    obtain ⟨x3, s3, o3⟩ := new_of e3 n3
    clear e3
    have isI : ∀ (i : Nat) (x : V), ([V.int (ns.getD 0 0)] ++ cutV (ns.map V.int) (some 1) (some 4))[i]? = some x → ∃ c, x = .int c := fun i x hx => by
      have hm := List.mem_of_getElem? hx
      rcases List.mem_append.mp hm with h1 | h1
      · exact ⟨_, List.mem_singleton.mp h1⟩
      · obtain ⟨c, _, e⟩ := List.mem_map.mp (cut_mem h1)
        exact ⟨c, e.symm⟩
    generalize [V.int (ns.getD 0 0)] ++ cutV (ns.map V.int) (some 1) (some 4) = cs at s3 isI
    have tb3 : Tb K H3 := LamX.Tabs.ext tb fun b o hb => x3 _ _ (x2 _ _ (x1 _ _ hb))
    have noTl : ∀ {Hx : Hp} {b : Addr} {o : HO}, Tb K Hx → Hx b = some o → (∀ ps, o ≠ .tbl ps) → ¬ TM K b := fun t e n z => by
      obtain ⟨ps, hps⟩ := noT t z
      rw [e] at hps
      cases hps
      exact n ps rfl
    have n3T : ¬ TM K p3 := noTl tb3 s3 fun ps z => by cases z
    refine ⟨p3, rfl, ⟨_, Evl.sq_of s3⟩, ?_⟩
    refine for_it (walk_list (xs := cs)) (fun i σ' H' => KT K H3 H' ∧ ∃ u1 u2 u3 u4 u5 u6 u7 u8 u9 v1, σ' = [some (.ref a), u1, u2, u3, u4, u5, u6, u7, u8, u9, v1]) ?_ ?_ ?_ ?_
    · exact ⟨KT.refl tb3, _, _, _, _, _, _, _, _, _, _, rfl⟩
    · exact fun i σ' H' _ ⟨k, _⟩ => Evl.sq_of (k.kp _ _ s3 n3T)
    rotate_left
    · rintro σ' H' ⟨k3, u1, u2, u3, u4, u5, u6, u7, u8, u9, v1, rfl⟩
      exact q _
    rintro i v σ' Ha Hb hi ⟨k3, u1, u2, u3, u4, u5, u6, u7, u8, u9, v1', rfl⟩ ⟨rfl, hv⟩
    obtain ⟨c, rfl⟩ := isI i v hv
    refine ⟨_, rfl, c, rfl, fun p4 H4 n4 x4 s4 o4 => ?_⟩
    have r4 : Gr (fun b => b = p4) hp0 H4 hp0 H4 := Gr.refl (fun b o z => by cases z)
    have h0 : ∀ {H' : Hp}, Ex hp0 H' := fun {H'} b o z => by cases z
    refine ⟨_, rfl, _, rfl, p4, 0, 20, rfl, s4, by decide, by decide, by decide, fun v H5 v0 v1 s5 o5 => ?_⟩
    obtain ⟨rm, hrm⟩ : ∃ rm : Nat, (1 : Int) + v = (rm : Int) := ⟨(1 + v).toNat, by omega⟩
    have g5 := r4.trans (gr_kp (F := hp0) h0 rfl o5)
    refine ⟨_, _, rfl, rfl, hp0, p4, 1, rm, 40, 0, 0, (by show [V.ref p4, V.int (1 + v), _, _, _] = _; rw [hrm] <;> rfl), Nat.le_refl _, by omega, by decide, by omega, by decide, by decide, g5.fh, rfl, s5, by omega, fun F7 H7 vd d g7 f7 s7 dvd sb => ?_⟩
    have g47 := g5.trans g7
    obtain ⟨gs, dep, wt, w1, w2, okk⟩ := sb
    have ok1 := okk 1 (by decide)
    obtain ⟨N, fin, bd, hN, fl, pne⟩ := bl_of44 ok1 (by omega)
    intro q9 dx9 nq9 nd9 ne9
    generalize e9 : upd (upd _ dx9 _) q9 _ = G9
    obtain ⟨y9, hq9⟩ := make_of e9 nq9 nd9
    clear e9
    refine ⟨F7, q9, dx9, vd, d, GS, N, fin, rfl, hq9, (show Ex F7 _ from g47.fh).trans y9, ex_none (show Ex F7 _ from g47.fh) nq9, dvd, (fun e he => gs_parts he), gs, bd, fun A9 F9 H9 eA9 g9 C9 => ⟨rfl, ?_⟩⟩
    subst eA9
    have k9 := fun b o (e : _ = some o) => g9.kp b o (y9 b o e) (ne_of_none e nq9)
    have nA4 : H4 A9.p = none := by
      cases z : H4 A9.p with
      | none => rfl
      | some o =>
        by_cases e : A9.p = p4
        · obtain ⟨_, _, _, h, _⟩ := s7
          rw [e, h] at nq9
          cases nq9
        · rw [g47.kp _ _ z e] at nq9
          cases nq9
    have gMM : Gr (fun b => b = p4) hp0 H4 F9 H9 := (g47.trans (Gr.new g47.fh y9)).hide g9 fun x hx => .inl (by rw [hx]; exact nA4)
    have tb4 : Tb K H4 := LamX.Tabs.ext k3.tb fun b o hb => x4 b o hb
    have ft9 : ∀ b, TM K b → F9 b = none := fun b hb => by
      obtain ⟨ps, hps⟩ := noT tb4 hb
      obtain ⟨_, _, _, h, _⟩ := s4
      exact gMM.nw b (by rw [hps]; exact fun z => nomatch z) rfl (fun z => by rw [z, h] at hps; cases hps)
    have f9 : F9 p4 = none := g9.nw p4 (by obtain ⟨_, _, _, h, _⟩ := s7; rw [y9 _ _ h]; exact fun z => nomatch z) f7 (fun z => by obtain ⟨_, _, _, h, _⟩ := s7; rw [z] at h; rw [h] at nq9; cases nq9)
    have xb9 : Ex Hb H9 := fun b o hb => gMM.kp b o (x4 b o hb) (ne_of_none hb n4)
    have xF9 : Ex F9 H9 := gMM.fh
    have k39 : KT K H3 H9 := k3.ex xb9
    have tb9 := k39.tb
    have p4H : Hb p4 = none := n4
    obtain ⟨nn, nn6, s9⟩ : ∃ nn : Nat, nn ≤ 1000000 ∧ SrcB H9 p4 nn := ⟨_, by omega, s7.kp fun o h => k9 _ _ h⟩
    have kF : ∀ {H' : Hp}, KQ K p4 H9 H' → Ex F9 H' := fun k b o e => k.kp b o (fun z => by rw [z, f9] at e; cases e) (fun z => by rw [ft9 b z] at e; cases e) (xF9 b o e)
    have kq9 : KQ K p4 H9 H9 := ⟨fun _ _ _ _ h => h, tb9⟩
    -- many
    refine ⟨_, rfl, p4, nn, 6, rfl, s9, by omega, by decide, by decide, fun v10 H10 v100 v101 s10 o10 => ?_⟩
    obtain ⟨m, hm⟩ : ∃ m : Nat, (1 : Int) + v10 = (m : Int) := ⟨(1 + v10).toNat, by omega⟩
    refine ⟨_, _, rfl, rfl, ?_⟩
    rw [show ((fun i j : Int => V.int (i + j)) 1 v10) = V.int (m : Int) from congrArg V.int hm]
    have m1 : 1 ≤ m := by omega
    have m6 : m ≤ 6 := by omega
    have kq10 := kq9.dr s9 o10
    refine ⟨_, rfl, _, rfl, by omega, by omega, fun D nD => ?_⟩
    rw [Int.toNat_natCast]
    have Dp : D ≠ p4 := ne_srcQ s10 nD
    refine lc_it (walk_range (lo := 0) (n := m)) (fun i H' => ∃ (ts : List Addr) (rs : List TRow), rs.length = i ∧ KQ K p4 H9 H' ∧ (∀ b o, b ≠ p4 → H10 b = some o → H' b = some o) ∧ SrcB H' p4 (nn + 1 + 8 * i) ∧ H' D = some (.lst (ts.map V.ref)) ∧ RowsEq H' ts rs ∧ ∀ r ∈ rs, TV fin m r) ?_ ?_ ?_ ?_
    · exact ⟨[], [], rfl, kq10.ex (exu (Evl.Ex.refl _) nD), fun b o _ h => exu (Evl.Ex.refl _) nD _ _ h, (s10.kp fun o h => exu (Evl.Ex.refl _) nD _ _ h), upd_same, .nil, fun r hr => nomatch hr⟩
    · exact fun _ _ _ _ => True.intro
    · rintro i v2 Ja Jb hi ⟨ts, rs, rl, kq, k10, sj, lD, RE, tv⟩ ⟨rfl, _⟩
      have hi : i < m := hi
      have rel := rowsEq_len RE
      refine ⟨rfl, _, rfl, _, rfl, _, rfl, F9, A9, fin, p4, nn + 1 + 8 * i, m, rfl, C9, kF kq, f9, fl, pne, sj, by omega, m1, by omega, fun H11 t r k11 s11 n11 ht tvr => ?_⟩
      have lD11 := k11 _ _ Dp lD
      have up : ∀ b o, b ≠ p4 → Jb b = some o → ((∀ xs, o ≠ .lst xs) ∨ b ≠ D) → (upd H11 D (.lst (ts.map V.ref ++ [V.ref t]))) b = some o := fun b o nb h c => by
        rw [upd_ne (fun z => by
          rcases c with c | c
          · rw [z, lD] at h; exact c _ (Option.some.inj h).symm
          · exact c z)]
        exact k11 b o nb h
      have nDT : ¬ TM K D := noTl kq.tb lD fun ps z => by cases z
      refine ⟨_, lD11, szl (by rw [List.length_map]; omega), ts ++ [t], rs ++ [r], by simp; omega, ⟨fun b o nb nt h => ?_, ?_⟩, fun b o nb h => ?_, (s11.kp fun o h => by rw [upd_ne (Ne.symm Dp)]; exact h).up (by omega), by rw [upd_same, List.map_append] <;> rfl, rowsEq_snoc (L2.Paired.mapP RE fun c y h => up c _ (fun z => by obtain ⟨_, _, _, hh, _⟩ := sj; rw [z, hh] at h; cases h) h (.inl fun xs z => by cases z)) (by rw [upd_ne (fun z => by rw [z, lD11] at ht; cases ht)]; exact ht), fun y hy => ?_⟩
      · by_cases z : b = D
        · have : H9 D = none := by
            cases w : H9 D with
            | none => rfl
            | some u => rw [o10 _ _ Dp w] at nD; cases nD
          rw [z, this] at h; cases h
        · exact up b o nb (kq.kp b o nb nt h) (.inr z)
      · have tb11 := (kq.dr sj k11).tb
        exact tb_butQ lD11 (fun b o nb h => by rw [upd_ne nb]; exact h) tb11
      · by_cases z : b = D
        · rw [z, nD] at h; cases h
        · exact up b o nb (k10 b o nb h) (.inr z)
      · rcases List.mem_append.mp hy with h | h
        · exact tv y h
        · rw [List.mem_singleton.mp h]; exact tvr
    rintro H11 ⟨ts, rs, rl, kq11, k1011, s11, l11, RE11, tv⟩
    have tl := rowsEq_len RE11
    have tsm : ts.length = m := by omega
    have pT : ∀ r ∈ rs, r.1 ∈ plN fin := fun r hr => by
      have h := (tv r hr).pl
      refine List.mem_filter.mpr ⟨List.mem_range.mpr ?_, h⟩
      unfold plB at h
      cases e : fin[r.1]? with
      | none => rw [e] at h; cases h
      | some x => exact (List.getElem?_eq_some_iff.mp e).1
    refine ⟨8, rfl, (by decide), (by decide), ?_⟩
    refine for_it (walk_range (lo := 0) (n := 8)) (fun i σ' H' => ∃ u4 u5 u6 u7 u3, σ' = [some (.ref a), some (.int c), some (.ref p4), u3, u4, u5, u6, u7, some (.ref D), some (.int (m : Int)), some (.ref A9.p)] ∧ KQ K p4 H11 H' ∧ SrcB H' p4 (nn + 100 + 60 * i)) ?_ ?_ ?_ ?_
    · exact ⟨_, _, _, _, _, rfl, ⟨fun _ _ _ _ h => h, kq11.tb⟩, s11.up (by omega)⟩
    · exact fun _ _ _ _ _ => True.intro
    · rintro i vi σ' Hq H12 hi8 ⟨u4, u5, u6, u7, u3, rfl, k12, s12⟩ ⟨rfl, rfl⟩
      have hi8 : i < 8 := hi8
      refine ⟨_, rfl, _, rfl, p4, _, _, rfl, s12, by omega, by omega, by omega, fun va H13 va0 va1 s13 o13 => ?_⟩
      refine ⟨_, rfl, _, rfl, p4, _, _, rfl, s13, by omega, by omega, by omega, fun vb H14 vb0 vb1 s14 o14 => ?_⟩
      obtain ⟨ia, rfl⟩ : ∃ x : Nat, va = (x : Int) := ⟨va.toNat, by omega⟩
      obtain ⟨ib, rfl⟩ : ∃ x : Nat, vb = (x : Int) := ⟨vb.toNat, by omega⟩
      refine ⟨_, _, rfl, ?_⟩
      have k14 := (k12.dr s12 o13).dr s13 o14
      have nDT : ¬ TM K D := noTl kq11.tb l11 fun ps z => by cases z
      have l14 := k14.kp _ _ Dp nDT l11
      refine ⟨_, rfl, D, _, rfl, .inl (Evl.sq_of l14), ?_⟩
      intro p15 n15
      generalize e15 : upd _ p15 _ = H15
      obtain ⟨x15, s15, o15⟩ := new_of e15 n15
      clear e15
      have k15 := k14.ex x15
      have l15 := x15 _ _ l14
      have s15' := s14.kp fun o h => x15 _ _ h
      have p15p := ne_srcQ s14 n15
      have n15T : ¬ TM K p15 := noTl k15.tb s15 fun ps z => by cases z
      have reAt : ∀ {H' : Hp}, KQ K p4 H11 H' → RowsEq H' ts rs := fun {H'} k => L2.Paired.mapP RE11 fun c y h => k.kp c _ (fun z => by obtain ⟨_, _, _, hh, _⟩ := s11; rw [z, hh] at h; cases h) (noTl kq11.tb h fun ps z => by cases z) h
      have RE15 := reAt k15
      obtain ⟨ta, hta, eta⟩ := paired_getT' RE15 (show ia < rs.length by omega)
      obtain ⟨tb', htb, etb⟩ := paired_getT' RE15 (show ib < rs.length by omega)
      let M : Addr → Prop := fun b => b = p4 ∨ TM K b ∨ b = p15
      have mok : ∀ {H' : Hp} {xs : List V} {k : Nat}, Tb K H' → SrcB H' p4 k → H' p15 = some (.lst xs) → MOk M H' p4 := fun {H' xs k} tb s l => ⟨.inl rfl, fun b hb => by
        rcases hb with rfl | hb | rfl
        · obtain ⟨_, _, _, h, _⟩ := s; exact .inl ⟨_, h⟩
        · exact .inr (noT tb hb)
        · exact .inl ⟨_, l⟩⟩
      refine ⟨_, rfl, _, rfl, _, rfl, _, rfl, D, _, (ia : Int), _, rfl, rfl, Evl.sq_of l15, atI_nat (j := ia) (by rw [List.getElem?_map, hta] <;> rfl), _, rfl, F9, A9, fin, p4, ta, _, m, getR rs ia, rfl, C9, kF (⟨fun b o nb nt h => k15.kp b o nb nt (kq11.kp b o nb nt h), k15.tb⟩), f9, hN, fl, eta, tv _ (getR_mem (by omega)), pT _ (getR_mem (by omega)), s15', by omega, m1, by omega, M, mok k15.tb s15' s15, fun FZ1 H16 x1' k16 s16 xZ1 zM1 bd1 => ?_⟩
      have k16q : KQ K p4 H11 H16 := k15.dr s15' k16
      have l16 := k16 _ _ p15p s15
      refine ⟨_, rfl, _, rfl, p15, _, _, ia, rfl, rfl, l16, ixn44 (by rw [List.length_map]; omega), ?_⟩
      generalize e17 : upd _ p15 _ = H17
      obtain ⟨s17, o17⟩ := set_of e17
      clear e17
      have n15H : H11 p15 = none := by
        cases z : H11 p15 with
        | none => rfl
        | some o => rw [k14.kp _ _ p15p n15T z] at n15; cases n15
      have setK : ∀ {Ha Hb' : Hp} {l : List V}, KQ K p4 H11 Ha → Ha p15 = some (.lst l) → (∀ b, b ≠ p15 → Hb' b = Ha b) → KQ K p4 H11 Hb' := fun {Ha Hb' l} k hl o => ⟨fun b u nb nt h => (o b (fun z => by rw [z, n15H] at h; cases h)).trans (k.kp b u nb nt h), tb_butQ hl (fun b u nb h => (o b nb).trans h) k.tb⟩
      have k17 := setK k16q l16 o17
      have s17' : SrcB H17 p4 (nn + 100 + 60 * i + 30) := (s16.kp fun o h => (o17 p4 (Ne.symm p15p)).trans h).up (by omega)
      have xZ17 : Ex FZ1 H17 := fun b u h => (o17 b (fun z => by rw [z, zM1 p15 (.inr (.inr rfl))] at h; cases h)).trans (xZ1 _ _ h)
      have len1 : ((ts.map V.ref).set ia x1').length = m := by rw [List.length_set, List.length_map]; exact tsm
      have g1 : ((ts.map V.ref).set ia x1')[ia]? = some x1' := by rw [List.getElem?_set_self (by rw [List.length_map]; omega)]
      have t1 : ((ts.map V.ref).set ia x1').take ia = (ts.take ia).map V.ref := by rw [take_set44 (Nat.le_refl _), List.map_take]
      refine ⟨fun σ' H' => ∃ (xs : List V) (FZ : Hp) (fi : Nat) (u : V) (u7 : Option V), σ' = [some (.ref a), some (.int c), some (.ref p4), some (.int (0 + (i : Int))), some (.int (ia : Int)), some (.int (ib : Int)), some (.ref p15), u7, some (.ref D), some (.int (m : Int)), some (.ref A9.p)] ∧ KQ K p4 H11 H' ∧ SrcB H' p4 (nn + 100 + 60 * (i + 1)) ∧ H' p15 = some (.lst xs) ∧ xs.length = m ∧ xs.take fi = (ts.take fi).map V.ref ∧ xs[fi]? = some u ∧ ((i % 2 = 1 ∧ fi = (if ib < ia then ib else ia)) ∨ (i % 2 ≠ 1 ∧ fi = ia)) ∧ Ex FZ H' ∧ (∀ b, M b → FZ b = none) ∧ BadR K FZ fin m u, ?_, ?_⟩
      · refine ⟨_, rfl, .inl ⟨_, rfl, _, _, rfl, rfl, (show (0 : Int) < 2 by decide), rfl, _, rfl, ite_of (fun cc => ?_) (fun cc => ?_)⟩⟩
        · have cc : V.int ((0 + (i : Int)) % 2) = V.int 1 := of_decide_eq_true cc
          have ci : i % 2 = 1 := by injection cc with cc; omega
          have RE17 := reAt k17
          obtain ⟨tb2, htb2, etb2⟩ := paired_getT' RE17 (show ib < rs.length by omega)
          have l17D := k17.kp _ _ Dp nDT l11
          refine ⟨_, rfl, _, rfl, _, rfl, _, rfl, D, _, (ib : Int), _, rfl, rfl, Evl.sq_of l17D, atI_nat (j := ib) (by rw [List.getElem?_map, htb2] <;> rfl), _, rfl, F9, A9, fin, p4, tb2, _, m, getR rs ib, rfl, C9, kF (⟨fun b o nb nt h => k17.kp b o nb nt (kq11.kp b o nb nt h), k17.tb⟩), f9, hN, fl, etb2, tv _ (getR_mem (by omega)), pT _ (getR_mem (by omega)), s17', by omega, m1, by omega, M, mok k17.tb s17' s17, fun FZ2 H18 x2' k18 s18 xZ2 zM2 bd2 => ?_⟩
          have k18q := k17.dr s17' k18
          have l18 := k18 _ _ p15p s17
          refine ⟨_, rfl, _, rfl, p15, _, _, ib, rfl, rfl, l18, ixn44 (by rw [len1]; omega), ?_⟩
          generalize e19 : upd _ p15 _ = H19
          obtain ⟨s19, o19⟩ := set_of e19
          clear e19
          have k19 := setK k18q l18 o19
          have s19' : SrcB H19 p4 (nn + 100 + 60 * (i + 1)) := (s18.kp fun o h => (o19 p4 (Ne.symm p15p)).trans h).up (by omega)
          have len2 : (((ts.map V.ref).set ia x1').set ib x2').length = m := by rw [List.length_set]; exact len1
          by_cases lt : ib ≤ ia
          · refine ⟨_, FZ2, ib, x2', _, rfl, k19, s19', s19, len2, ?_, ?_, .inl ⟨ci, ?_⟩, fun b u h => (o19 b (fun z => by rw [z, zM2 p15 (.inr (.inr rfl))] at h; cases h)).trans (xZ2 _ _ h), zM2, bd2⟩
            · rw [take_set44 (Nat.le_refl _), take_set44 lt, List.map_take]
            · rw [List.getElem?_set_self (by rw [len1]; omega)]
            · split <;> omega
          · have xZ1' : Ex FZ1 H19 := fun b u h => by
              have nb : b ≠ p15 := fun z => by rw [z, zM1 p15 (.inr (.inr rfl))] at h; cases h
              have n4 : b ≠ p4 := fun z => by rw [z, zM1 p4 (.inl rfl)] at h; cases h
              exact (o19 b nb).trans (k18 b u n4 (xZ17 _ _ h))
            refine ⟨_, FZ1, ia, x1', _, rfl, k19, s19', s19, len2, ?_, ?_, .inl ⟨ci, ?_⟩, xZ1', zM1, bd1⟩
            · rw [take_set44 (by omega), t1]
            · rw [List.getElem?_set_ne (by omega)]; exact g1
            · rw [if_neg (by omega)]
        · have cc : ¬ V.int ((0 + (i : Int)) % 2) = V.int 1 := of_decide_eq_false cc
          have ci : i % 2 ≠ 1 := fun z => cc (congrArg V.int (by omega))
          exact ⟨_, FZ1, ia, x1', _, rfl, k17, s17'.up (by omega), s17, len1, t1, g1, .inr ⟨ci, rfl⟩, xZ17, zM1, bd1⟩
      rintro σ' H20 ⟨xs, FZ, fi, u, u7', rfl, k20, s20, l20, xl, xt, xu, par, xZ, zM, bd⟩
      have fim : fi < m := by
        rcases par with ⟨_, h⟩ | ⟨_, h⟩
        · rw [h]; split <;> omega
        · omega
      obtain ⟨G, g1', g2', xG⟩ := frzQ H20 (fun b => b = p4 ∨ TM K b)
      have kq20 : KQ K p4 H9 H20 := ⟨fun b o nb nt h => k20.kp b o nb nt (kq11.kp b o nb nt h), k20.tb⟩
      have inG : ∀ {b : Addr} {o : HO}, b ≠ p4 → ¬ TM K b → H20 b = some o → G b = some o := fun nb nt h => by rw [g2' _ (fun z => z.elim nb nt)]; exact h
      have xZG : Ex FZ G := fun b o h => inG (fun z => by rw [z, zM p4 (.inl rfl)] at h; cases h) (fun z => by rw [zM b (.inr (.inl z))] at h; cases h) (xZ _ _ h)
      have l20G : G p15 = some (.lst xs) := inG p15p n15T l20
      have RE20 := reAt k20
      have REG : RowsEq G ts rs := L2.Paired.mapP RE20 fun c y h => inG (fun z => by obtain ⟨_, _, _, hh, _⟩ := s20; rw [z, hh] at h; cases h) (noTl k20.tb h fun ps z => by cases z) h
      have rtl : (rs.take fi).length = fi := by rw [List.length_take]; omega
      have bt : BadT K G fin (.ref p15) (fi : Int) := by
        have h : BadT K G fin (.ref p15) ((rs.take fi).length : Int) := .at_ (n := m) (ts := ts.take fi) (u := u) (post := xs.drop (fi + 1)) (by rw [← xt, ← split44 xu]; exact Evl.sq_of l20G) (rowsEq_at (rowsEq_take fi REG)) (by rw [← xt, ← split44 xu]; exact xl.symm) (by omega) (fun y hy => tv y (List.mem_of_mem_take hy)) (bd.ex xZG)
        rw [rtl] at h
        exact h
      have fini : ∀ H21, (∀ b o, H20 b = some o → ¬ TM K b → H21 b = some o) → Tb K H21 → KQ K p4 H11 H21 ∧ SrcB H21 p4 (nn + 100 + 60 * (i + 1)) := fun H21 kp tb => ⟨k20.kt kp tb, by obtain ⟨xx, yy, zz, hh, rr⟩ := s20; exact ⟨xx, yy, zz, kp _ _ hh (noTl k20.tb hh fun ps z => by cases z), rr⟩⟩
      rcases par with ⟨ci, hfi⟩ | ⟨ci, hfi⟩
      · refine ⟨_, rfl, _, rfl, _, rfl, .inl ⟨_, rfl, _, _, rfl, rfl, (show (0 : Int) < 2 by decide), rfl, _, rfl, ?_⟩⟩
        refine itT (decide_eq_true (congrArg V.int (by omega))) ?_
        refine ⟨_, rfl, _, rfl, _, _, rfl, ?_⟩
        rw [show (if (ib : Int) < (ia : Int) then (ib : Int) else (ia : Int)) = (fi : Int) from by rw [hfi]; split <;> split <;> omega]
        refine ⟨F9, G, A9, fin, .ref p15, fi, rfl, C9, kF kq20, xG, fl, bt, ft9, (fun b hb => g1' b (.inr hb)), k20.tb, fun H21 kp tb => ?_⟩
        exact ⟨_, rfl, itF rfl ⟨_, _, _, _, _, rfl, fini H21 kp tb⟩⟩
      · subst hfi
        refine ⟨_, rfl, _, rfl, _, rfl, .inl ⟨_, rfl, _, _, rfl, rfl, (show (0 : Int) < 2 by decide), rfl, _, rfl, ?_⟩⟩
        refine itF (decide_eq_false (fun z : V.int ((0 + (i : Int)) % 2) = V.int 1 => ci (by injection z with z; omega))) ?_
        refine ⟨_, rfl, F9, G, A9, fin, .ref p15, fi, rfl, C9, kF kq20, xG, fl, bt, ft9, (fun b hb => g1' b (.inr hb)), k20.tb, fun H21 kp tb => ?_⟩
        exact ⟨_, rfl, itF rfl ⟨_, _, _, _, _, rfl, fini H21 kp tb⟩⟩
    rintro σ' H22 ⟨u4, u5, u6, u7, u3, rfl, k22, s22⟩
    have nDT : ¬ TM K D := noTl kq11.tb l11 fun ps z => by cases z
    have l22 := k22.kp _ _ Dp nDT l11
    have k922 : KQ K p4 H9 H22 := ⟨fun b o nb nt h => k22.kp b o nb nt (kq11.kp b o nb nt h), k22.tb⟩
    refine ⟨_, rfl, D, _, rfl, .inl ⟨Evl.sq_of l22, ?_⟩⟩
    intro p23 n23
    generalize e23 : upd _ p23 _ = H23
    obtain ⟨x23, s23, o23⟩ := new_of e23 n23
    clear e23
    show ∀ (p24 : Addr), H23 p24 = none → _
    intro p24 n24
    generalize e24 : upd _ p24 _ = H24
    obtain ⟨x24, s24, o24⟩ := new_of e24 n24
    clear e24
    refine ⟨sz (by simp), ?_⟩
    intro p25 n25
    generalize e25 : upd _ p25 _ = H25
    obtain ⟨x25, s25, o25⟩ := new_of e25 n25
    clear e25
    have x2225 := x23.trans (x24.trans x25)
    refine ⟨_, rfl, ?_⟩
    unfold tNoPart
    refine ⟨1, rfl, D, _, rfl, Evl.sq_of (x2225 _ _ l22), ?_⟩
    intro p26 n26
    generalize e26 : upd _ p26 _ = H26
    obtain ⟨x26, s26, o26⟩ := new_of e26 n26
    clear e26
    have c26 : cutV (ts.map V.ref) none (some 1) = (ts.map V.ref).take 1 := cut_to (ts.map V.ref) 1
    rw [c26] at s26
    have l1 : ((ts.map V.ref).take 1).length = 1 := by rw [List.length_take, List.length_map]; omega
    refine ⟨p26, 201, _, rfl, rfl, s26, by decide, by decide, by rw [l1]; exact sz (by decide), ?_⟩
    intro p27 n27
    generalize e27 : upd _ p27 _ = H27
    obtain ⟨x27, s27, o27⟩ := new_of e27 n27
    clear e27
    refine ⟨sz (by simp), ?_⟩
    intro p28 n28
    generalize e28 : upd _ p28 _ = H28
    obtain ⟨x28, s28, o28⟩ := new_of e28 n28
    clear e28
    have x2328 := x24.trans (x25.trans (x26.trans (x27.trans x28)))
    have x2228 := x23.trans x2328
    have k28 := k22.ex x2228
    have k928 := k922.ex x2228
    obtain ⟨G, g1, g2, xG⟩ := frzQ H28 (TM K)
    have inG : ∀ {b : Addr} {o : HO}, H28 b = some o → (∀ ps, o ≠ .tbl ps) → G b = some o := fun h n => by rw [g2 _ (noTl k28.tb h n)]; exact h
    have gA := inG (x2328 _ _ s23) (fun ps z => by cases z)
    have gB := inG ((x25.trans (x26.trans (x27.trans x28))) _ _ s24) (fun ps z => by cases z)
    have gC := inG ((x26.trans (x27.trans x28)) _ _ s25) (fun ps z => by cases z)
    have gD := inG (x28 _ _ s27) (fun ps z => by cases z)
    have l201 : (List.replicate (201 : Int).toNat ((ts.map V.ref).take 1)).flatten.length = 201 := by
      rw [List.length_flatten, List.map_replicate, l1]
      decide
    have bad : ∀ v ∈ [V.non, .ref p23, .ref p24, .str "rows", .int 7, .bl true, .ref p25, .ref p27], BadT K G fin v (-1) := fun v hv => by
      simp only [List.mem_cons, List.not_mem_nil, or_false] at hv
      rcases hv with rfl | rfl | rfl | rfl | rfl | rfl | rfl | rfl
      · exact .ty (fun _ _ => .base .non) (k_list .none)
      · exact .ty (fun _ e => ty_tup (SqT.of (e _ _ gA))) (k_list (.tuple []))
      · exact .ty (fun _ e => .base (.dK (e _ _ gB))) (k_list (.dict []))
      · exact .ty (fun _ _ => .base (.str _)) (k_list (.str "rows"))
      · exact .ty (fun _ _ => .base (.int _)) (k_list (.int 7))
      · exact .ty (fun _ _ => .base (.bl _)) (k_list (.bool true))
      · exact .size (Evl.sq_of gC) (.inl rfl)
      · exact .size (Evl.sq_of gD) (.inr (by rw [l201]; decide))
    refine ⟨p28, rfl, ⟨_, Evl.sq_of s28⟩, ?_⟩
    generalize hos : [V.non, .ref p23, .ref p24, .str "rows", .int 7, .bl true, .ref p25, .ref p27] = os at s28 bad
    have n28T : ¬ TM K p28 := noTl k28.tb s28 fun ps z => by cases z
    refine for_it (walk_list (xs := os)) (fun i σ' H' => KT K H28 H' ∧ ∃ u7, σ' = [some (.ref a), some (.int c), some (.ref p4), u3, u4, u5, u6, u7, some (.ref D), some (.int (m : Int)), some (.ref A9.p)]) ?_ ?_ ?_ ?_
    · exact ⟨KT.refl k28.tb, _, rfl⟩
    · exact fun i σ' H' _ ⟨k, _⟩ => Evl.sq_of (k.kp _ _ s28 n28T)
    · rintro i v σ' H29 H30 hi8 ⟨k29, u7, rfl⟩ ⟨rfl, hv⟩
      have bt := bad v (List.mem_of_getElem? hv)
      have xG29 : Ex G H30 := fun b o h => k29.kp b o (xG b o h) (fun z => by rw [g1 b z] at h; cases h)
      have kF29 : Ex F9 H30 := fun b o h => k29.kp b o ((kF k928) b o h) (fun z => by rw [ft9 b z] at h; cases h)
      refine ⟨_, rfl, _, rfl, _, rfl, F9, G, A9, fin, v, -1, rfl, C9, kF29, xG29, fl, bt, ft9, g1, k29.tb, fun H31 kp tb => ?_⟩
      exact ⟨_, rfl, itF rfl ⟨⟨fun b o h n => kp b o (k29.kp b o h n) n, tb⟩, _, rfl⟩⟩
    rintro σ' H31 ⟨k31, u7, rfl⟩
    refine ⟨k31.tb, fun f0 cl0 c0 dV0 H32 eT0 nn0 t32 nf0 la0 cp0 => ?_⟩
    obtain ⟨L0, hL0, la0⟩ : ∃ L, L = _ ∧ FcL.LamAt H32 f0 L [] := ⟨_, rfl, la0⟩
    have k32 : KT K H28 H32 := ⟨fun b o h n => eT0 b o (k31.kp b o h n) fun p hp z => n ⟨p, hp, z⟩, t32⟩
    have l32 : H32 D = some (.lst (ts.map V.ref)) := k32.kp _ _ (x2228 _ _ l22) nDT
    have kF32 : Ex F9 H32 := fun b o h => k32.kp b o ((kF k928) b o h) (fun z => by rw [ft9 b z] at h; cases h)
    have RE32 : RowsEq H32 ts rs := L2.Paired.mapP RE11 fun c y h => k32.kp c _ (k28.kp c _ (fun z => by obtain ⟨_, _, _, hh, _⟩ := s11; rw [z, hh] at h; cases h) (noTl kq11.tb h fun ps z => by cases z) h) (noTl kq11.tb h fun ps z => by cases z)
    refine fun base' gr => ?_
    refine ⟨f0, L0, [], ["_law_lines", "_law_many", "_law_program"], lspM44 K, [some (.ref D), some (.int (m : Int)), some (.ref A9.p)], rfl, ?_, la0, ?_, .inr ⟨fun H' => Ex H32 H', fun Q' E' hq => ⟨F9, A9, fin, D, ts, rs, by rw [rl], C9, kF32, fl, l32, rowsEq_at RE32, by omega, by omega, by rw [rl]; exact tv, fun v H' e => hq v H' e⟩, fun H33 x33 => ?_⟩⟩
    · subst hL0
      obtain ⟨fd_merged, G_merged, bi_merged, kp_merged⟩ := ok_merged (P := P) (base := base') T
      refine FcL.LOk.mono (j := 12) (FcL.lok_of (N := ["_law_lines", "_law_many", "_law_program"]) (ps := []) (fr := ["_law_lines", "_law_many", "_law_program"]) (NdefX.nscope_by (by dsimp only; decide +kernel)) rfl (fun s pm ctv us r z => z.elim (fun z => by cases r; obtain ⟨z1, _⟩ := z; dsimp only at z1; subst z1; exact .of_eq rfl) (fun z => by cases r; obtain ⟨_, _, _, _, z, _⟩ := z; exact absurd rfl z)) (fun A outer s H f ws Q E hr hl h => ?_)) (by decide)
      obtain ⟨F, A, rows, pl, ts, rs, e, C, xF, h4, hpl, RA, r1, r6, tv, hq⟩ := h
      cases e
      refine ⟨_, (pe_callS G_merged (hr.mono (by decide)) rfl (g_merged T) kp_merged bi_merged (fun σ => passAt (takes_of rfl rfl rfl rfl) σ) (pa_cons (pv 2) (pa_cons (pe_op op_cat (pe_op op_rep (pe_slice sl_list (pv 0) po_none (po_some pe_int)) (pe_op op_sub pe_int (pv 1))) (pv 0)) pa_nil))), ?_⟩
      have tl := rowsAt_len RA
      refine ⟨_, rfl, _, rfl, ?_⟩
      unfold tNoPart
      refine ⟨1, rfl, pl, _, rfl, Evl.sq_of hpl, ?_⟩
      intro p34 n34
      generalize e34 : upd _ p34 _ = H34
      obtain ⟨x34, s34, o34⟩ := new_of e34 n34
      clear e34
      have c34 : cutV (ts.map V.ref) none (some 1) = (ts.map V.ref).take 1 := cut_to (ts.map V.ref) 1
      rw [c34] at s34
      refine ⟨_, rfl, _, _, rfl, rfl, ?_⟩
      have en : (200 : Int) - (rs.length : Int) = ((200 - rs.length : Nat) : Int) := by omega
      have l1 : ((ts.map V.ref).take 1).length = 1 := by rw [List.length_take, List.length_map]; omega
      have lr1 : (rs.take 1).length = 1 := by rw [List.length_take]; omega
      refine ⟨p34, _, _, rfl, rfl, s34, by omega, by omega, by rw [l1, en, Int.toNat_natCast]; exact Nat.le_trans (show 1 * (200 - rs.length) ≤ 1000 by omega) (sz (by decide)), ?_⟩
      intro p35 n35
      generalize e35 : upd _ p35 _ = H35
      obtain ⟨x35, s35, o35⟩ := new_of e35 n35
      clear e35
      rw [en, Int.toNat_natCast] at s35
      have lf : (List.replicate (200 - rs.length) ((ts.map V.ref).take 1)).flatten.length = 200 - rs.length := by
        rw [List.length_flatten, List.map_replicate, l1]
        simp
      have lfr : (List.replicate (200 - rs.length) (rs.take 1)).flatten.length = 200 - rs.length := by
        rw [List.length_flatten, List.map_replicate, lr1]
        simp
      refine ⟨_, rfl, p35, pl, _, _, rfl, rfl, s35, x35 _ _ (x34 _ _ hpl), by rw [lf, List.length_map, tl]; exact Nat.le_trans (show 200 - rs.length + rs.length ≤ 1000 by omega) (sz (by decide)), ?_⟩
      intro p36 n36
      generalize e36 : upd _ p36 _ = H36
      obtain ⟨x36, s36, o36⟩ := new_of e36 n36
      clear e36
      have x3436 := x34.trans (x35.trans x36)
      have RA36 := rowsAt_ex x3436 RA
      have lT : ((List.replicate (200 - rs.length) (rs.take 1)).flatten ++ rs).length = 200 := by rw [List.length_append, lfr]; omega
      refine ⟨F, A, rows, p36, (List.replicate (200 - rs.length) (ts.take 1)).flatten ++ ts, (List.replicate (200 - rs.length) (rs.take 1)).flatten ++ rs, rfl, C, xF.trans x3436, h4, ?_, rowsAt_app44 (rowsAt_rep44 (rowsAt_take44 1 RA36) _) RA36, by rw [lT]; decide, by rw [lT]; decide, fun y hy => ?_, fun H' a us k x _ _ _ _ => hq _ _ (x3436.trans x)⟩
      · rw [s36, List.map_append, List.map_flatten, List.map_replicate, List.map_take]
      · rw [lT]
        refine tv_mono44 (tv y ?_) (by omega)
        rcases List.mem_append.mp hy with h | h
        · obtain ⟨l, hl1, hl2⟩ := List.mem_flatten.mp h
          rw [(List.mem_replicate.mp hl1).2] at hl2
          exact List.mem_of_mem_take hl2
        · exact h
    · subst hL0
      exact gr.cells _ cl0 _ _ rfl rfl cp0
    refine ⟨rfl, _, rfl, itF rfl ?_⟩
    have kend : KT K H3 H33 := ⟨fun b o h n => by
      have pn : b ≠ p4 := ne_of_none (k3.kp b o h n) n4
      exact (k32.ex x33).kp b o (x2228 _ _ (k22.kp b o pn n (kq11.kp b o pn n (k39.kp b o h n)))) n, (k32.ex x33).tb⟩
    exact ⟨kend, _, _, _, _, _, _, _, _, _, _, rfl⟩
end
end Fc
open PySem PySem.W PyProof.Rows in
set_option maxRecDepth 100000 in
set_option maxHeartbeats 0 in
theorem PySem.Challenge.cw_finallycopies_k44_invalid_tables_holds : PySem.Challenge.rw_finallycopies_k44_invalid_tables.Holds := by
  w_on; o_law
  refine HandSHeadRun.head_any (r := Fc.R) (q := view Fc.R.prog [81]) (H := Fc.hk) (ob := Fc.ob) (M := 20000) (loose := Fc.looseL) (d := HandSHeadRun.topDef Fc.R.prog 81) (kwd := []) Fc.ob_eq
    (by kernel_rfl) (fun s => by kernel_rfl) Fc.run (by kernel_rfl) (by kernel_rfl) (by kernel_rfl) (by rfl) (by first | assumption | decide +kernel) (by decide +kernel) ⟨rfl, rfl, rfl, rfl, rfl, by decide +kernel⟩ ?hw ?hc
  case hw => w_witness2
  case hc =>
    refine FcL.walk_ofG (l := PySem.Challenge.rw_finallycopies_k44_invalid_tables) (n := 63) (k := 60) (x := "_law_script") rfl (by decide) (by kernel_rfl) ⟨rfl, by decide, by decide⟩ ?F
    intro w mg fa h Y G hmg0
    obtain ⟨K, KX, c⟩ := Y
    have hmg : mg ("law" : PySem.Str) = some (.ref fa) := by
      have e : (HandSHeadRun.topDef Fc.R.prog 81).name = ("law" : PySem.Str) := by kernel_rfl
      rw [← e]
      exact hmg0
    have T : Fc.Tx w h K mg := ⟨KX, G, c⟩
    obtain rfl : fa = He.ga K "law" := Value.ref.inj (Option.some.inj (hmg.symm.trans (Fc.g_law T)))
    obtain ⟨fd, F⟩ := Fc.F_law T
    have b := L2.FunD.bindsA (ps := ["_law_script"]) F fun _ _ _ _ _ _ us hl => match us, hl with | [_], _ => rfl
    have mem : ∀ p ∈ Fc.tfL.map (He.cT K), ∃ q ∈ Fc.tfL, He.cT K q = p := fun p hp => List.mem_map.mp hp
    refine ⟨K, Fc.tfL.map (He.cT K), fd, Fc.sp_law44 K, KX, fun p hp => ?_, fun p hp => ?_, fun p hp => ?_, fun s v => b s [v] rfl, fun H a ns hl hT hS => ⟨a, ns, rfl, hl, hS, fun p hp => ?_, fun _ => rfl⟩, fun base _ TBs => ?_⟩
    · obtain ⟨q, hq, rfl⟩ := mem p hp
      exact c.empty q hq
    · obtain ⟨q, hq, rfl⟩ := mem p hp
      exact c.out q hq
    · obtain ⟨q, hq, rfl⟩ := mem p hp
      exact PySem.W.codeHd_of_K KX (c.hd q hq)
    · obtain ⟨q, hq, rfl⟩ := List.mem_map.mp hp
      exact LamX.TabS.nil (hT (He.cT K q) (List.mem_map.mpr ⟨q, hq, rfl⟩))
    · have TB : FcL.TabG K base mg Fc.tfL := fun p hp => TBs (He.cT K p) (List.mem_map.mpr ⟨p, hp, rfl⟩)
      obtain ⟨fd', G', _, _, F'⟩ := Fc.okF_law (P := (PySem.Challenge.rw_finallycopies_k44_invalid_tables).prog) (base := base) TB T
      obtain rfl : fd = fd' := by
        obtain ⟨_, _, _, _, _, _, _, _, _, _, _, l1, _⟩ := F.ex
        obtain ⟨_, _, _, _, _, _, _, _, _, _, _, l2, _⟩ := F'.ex
        have z := l1.symm.trans l2
        cases z
        rfl
      exact G'
