import PyProof.Rows.All
import Wide.All
import OpenK.AllK
import Wide.FinOn
import KE.KDictItemsList
import HandS.ForMost
import PyProof.EqAt
import PyProof.EqKinds
import PyProof.EnumMake
import HandS.Exc
import HandS.Conv
import HandS.Evl
import HandS.IsInst
import HandS.Style
import HandS.TupAny
import HandS.Defaults
import HandS.HeadHook4
import HandS.Walk
import KE.KExcInit
import KE.KExcIs
import HandS.ExcOwn
import HandS.ExcInit
import HandS.ExcValue
import HandS.OwnEq
import HandS.MakeKw
import HandS.TryMany
import HandS.ExcField
import HandS.CallLocal
import HandS.Lambda
import HandS.Nested
import HandS.EndTab
import HandS.HeadWalk
import PyProof.ReprRoads
import HandS.Head0
import HandS.Head1
import HandS.Head2
import HandS.HeadEnd
import HandS.HeadHook1
import HandS.HeadHook2
import HandS.HeadHook3
import HandS.More
import PyProof.CallFns
import KE.KDictWalk
import KE.KDictDisplayH
import HandS.Iter
import HandS.Dict
import HandS.DictTup
import HandS.Small
import KE.LtData
import KE.SortData
import KE.KDictSum
import HandS.SetFor
import HandS.Strs
import PySem.Challenge.RW_finallycopies_k46_any_tables_merged
set_option Elab.async false
set_option linter.all false
set_option maxRecDepth 100000
set_option maxHeartbeats 4000000
namespace FcE
open PySem PySem.W PySem.Calls PyProof.Rows PyProof.V PySem.Spec
/-- an enumerate object behind a pair that it gave out and that still lives at a -/
def EnB (h : Heap) (e it a : Addr) (f : Bool) (i : Int) (item : Value) : Prop :=
  h.get? e = some { cls := .type "enumerate", dict := none, data := .fields #[rawInt a, .bool f, .ref it, rawInt i, .none, item], slots := #[] }
section
variable {prog : Program} {w : World} {A : Around} {E : Value → Shared → Prop} {s : Shared}
theorem enB_next {e it l a : Addr} {f : Bool} {oa : Obj} {i : Nat} {items : Array Value} {x item : Value} {Q : Option Value → Shared → Prop}
    (he : EnB s.heap e it a f i item) (ha : s.heap.get? a = some oa) (hae : a ≠ e) (hai : a ≠ it) (hit : s.heap.IsListIter it l i) (hl : s.heap.IsList l items) (hx : items[i]? = some x) (hne : e ≠ it)
    (hQ : ∀ h', EnB h' e it a true ((i : Int) + 1) item → h'.IsListIter it l (i + 1) →
      h'.get? s.heap.objs.size = some { cls := .type "tuple", data := .seq #[.int i s.toks, x] } → h'.objs.size = s.heap.objs.size + 1 →
      (∀ b o, b ≠ e → b ≠ it → s.heap.get? b = some o → h'.get? b = some o) → Q (some (.ref s.heap.objs.size)) { s with heap := h', toks := s.toks + 1 }) :
    wpAny (model prog w) A (pyNext (.ref e)) Q E s := by
  obtain ⟨hp, g, d, tk, os⟩ := s
  have hT : Shared.TypeIs ⟨hp, g, d, tk, os⟩ (.ref e) "enumerate" := ⟨_, he, rfl⟩
  unfold pyNext
  refine wpAny_bind (wpAny_attempt (wpAny_callSpecial?_slot (name := Str.ofString "__next__") hT F.slot_enumerate_next
    (wpAny_call_entry F.slot_enumerate_next hT F.entry_enumerate_next ?_ (F.args_enumerate_next_1 _))))
  show wpAny _ _ (field (.ref e) 2 >>= _) _ _ _
  refine wpAny_bind (wpAny_field he rfl (x := .ref it) rfl ?_)
  refine wpAny_bind (wpAny_nextOf_list_item hit hl hx fun h1 hit1 hs1 => ?_)
  replace hs1 : Heap.SameBut it hp h1 := hs1
  have he1 : EnB h1 e it a f i item := (hs1.2 e hne).trans he
  show wpAny _ _ (field (.ref e) 3 >>= _) _ _ ⟨h1, g, d, tk, os⟩
  refine wpAny_bind (wpAny_field he1 rfl (x := rawInt i) rfl ?_)
  show wpAny _ _ (field (.ref e) 4 >>= _) _ _ ⟨h1, g, d, tk, os⟩
  refine wpAny_bind (wpAny_field he1 rfl (x := .none) rfl ?_)
  show wpAny _ _ (mkInt i >>= _) _ _ ⟨h1, g, d, tk, os⟩
  refine wpAny_bind (wpAny_mkInt ?_)
  show wpAny _ _ (setField (.ref e) 3 (rawInt ((i : Int) + 1)) >>= _) _ _ ⟨h1, g, d, tk + 1, os⟩
  refine wpAny_bind (wpAny_setField_rec he1 (by simp) fun h2 he2 hs2 => ?_)
  replace hs2 : Heap.SameBut e h1 h2 := hs2
  replace he2 : EnB h2 e it a f ((i : Int) + 1) item := he2
  show wpAny _ _ (setField (.ref e) 4 .none >>= _) _ _ ⟨h2, g, d, tk + 1, os⟩
  refine wpAny_bind (wpAny_setField_rec he2 (by simp) fun h3 he3 hs3 => ?_)
  replace hs3 : Heap.SameBut e h2 h3 := hs3
  replace he3 : EnB h3 e it a f ((i : Int) + 1) item := he3
  show wpAny _ _ (newTuple [.int i tk, x] >>= _) _ _ ⟨h3, g, d, tk + 1, os⟩
  refine wpAny_bind (wpAny_newTuple ?_)
  have he4 : EnB (h3.push { cls := .type "tuple", data := .seq #[.int i tk, x] }) e it a f ((i : Int) + 1) item := Heap.get?_push_of_some _ he3
  generalize hh4 : h3.push { cls := .type "tuple", data := .seq #[.int i tk, x] } = h4 at he4
  have hsz : h3.objs.size = hp.objs.size := by rw [hs3.1, hs2.1, hs1.1]
  have hel : e < hp.objs.size := Heap.lt_size he
  have ht4 : h4.get? hp.objs.size = some { cls := .type "tuple", data := .seq #[.int i tk, x] } := by rw [← hh4, ← hsz]; exact Heap.get?_push_size _ rfl
  have hz4 : h4.objs.size = hp.objs.size + 1 := by rw [← hh4, Heap.size_push, hsz]
  have hk4 : ∀ b o, b ≠ e → b ≠ it → hp.get? b = some o → h4.get? b = some o := fun b o hbe hbi hb => by
    rw [← hh4]; exact Heap.get?_push_of_some _ (hs3.extBut b o hbe (hs2.extBut b o hbe (hs1.extBut b o hbi hb)))
  have hit4 : h4.IsListIter it l (i + 1) := by
    rw [← hh4]; obtain ⟨o, ho, r⟩ := (hit1.extBut hs2.extBut (Ne.symm hne)).extBut hs3.extBut (Ne.symm hne); exact ⟨o, Heap.get?_push_of_some _ ho, r⟩
  show wpAny _ _ (Builtin.SmallTypes.ownedTupleIsFree (.ref e) >>= _) _ _ ⟨h4, g, d, tk + 1, os⟩
  rw [hsz]
  have ha4 : h4.get? a = some oa := hk4 a oa hae hai ha
  clear hh4 he3 hs3 he2 hs2 he1 hs1 hit1 hsz h3 h2 h1
  refine wpAny_bind ?_
  unfold Builtin.SmallTypes.ownedTupleIsFree
  refine wpAny_bind (wpAny_field he4 rfl (x := rawInt a) rfl ?_)
  show wpAny _ _ (loadIfAlive ((a : Int).toNat) >>= _) _ _ _
  rw [Int.toNat_natCast]
  refine wpAny_bind (kdx_alive ha4 ?_)
  simp only [Option.isNone_some, Bool.false_eq_true, if_false]
  refine wpAny_bind (wpAny_field he4 rfl (x := .bool f) rfl ?_)
  have fin : ∀ h5 : Heap, EnB h5 e it a true ((i : Int) + 1) item → Heap.SameBut e h4 h5 → Q (some (.ref hp.objs.size)) ⟨h5, g, d, tk + 1, os⟩ := fun h5 he5 hs5 =>
    hQ h5 he5 (hit4.extBut hs5.extBut (Ne.symm hne)) (by exact hs5.extBut _ _ (Nat.ne_of_gt hel) ht4) (by show h5.objs.size = hp.objs.size + 1; rw [hs5.1, hz4]) fun b o hbe hbi hb => hs5.extBut b o hbe (hk4 b o hbe hbi hb)
  cases f with
  | true =>
    rw [if_neg (show ¬ ((Value.bool true != Value.bool true) = true) from Bool.false_ne_true)]
    refine wpAny_pure ?_
    simp only [Bool.false_eq_true, if_false]
    exact wpAny_pure ⟨_, rfl, wpAny_pure (fin h4 he4 (Heap.SameBut.refl _ _))⟩
  | false =>
    rw [if_pos (show (Value.bool false != Value.bool true) = true from rfl)]
    refine wpAny_bind (wpAny_setField_rec he4 (by simp) fun h5 he5 hs5 => ?_)
    replace hs5 : Heap.SameBut e h4 h5 := hs5
    replace he5 : EnB h5 e it a true ((i : Int) + 1) item := he5
    refine wpAny_pure ?_
    simp only [Bool.false_eq_true, if_false]
    exact wpAny_pure ⟨_, rfl, wpAny_pure (fin h5 he5 hs5)⟩
theorem enB_done {e it l a : Addr} {f : Bool} {i : Nat} {items : Array Value} {item : Value} {Q : Option Value → Shared → Prop} (hh : A.handled = none)
    (he : EnB s.heap e it a f i item) (hit : s.heap.IsListIter it l i) (hl : s.heap.IsList l items) (hx : items[i]? = none)
    (hQ : ∀ h', Heap.ExtBut it s.heap h' → Q none { s with heap := h' }) : wpAny (model prog w) A (pyNext (.ref e)) Q E s := by
  have hT : s.TypeIs (.ref e) "enumerate" := ⟨_, he, rfl⟩
  unfold pyNext
  refine wpAny_bind (wpAny_attempt (wpAny_callSpecial?_slot (name := Str.ofString "__next__") hT F.slot_enumerate_next
    (wpAny_call_entry F.slot_enumerate_next hT F.entry_enumerate_next ?_ (F.args_enumerate_next_1 _))))
  show wpAny _ _ (field (.ref e) 2 >>= _) _ _ _
  refine wpAny_bind (wpAny_field he rfl (x := .ref it) rfl ?_)
  refine wpAny_bind (wpAny_nextOf_list_end hh hit hl hx fun h' x he' hx' => ?_)
  obtain ⟨o, ho, hc⟩ := hx'
  refine wpAny_bind (wpAny_isInstance (T := "StopIteration") (b := true) ⟨o, ho, hc⟩ isSubtype_stop ?_)
  exact wpAny_pure (hQ _ he')
end
/-- between two pairs: none given out, or the last one lives -/
def EnSt (h : Heap) (e it S : Addr) (i : Nat) : Prop :=
  (i = 0 ∧ ∃ old, IsEnum h e it 0 old) ∨ ∃ a f oa item, EnB h e it a f i item ∧ h.get? a = some oa ∧ a ≠ e ∧ a ≠ it ∧ a ≠ S
theorem EnSt.keep {h h' : Heap} {e it S : Addr} {i : Nat} (x : EnSt h e it S i) (hk : ∀ b o, b ≠ S → h.get? b = some o → h'.get? b = some o) (hS : e ≠ S) : EnSt h' e it S i := by
  rcases x with ⟨z, old, q⟩ | ⟨a, f, oa, item, q, r, n1, n2, n3⟩
  · exact .inl ⟨z, old, hk e _ hS q⟩
  · exact .inr ⟨a, f, oa, item, hk e _ hS q, hk a oa n3 r, n1, n2, n3⟩
/-- the pairs that were given: at as, above lo, in order -/
structure EnG (items : Array Value) (lo : Addr) (h : Heap) (as : List Addr) : Prop where
  above : ∀ a ∈ as, lo < a
  nodup : as.Nodup
  pairs : ∀ (j : Nat) (a : Addr), as[j]? = some a → ∃ t x, items[j]? = some x ∧ h.get? a = some { cls := .type "tuple", data := .seq #[.int j t, x] }
section
variable {prog : Program} {w : World} {A : Around} {E : Value → Shared → Prop} {s : Shared} {R : Result → Shared → Prop} {items : Array Value}
theorem en_item {e it l S : Addr} {i : Nat} {x : Value} {Q : Option Value → Shared → Prop} (hst : EnSt s.heap e it S i) (hS : S < s.heap.objs.size) (hit : s.heap.IsListIter it l i) (hl : s.heap.IsList l items) (hx : items[i]? = some x) (hne : e ≠ it)
    (hQ : ∀ h', EnSt h' e it S (i + 1) → h'.IsListIter it l (i + 1) → h'.get? s.heap.objs.size = some { cls := .type "tuple", data := .seq #[.int i s.toks, x] } → h'.objs.size = s.heap.objs.size + 1 →
      (∀ b o, b ≠ e → b ≠ it → s.heap.get? b = some o → h'.get? b = some o) → Q (some (.ref s.heap.objs.size)) { s with heap := h', toks := s.toks + 1 }) :
    wpAny (model prog w) A (pyNext (.ref e)) Q E s := by
  have itl : it < s.heap.objs.size := by obtain ⟨_, q, _⟩ := hit; exact Heap.lt_size q
  rcases hst with ⟨z, old, q⟩ | ⟨a, f, oa, item, q, r, n1, n2, n3⟩
  · subst z
    refine wpAny_pyNext_enum_item q hit hl hx hne fun h' ho h1 h2 h3 hk => hQ h' (.inr ⟨s.heap.objs.size, false, _, x, ?_, h2, Nat.ne_of_gt (Heap.lt_size q), Nat.ne_of_gt itl, Nat.ne_of_gt hS⟩) h1 h2 h3 hk
    exact ho
  · refine enB_next q r n1 n2 hit hl hx hne fun h' ho h1 h2 h3 hk => hQ h' (.inr ⟨a, true, oa, item, ?_, hk a oa n1 n2 r, n1, n2, n3⟩) h1 h2 h3 hk
    have z : ((i + 1 : Nat) : Int) = (i : Int) + 1 := by omega
    rw [z]
    exact ho
theorem en_done {e it l S : Addr} {i : Nat} {Q : Option Value → Shared → Prop} (hh : A.handled = none) (hst : EnSt s.heap e it S i) (hit : s.heap.IsListIter it l i) (hl : s.heap.IsList l items) (hx : items[i]? = none)
    (hQ : ∀ h', Heap.ExtBut it s.heap h' → Q none { s with heap := h' }) : wpAny (model prog w) A (pyNext (.ref e)) Q E s := by
  rcases hst with ⟨z, old, q⟩ | ⟨a, f, oa, item, q, r, n1, n2, n3⟩
  · subst z
    exact wpAny_pyNext_enum_end hh q hit hl hx hQ
  · exact enB_done hh q hit hl hx hQ
theorem en_loop {S e it l : Addr} (hh : A.handled = none) (hSe : e < S) (hSi : it < S) (hSl : l ≠ S) (hle : l ≠ e) (hli : l ≠ it) (hne : e ≠ it) (hn : items.size ≤ sizeLine) (res : Value) {h0 : Heap}
    (hR : ∀ h' tk acc c as, (∀ b o, b ≠ S → b ≠ e → b ≠ it → h0.get? b = some o → h'.get? b = some o) → h'.get? S = some { cls := .type "list", dict := none, data := .seq acc c, slots := #[] } → as.length = items.size → EnG items S h' as →
      acc.toList = as.map Value.ref → R (.ok (.ret res)) { s with heap := h', toks := tk }) :
    ∀ (k i : Nat) (h : Heap) (tk c : Nat) (acc : Array Value) (as : List Addr), items.size - i = k → i ≤ items.size → EnSt h e it S i → h.IsListIter it l i → h.IsList l items → (∀ b o, b ≠ S → b ≠ e → b ≠ it → h0.get? b = some o → h.get? b = some o) →
      h.get? S = some { cls := .type "list", dict := none, data := .seq acc c, slots := #[] } → acc.toList = as.map Value.ref → as.length = i → EnG items S h as →
      codeAny (model prog w) A (.builtin "list.extend.loop" ⟨[.ref S, .ref e, res], []⟩) R { s with heap := h, toks := tk } := by
  have nSe : S ≠ e := Nat.ne_of_gt hSe
  have nSi : S ≠ it := Nat.ne_of_gt hSi
  intro k
  induction k with
  | zero =>
    intro i h tk c acc as hk hi hst hit hl hkeep hS hacc hal hG
    have hin : i = items.size := by omega
    refine codeAny_builtin PySem.F.entry_extend_loop ?_
    rw [Around.under_plainId PySem.F.plain_extend_loop _]
    show wpAny _ A.in1 (pyNext (.ref e) >>= _) _ _ _
    refine wpAny_bind (en_done (s := { s with heap := h, toks := tk }) (A := A.in1) hh hst hit hl (Array.getElem?_eq_none (by omega)) fun h' he => ?_)
    refine wpAny_pure (hR h' tk acc c as (fun b o h1 h2 h3 z => he b o h3 (hkeep b o h1 h2 h3 z)) (he S _ nSi hS) (by omega) ⟨hG.above, hG.nodup, fun j a hj => ?_⟩ hacc)
    obtain ⟨t, x, e1, e2⟩ := hG.pairs j a hj
    exact ⟨t, x, e1, he a _ (Nat.ne_of_gt (Nat.lt_trans hSi (hG.above a (List.mem_of_getElem? hj)))) e2⟩
  | succ k ih =>
    intro i h tk c acc as hk hi hst hit hl hkeep hS hacc hal hG
    have hlt : i < items.size := by omega
    have hsz : acc.size = i := by rw [← Array.length_toList, hacc, List.length_map, hal]
    have hx : items[i]? = some items[i] := Array.getElem?_eq_getElem hlt
    have hSz : S < h.objs.size := Heap.lt_size hS
    refine codeAny_builtin PySem.F.entry_extend_loop ?_
    rw [Around.under_plainId PySem.F.plain_extend_loop _]
    show wpAny _ A.in1 (pyNext (.ref e) >>= _) _ _ _
    refine wpAny_bind (en_item (s := { s with heap := h, toks := tk }) (S := S) hst hSz hit hl hx hne fun h' hst' hit' ht hz hkp => ?_)
    dsimp only at ht hz hkp ⊢
    have hS' := hkp S _ nSe nSi hS
    have up : ∀ b o, b ≠ S → h'.get? b = some o → (h'.update S (Obj.mapSeq (·.push (Value.ref h.objs.size)))).get? b = some o := fun b o hb z => (Heap.get?_update_other _ _ (Ne.symm hb)).trans z
    have hl' : (h'.update S (Obj.mapSeq (·.push (Value.ref h.objs.size)))).IsList l items := hl.at fun o z => up l o hSl (hkp l o hle hli z)
    have hit2 : (h'.update S (Obj.mapSeq (·.push (Value.ref h.objs.size)))).IsListIter it l (i + 1) := hit'.at fun o z => up it o (Ne.symm nSi) z
    show wpAny _ A.in1 (updateSeq S (·.push (Value.ref h.objs.size)) >>= _) _ _ _
    refine wpAny_bind ?_
    refine wpAny_updateSeq hS' rfl (wpAny_pure ⟨plainId_quiet PySem.F.plain_extend_loop _, ih (i + 1) _ (tk + 1) _ (acc.push (Value.ref h.objs.size)) (as ++ [h.objs.size]) (by omega) hlt (hst'.keep up (Ne.symm nSe)) hit2 hl'
      (fun b o h1 h2 h3 z => up b o h1 (hkp b o h2 h3 (hkeep b o h1 h2 h3 z))) (Heap.get?_update_self _ hS' rfl) (by rw [Array.toList_push, hacc, List.map_append]; rfl) (by rw [List.length_append, hal]; rfl) ⟨?_, ?_, ?_⟩⟩) (by rw [hsz]; omega) (by show (acc.push (Value.ref h.objs.size)).size ≤ sizeLine + 1; rw [Array.size_push, hsz]; omega)
    · intro a ha
      rcases List.mem_append.mp ha with ha | ha
      · exact hG.above a ha
      · rw [List.mem_singleton.mp ha]; exact hSz
    · refine List.nodup_append.mpr ⟨hG.nodup, List.nodup_cons.mpr ⟨List.not_mem_nil, List.nodup_nil⟩, fun a ha b hb => ?_⟩
      rw [List.mem_singleton.mp hb]
      obtain ⟨j, hj⟩ := List.mem_iff_getElem?.mp ha
      obtain ⟨_, _, _, z⟩ := hG.pairs j a hj
      exact Nat.ne_of_lt (Heap.lt_size z)
    · intro j b hj
      rcases Nat.lt_trichotomy j as.length with h1 | h1 | h1
      · rw [List.getElem?_append_left h1] at hj
        obtain ⟨t, x, e1, e2⟩ := hG.pairs j b hj
        have hb := hG.above b (List.mem_of_getElem? hj)
        exact ⟨t, x, e1, up b _ (Nat.ne_of_gt hb) (hkp b _ (Nat.ne_of_gt (Nat.lt_trans hSe hb)) (Nat.ne_of_gt (Nat.lt_trans hSi hb)) e2)⟩
      · subst h1
        have hb : h.objs.size = b := by simpa using hj
        subst hb
        subst hal
        exact ⟨tk, _, hx, up _ _ (Nat.ne_of_gt hSz) ht⟩
      · have hnone : (as ++ [h.objs.size])[j]? = none := List.getElem?_eq_none (by rw [List.length_append, List.length_singleton]; omega)
        rw [hnone] at hj; cases hj
end
theorem nolen_enum : typeLookup (.type "enumerate") "__len__" = pure none := by rw [typeLookup_type, builtinLookup_eq_fast]; kernel_rfl
theorem nohint_enum : typeLookup (.type "enumerate") "__length_hint__" = pure none := by rw [typeLookup_type, builtinLookup_eq_fast]; kernel_rfl
section
variable {prog : Program} {w : World} {A : Around} {E : Value → Shared → Prop} {s : Shared} {items : Array Value}
theorem en_hint {r : Addr} {Q : Bool → Shared → Prop} (hT : s.TypeIs (.ref r) "enumerate") (h : Q true s) : wpAny (model prog w) A (Builtin.List.listLengthHint (.ref r)) Q E s := by
  unfold Builtin.List.listLengthHint
  refine wpAny_bind (wpAny_specialOf hT nolen_enum ?_)
  refine wpAny_ite_split (fun hab => absurd hab (by decide)) (fun _ => ?_)
  refine wpAny_ite_split (fun hab => absurd hab (by decide)) (fun _ => ?_)
  refine wpAny_bind (wpAny_specialOf hT nohint_enum ?_)
  exact wpAny_pure h
theorem en_extend {R : Result → Shared → Prop} {S e it l : Addr} (hh : A.handled = none) (hSe : e < S) (hSi : it < S) (hSl : l ≠ S) (hle : l ≠ e) (hli : l ≠ it) (hne : e ≠ it) (hst : IsEnum s.heap e it 0 .none) (hit : s.heap.IsListIter it l 0) (hl : s.heap.IsList l items)
    (res : Value) (c0 : Nat) (hS : s.heap.get? S = some { cls := .type "list", data := .seq #[] c0 })
    (hR : ∀ h' tk acc c as, (∀ b o, b ≠ S → b ≠ e → b ≠ it → s.heap.get? b = some o → h'.get? b = some o) → h'.get? S = some { cls := .type "list", dict := none, data := .seq acc c, slots := #[] } → as.length = items.size → EnG items S h' as →
      acc.toList = as.map Value.ref → R (.ok (.ret res)) { s with heap := h', toks := tk }) (hn : items.size ≤ sizeLine) :
    wpAny (model prog w) A.in1 (Builtin.List.listExtendWith (.ref S) (.ref e) res)
      (fun fin s' => match fin with | .done f => R (.ok f) s' | .again c' => c'.quiet = true ∧ codeAny (model prog w) A c' R s') (fun e s' => R (.error e) s') s := by
  have nSe : S ≠ e := Nat.ne_of_gt hSe
  have hT : s.TypeIs (.ref e) "enumerate" := ⟨_, hst, rfl⟩
  have key : ∀ (h : Heap) (c1 tk : Nat), (∀ b o, b ≠ S → s.heap.get? b = some o → h.get? b = some o) → h.get? S = some { cls := .type "list", data := .seq #[] c1 } →
      codeAny (model prog w) A (.builtin "list.extend.loop" ⟨[.ref S, .ref e, res], []⟩) R { s with heap := h, toks := tk } := by
    intro h c1 tk hk hS1
    exact en_loop (items := items) (s := s) (h0 := s.heap) hh hSe hSi hSl hle hli hne hn res hR items.size 0 h tk c1 #[] [] (Nat.sub_zero _) (Nat.zero_le _) (.inl ⟨rfl, .none, hk e _ (Ne.symm nSe) hst⟩)
      (hit.at fun o z => hk it o (Nat.ne_of_lt hSi) z) (hl.at fun o z => hk l o hSl z) (fun b o h1 _ _ z => hk b o h1 z) hS1 rfl rfl ⟨(fun _ z => nomatch z), List.nodup_nil, fun j a hj => by simp at hj⟩
  unfold Builtin.List.listExtendWith
  refine wpAny_bind (wpAny_typeOf (T := "enumerate") hT ?_)
  have h1 : Builtin.List.listSameRef (.ref S) (.ref e) = false := by simp [Builtin.List.listSameRef, nSe]
  have h2 : (Value.type "enumerate" == Value.type "list") = false := by decide
  have h3 : (Value.type "enumerate" == Value.type "tuple") = false := by decide
  simp only [h1, h2, h3, Bool.or_false, Bool.false_eq_true, if_false]
  refine wpAny_bind (wpAny_pyIter_enum hst ?_)
  refine wpAny_bind (wpAny_holding (en_hint hT ?_))
  refine wpAny_ite_split (fun _ => ?_) (fun _ => wpAny_pure ⟨plainId_quiet PySem.F.plain_extend_loop _, key _ c0 _ (fun b o _ z => z) hS⟩)
  refine wpAny_bind (wpAny_rule ?_)
  refine wpAny_bind ?_
  show wpAny _ _ (updateSeq S (·.push .none) >>= fun _ => updateSeq S (·.pop)) _ _ _
  refine wpAny_bind (wpAny_updateSeq hS rfl ?_)
  have hS2 := Heap.get?_update_self (Obj.mapSeq (·.push Value.none)) hS rfl
  refine wpAny_updateSeq (hz := by seq_fits) hS2 rfl ?_
  have hS3 := Heap.get?_update_self (Obj.mapSeq (·.pop)) hS2 rfl
  refine wpAny_pure ⟨plainId_quiet PySem.F.plain_extend_loop _, key _ _ _ (fun b o hb z => ?_) hS3⟩
  exact (Heap.get?_update_other _ _ (Ne.symm hb)).trans ((Heap.get?_update_other _ _ (Ne.symm hb)).trans z)
theorem en_call {Q : Value → Shared → Prop} {e it l : Addr} (hh : A.handled = none) (hle : l ≠ e) (hli : l ≠ it) (hne : e ≠ it) (hst : IsEnum s.heap e it 0 .none) (hit : s.heap.IsListIter it l 0) (hl : s.heap.IsList l items) (hn : items.size ≤ sizeLine)
    (hQ : ∀ h' tk acc c as, (∀ b o, b ≠ e → b ≠ it → s.heap.get? b = some o → h'.get? b = some o) → h'.get? s.heap.objs.size = some { cls := .type "list", dict := none, data := .seq acc c, slots := #[] } → as.length = items.size → EnG items s.heap.objs.size h' as →
      acc.toList = as.map Value.ref → Q (.ref s.heap.objs.size) { s with heap := h', toks := tk }) :
    wpAny (model prog w) A (call (.type "list") [.ref e]) Q E s := by
  refine callType_codes (Q₁ := fun obj s₁ => obj = .ref s.heap.objs.size ∧ s₁ = { s with heap := s.heap.push { cls := .type "list", data := .seq #[] } }) PySem.F.called_list (PySem.F.typeCall_list_1 _) PySem.F.entry_list_init
    (code_list_new _ ⟨rfl, rfl⟩) fun obj s₁ h₁ => ?_
  obtain ⟨rfl, rfl⟩ := h₁
  have up : ∀ b o, s.heap.get? b = some o → (s.heap.push { cls := .type "list", data := .seq #[] }).get? b = some o := fun b o z => Heap.get?_push_of_some _ z
  have hS : (s.heap.push { cls := .type "list", data := .seq #[] }).get? s.heap.objs.size = some { cls := .type "list", data := .seq #[] } := Heap.get?_push_size _ rfl
  have le : e < s.heap.objs.size := Heap.lt_size hst
  have li : it < s.heap.objs.size := by obtain ⟨_, q, _⟩ := hit; exact Heap.lt_size q
  have ll : l ≠ s.heap.objs.size := by obtain ⟨_, q, _⟩ := hl; exact Nat.ne_of_lt (Heap.lt_size q)
  refine ⟨⟨_, hS, rfl⟩, PySem.F.args_list_init_2 _ _, ?_⟩
  show wpAny _ _ (do let old ← Builtin.List.listItems (.ref s.heap.objs.size); Builtin.List.listUpdate (.ref s.heap.objs.size) (fun _ => #[]); letGo old.toList.reverse; Builtin.List.listExtendWith (.ref s.heap.objs.size) (.ref e) .none) _ _ _
  refine wpAny_bind ?_
  unfold Builtin.List.listItems
  refine wpAny_bind (wpAny_seqItems hS rfl (wpAny_pure ?_))
  show wpAny _ _ (updateSeq s.heap.objs.size (fun _ => #[]) >>= fun _ => letGo (#[] : Array Value).toList.reverse >>= fun _ => Builtin.List.listExtendWith (.ref s.heap.objs.size) (.ref e) .none) _ _ _
  refine wpAny_bind (wpAny_updateSeq hS rfl ?_)
  have hS2 := Heap.get?_update_self (Obj.mapSeq (fun _ => (#[] : Array Value))) hS rfl
  have oth : ∀ b o, b ≠ s.heap.objs.size → s.heap.get? b = some o → ((s.heap.push { cls := .type "list", data := .seq #[] }).update s.heap.objs.size (Obj.mapSeq (fun _ => (#[] : Array Value)))).get? b = some o :=
    fun b o hb z => (Heap.get?_update_other _ _ (Ne.symm hb)).trans (up b o z)
  refine wpAny_bind (wpAny_letGo ?_)
  refine en_extend (A := A.in1) hh le li ll hle hli hne (oth e _ (Nat.ne_of_lt le) hst) (hit.at fun o z => oth it o (Nat.ne_of_lt li) z) (hl.at fun o z => oth l o ll z) .none _ hS2 (fun h' tk acc c as hk h1 h2 h3 h4 => ?_) hn
  exact ⟨rfl, hQ h' tk acc c as (fun b o n1 n2 z => hk b o (Nat.ne_of_lt (Heap.lt_size z)) n1 n2 (oth b o (Nat.ne_of_lt (Heap.lt_size z)) z)) h1 h2 h3 h4⟩
end
end FcE
set_option maxRecDepth 100000
set_option maxHeartbeats 4000000
namespace FcR
open PySem PySem.Spec PyProof.Rows L2
theorem passF {P : Program} {w : World} {X : Cx} : Passes (CX P w) X (fun _ _ _ => False) := fun _ _ _ _ _ _ _ h => by
  obtain ⟨_, _, _, _, _, _, _, _, _, _, _, _, z⟩ := h
  exact z.elim
def gFld (K : PySem.W.Frag) (to : TE) (f : Str) : TG := fun v σ H Q => to σ H fun x H1 => ∃ a C dx fs, x = .ref a ∧ H1 a = some (.ins C dx fs) ∧ Cls K C ∧ NoAttr K C f ∧ fs.length < 1000 ∧ Q σ (upd H1 a (.ins C dx (putF f v fs)))
theorem pg_fld {X : Cx} {o : Expr} {f : Str} {pos : Pos} {to : TE} (ho : PE X o to) : PG X (.Attribute o f pos) (gFld X.K to f) := by
  refine ⟨fun pins s σ H v u Q I r h => ?_⟩
  have ea : assign (.Attribute o f pos) X.env u = (do
      let ov ← holding [u] (eval o X.env)
      standAt pos.atName
      holding [u, ov] (setAttr ov f u)
      release [u, ov] []) := rfl
  rw [ea]
  refine wpAny_bind (wpAny_holding (thn (ho.run pins s σ H _ I h) fun ov s1 ⟨x, H1, I1, r1, a, C, dx, fs, ex, e1, c, n, l, q⟩ => ?_))
  subst ex
  obtain rfl : ov = Value.ref a := r1
  refine wpAny_bind (wpAny_standAt (wpAny_bind (wpAny_holding ?_)))
  exact setattr_ok I1 e1 c n l r fun s3 I3 => wpAny_release ⟨σ, _, I3, q⟩
def putP : Hp → List Addr → Nat → List V → Hp
  | H, a :: as, j, x :: xs => putP (upd H a (.tup [.int (j : Int), x])) as (j + 1) xs
  | H, _, _, _ => H
theorem putP_off {b : Addr} : ∀ (as : List Addr) (xs : List V) (j : Nat) (H : Hp), b ∉ as → putP H as j xs b = H b
  | [], _, _, _, _ => rfl
  | _ :: _, [], _, _, _ => rfl
  | a :: as, x :: xs, j, H, h => by
    show putP (upd H a (.tup [.int (j : Int), x])) as (j + 1) xs b = H b
    rw [putP_off as xs _ _ (fun z => h (List.mem_cons_of_mem _ z)), upd_ne (fun z => h (by rw [z]; exact List.mem_cons_self))]
theorem putP_at : ∀ (as : List Addr) (xs : List V) (j : Nat) (H : Hp), as.length = xs.length → as.Nodup → ∀ (i : Nat) (a : Addr) (x : V), as[i]? = some a → xs[i]? = some x → putP H as j xs a = some (.tup [.int ((j + i : Nat) : Int), x])
  | [], _, _, _, _, _, i, a, x, h, _ => by simp at h
  | _ :: _, [], _, _, h, _, _, _, _, _, _ => by cases h
  | a0 :: as, x0 :: xs, j, H, h, hn, 0, a, x, h1, h2 => by
    have hn' := List.nodup_cons.mp hn
    simp at h1 h2
    subst h1 h2
    show putP (upd H a0 (.tup [.int (j : Int), x0])) as (j + 1) xs a0 = _
    rw [putP_off as xs _ _ hn'.1, upd_same] <;> rfl
  | a0 :: as, x0 :: xs, j, H, h, hn, i + 1, a, x, h1, h2 => by
    have ih := putP_at as xs (j + 1) (upd H a0 (.tup [.int (j : Int), x0])) (Nat.succ.inj h) (List.nodup_cons.mp hn).2 i a x (by simpa using h1) (by simpa using h2)
    have e : j + 1 + i = j + (i + 1) := by omega
    rw [e] at ih
    exact ih
def rEnumL (K : PySem.W.Frag) : V → Hp → VK → Prop := fun x H Q => ∃ (a : Addr) (xs : List V), x = .ref a ∧ SqL K H a xs ∧
  ∀ (H' : Hp) (p : Addr) (ts : List Addr), (∀ b o, H b = some o → H' b = some o) → H p = none → (∀ t ∈ ts, H t = none) → p ∉ ts → ts.Nodup → ts.length = xs.length → H' p = some (.lst (ts.map V.ref)) →
    (∀ (i : Nat) (t : Addr) (x : V), ts[i]? = some t → xs[i]? = some x → H' t = some (.tup [.int (i : Int), x])) → Q (.ref p) H'
def tListEnum (K : PySem.W.Frag) (te : TE) : TE := fun σ H Q => te σ H fun x H1 => rEnumL K x H1 Q
theorem vals_refs : ∀ as : List Addr, Vals (as.map V.ref) (as.map Value.ref)
  | [] => .nil
  | _ :: as => .cons rfl (vals_refs as)
section
variable {X : Cx} {e : Expr} {te : TE} {p p2 pos2 pos : Pos}
theorem enum_laid {pins : List (Addr × Obj)} {σ : L2.St} {H : Hp} {s : Shared} {h' : Heap} {tk : Nat} {xs : List V} {its : List Value} {acc : Array Value} {c : Nat} {as : List Addr} {S : Addr} (hge : s.heap.objs.size ≤ S) (I : Inv X pins σ H s) (hz : xs.length ≤ sizeLine) (rv : Vals xs its)
    (hk : ∀ b o, s.heap.get? b = some o → h'.get? b = some o) (hS : h'.get? S = some { cls := .type "list", dict := none, data := .seq acc c, slots := #[] }) (hl : as.length = xs.length) (hG : FcE.EnG its.toArray S h' as) (hacc : acc.toList = as.map Value.ref) :
    ∃ H' : Hp, (∀ b o, H b = some o → H' b = some o) ∧ H S = none ∧ (∀ t ∈ as, H t = none) ∧ S ∉ as ∧ H' S = some (.lst (as.map V.ref)) ∧
      (∀ (i : Nat) (t : Addr) (x : V), as[i]? = some t → xs[i]? = some x → H' t = some (.tup [.int (i : Int), x])) ∧ Inv X pins σ H' { s with heap := h', toks := tk } := by
  have hSn : S ∉ as := fun z => Nat.lt_irrefl _ (hG.above _ z)
  have new : ∀ t ∈ as, H t = none := fun t ht => I.hok.fresh (Nat.le_trans hge (Nat.le_of_lt (hG.above t ht)))
  have newS : H S = none := I.hok.fresh hge
  have atP : ∀ (i : Nat) (t : Addr) (x : V), as[i]? = some t → xs[i]? = some x → putP (upd H S (.lst (as.map V.ref))) as 0 xs t = some (.tup [.int (i : Int), x]) := fun i t x h1 h2 => by
    have z := putP_at as xs 0 (upd H S (.lst (as.map V.ref))) hl hG.nodup i t x h1 h2
    rw [Nat.zero_add] at z
    exact z
  have off : ∀ b, b ∉ as → b ≠ S → putP (upd H S (.lst (as.map V.ref))) as 0 xs b = H b := fun b h1 h2 => by rw [putP_off as xs _ _ h1, upd_ne h2]
  have low : ∀ b o, s.heap.get? b = some o → b ∉ as ∧ b ≠ S := fun b o z => ⟨fun y => absurd (Heap.lt_size z) (Nat.not_lt.mpr (Nat.le_trans hge (Nat.le_of_lt (hG.above b y)))), Nat.ne_of_lt (Nat.lt_of_lt_of_le (Heap.lt_size z) hge)⟩
  have kp : ∀ b u, H b = some u → (putP (upd H S (.lst (as.map V.ref))) as 0 xs) b = some u := fun b u z => by
    rw [off b (fun y => by rw [new b y] at z; cases z) (fun y => by rw [y, newS] at z; cases z)]
    exact z
  have eS : putP (upd H S (.lst (as.map V.ref))) as 0 xs S = some (.lst (as.map V.ref)) := by rw [putP_off as xs _ _ hSn, upd_same]
  refine ⟨putP (upd H S (.lst (as.map V.ref))) as 0 xs, kp, newS, new, hSn, eS, atP, ?_⟩
  refine I.call' (ch := []) rfl ⟨fun b o q _ _ _ => hk b o q, fun b o q _ _ _ => ⟨o.slots, hk b o q⟩, fun b o q n _ => ?_, fun b o q _ => ⟨o, hk b o q⟩, fun b ys q => kp b _ q, fun b o u q => kp b _ q, fun b ps q => ⟨#[], by rw [kp b _ q]; simp⟩⟩ (fun b u q => ?_) I.bare fun b z => by simp at z
  · obtain ⟨z1, z2⟩ := low b o q
    rw [off b z1 z2]
    exact n
  · by_cases hb : b ∈ as
    · obtain ⟨j, hj⟩ := List.mem_iff_getElem?.mp hb
      have jl : j < xs.length := by rw [← hl]; exact (List.getElem?_eq_some_iff.mp hj).1
      have hx : xs[j]? = some xs[j] := List.getElem?_eq_getElem jl
      rw [atP j b _ hj hx] at q
      cases q
      obtain ⟨t, x, f1, f2⟩ := hG.pairs j b hj
      obtain ⟨u, g1, g2⟩ := rv.get hx
      have ex : x = u := by
        have f1' : its[j]? = some x := by simpa using f1
        rw [g1] at f1'
        exact (Option.some.inj f1').symm
      exact ⟨by show 2 ≤ sizeLine; decide, [.int (j : Int) t, x], .cons ⟨t, rfl⟩ (.cons (by rw [ex]; exact g2) .nil), ⟨_, f2, rfl, _, rfl⟩⟩
    · by_cases hb2 : b = S
      · rw [hb2] at q ⊢
        rw [eS] at q
        cases q
        refine ⟨by rw [List.length_map]; omega, acc.toList, c, by rw [hacc]; exact vals_refs as, ?_⟩
        rw [Array.toArray_toList]
        exact hS
      · rw [off b hb hb2] at q
        exact (I.hok b u q).stay (fun d v _ y => hk d v y) (fun d y => kp d _ y) fun d ys y => kp d _ y
theorem pe_listEnum (hc : X.calm = true) (he : PE X e te) (hg : Gl X "list") (hm : X.mg "list" = none) (hv : bootBuiltins "list" = some (.type "list")) (hg2 : Gl X "enumerate") (hm2 : X.mg "enumerate" = none) (hv2 : bootBuiltins "enumerate" = some (.type "enumerate"))
    (hs : starEach [.Call (.Name "enumerate" p2) [e] [] pos2] X.env = (false, eval (.Call (.Name "enumerate" p2) [e] [] pos2) X.env) :: starEach [] X.env := by rfl) (hs2 : starEach [e] X.env = (false, eval e X.env) :: starEach [] X.env := by rfl) :
    PE X (.Call (.Name "list" p) [.Call (.Name "enumerate" p2) [e] [] pos2] [] pos) (tListEnum X.K te) := by
  refine ⟨fun pins s σ H Q I hq => ?_⟩
  refine wpAny_Call_Name_kw (ld_blt I hg hm hv ?_)
  refine PyProof.Rows.callWith_type1 ?_ hs rfl
  rw [hs]
  show wpAny _ _ (spliced ((false, eval (.Call (.Name "enumerate" p2) [e] [] pos2) X.env) :: backTo pos (starEach [] X.env))) _ _ s
  refine Calls.spliced_cons ?_
  refine wpAny_Call_Name_kw (ld_blt I hg2 hm2 hv2 ?_)
  refine PyProof.Rows.callWith_type1 ?_ hs2 rfl
  rw [hs2]
  show wpAny _ _ (spliced ((false, eval e X.env) :: backTo pos2 (starEach [] X.env))) _ _ s
  refine Calls.spliced_cons (thn (he.run pins s σ H _ I hq) fun u s1 ⟨x, H1, I1, rx, a, xs, ex, hL, q⟩ => ?_)
  subst ex
  obtain rfl : u = Value.ref a := rx
  refine Calls.spliced_nil ?_
  obtain ⟨its, rv, hl0, hz⟩ := I1.list hL
  have hl : s1.heap.IsList a its.toArray := hl0.isList
  have al : a < s1.heap.objs.size := by obtain ⟨_, y, _⟩ := hl; exact Heap.lt_size y
  refine call_enumerate_list hl fun h1 hE hI hsz hk => ?_
  refine Calls.spliced_nil ?_
  have hl1 : h1.IsList a its.toArray := hl.at fun o y => hk a o y
  have lx : xs.length = its.length := rv.length
  have hlen : its.toArray.size = xs.length := by simp [lx]
  refine FcE.en_call (items := its.toArray) (I1.ok.hd hc) (Nat.ne_of_lt (Nat.lt_succ_of_lt al)) (Nat.ne_of_lt al) (Nat.succ_ne_self _) hE hI hl1 (by rw [hlen]; exact hz) fun h' tk acc c as hkk hS hla hG hacc => ?_
  obtain ⟨H', k1, k2, k3, k4, k5, k6, J⟩ := enum_laid (tk := tk) (S := h1.objs.size) (by rw [hsz]; exact Nat.le_add_right _ _) I1 hz rv
    (fun b o y => hkk b o (Nat.ne_of_lt (Nat.lt_succ_of_lt (Heap.lt_size y))) (Nat.ne_of_lt (Heap.lt_size y)) (hk b o y)) hS (by rw [hla, hlen]) hG hacc
  exact ⟨.ref _, H', J, rfl, q H' _ as k1 k2 k3 k4 hG.nodup (by rw [hla, hlen]) k5 k6⟩
def rEqM (K : PySem.W.Frag) : R2 := fun x y H Q => ∃ d e, Dp K H x d ∧ Dp K H y e ∧ PyData.canLay0 d = true ∧ PyData.canLay0 e = true ∧ min d.depth e.depth ≤ 200 ∧ Q (.bl (PyData.eqv d e)) H
def rNeM (K : PySem.W.Frag) : R2 := fun x y H Q => ∃ d e, Dp K H x d ∧ Dp K H y e ∧ PyData.canLay0 d = true ∧ PyData.canLay0 e = true ∧ min d.depth e.depth ≤ 200 ∧ Q (.bl (!PyData.eqv d e)) H
theorem op_eqM {k : Nat} (hr : Room k X.A) : OpR X (compareOp .Eq) (rEqM X.K) := by
  intro pins s σ H x y v u Q I rx ry h
  obtain ⟨d, e, hd, he, sd, se, hm, q⟩ := h
  obtain ⟨as, r1⟩ := Dp.reads I d x v hd rx
  obtain ⟨bs, r2⟩ := Dp.reads I e y u he ry
  exact SeqAt.compareEq_reads r1 r2 sd se (by have := hr.un; omega) ⟨.bl _, H, I, rfl, q⟩
theorem op_neM {k : Nat} (hr : Room k X.A) : OpR X (compareOp .NotEq) (rNeM X.K) := by
  intro pins s σ H x y v u Q I rx ry h
  obtain ⟨d, e, hd, he, sd, se, hm, q⟩ := h
  obtain ⟨as, r1⟩ := Dp.reads I d x v hd rx
  obtain ⟨bs, r2⟩ := Dp.reads I e y u he ry
  exact SeqAt.compareNe_reads r1 r2 sd se (by have := hr.un; omega) ⟨.bl _, H, I, rfl, q⟩
end
end FcR
set_option maxRecDepth 100000
set_option maxHeartbeats 4000000
namespace Fc
open PySem PySem.Spec PyProof.Rows L2 FcR
open Evl (Ex)
theorem b_len : bootBuiltins "len" = some (.builtin "len") := by decide +kernel
theorem b_isinstance : bootBuiltins "isinstance" = some (.builtin "isinstance") := by decide +kernel
theorem b_all : bootBuiltins "all" = some (.builtin "all") := by decide +kernel
theorem b_list : bootBuiltins "list" = some (.type "list") := by decide +kernel
theorem b_tuple : bootBuiltins "tuple" = some (.type "tuple") := by decide +kernel
theorem b_int : bootBuiltins "int" = some (.type "int") := by decide +kernel
theorem b_bool : bootBuiltins "bool" = some (.type "bool") := by decide +kernel
theorem b_str : bootBuiltins "str" = some (.type "str") := by decide +kernel
theorem b_enumerate : bootBuiltins "enumerate" = some (.type "enumerate") := by decide +kernel
def Ok (P : Program) (w : World) (K : PySem.W.Frag) (mg : Str → Option Value) (base : Heap) (k : Nat) (at_ : Str × Option Str) (ps : List Str) (sp : Sp) : Prop :=
  ∃ fd, FnOk P w K mg base (CX P w) k (He.fAd K at_) fd ps sp ∧ Binds K fd ps [] ∧ PySem.W.keepIn K (.ref (He.fAd K at_)) = true
theorem Ok.mono {P : Program} {w : World} {K : PySem.W.Frag} {mg : Str → Option Value} {base : Heap} {j k : Nat} {at_ : Str × Option Str} {ps : List Str} {sp : Sp} (h : Ok P w K mg base j at_ ps sp) (e : j ≤ k) : Ok P w K mg base k at_ ps sp := by
  obtain ⟨fd, G, b, kp⟩ := h
  exact ⟨fd, G.mono e, b, kp⟩
theorem ite_of {c : Bool} {A B : Prop} (h1 : c = true → A) (h2 : c = false → B) : if c = true then A else B := by
  cases c with
  | true => rw [if_pos rfl]; exact h1 rfl
  | false => rw [if_neg Bool.false_ne_true]; exact h2 rfl
theorem itT {c : Bool} {A B : Prop} (hc : c = true) (h : A) : if c = true then A else B := by
  rw [if_pos hc]
  exact h
theorem itF {c : Bool} {A B : Prop} (hc : c = false) (h : B) : if c = true then A else B := by
  rw [hc, if_neg Bool.false_ne_true]
  exact h
theorem sz {n : Nat} (h : n ≤ 100000) : n ≤ sizeLine := Evl.sz_of h
theorem szl {n : Nat} (h : n < 100000) : n < sizeLine := Evl.sz_lt h
mutual
theorem dp_ex {K : PySem.W.Frag} {H H' : Hp} (e : Ex H H') : ∀ {d : PyData} {v : V}, Dp K H v d → Dp K H' v d
  | _, _, .non => .non
  | _, _, .bl b => .bl b
  | _, _, .int i => .int i
  | _, _, .str x => .str x
  | _, _, .lst h a => .lst (Evl.ex_l e h) (dpA_ex e a)
  | _, _, .tup h a => .tup (Evl.ex_t e h) (dpA_ex e a)
theorem dpA_ex {K : PySem.W.Frag} {H H' : Hp} (e : Ex H H') : ∀ {ds : List PyData} {vs : List V}, DpAll K H vs ds → DpAll K H' vs ds
  | _, _, .nil => .nil
  | _, _, .cons h a => .cons (dp_ex e h) (dpA_ex e a)
end
theorem dpA_len {K : PySem.W.Frag} {H : Hp} : ∀ {ds : List PyData} {vs : List V}, DpAll K H vs ds → vs.length = ds.length
  | _, _, .nil => rfl
  | _, _, .cons _ a => congrArg Nat.succ (dpA_len a)
theorem dpA_get {K : PySem.W.Frag} {H : Hp} : ∀ {ds : List PyData} {vs : List V}, DpAll K H vs ds → ∀ {i : Nat} {d : PyData}, ds[i]? = some d → ∃ v, vs[i]? = some v ∧ Dp K H v d
  | _, _, .nil, i, d, h => by simp at h
  | _, _, .cons h a, 0, d, e => by simp at e; subst e; exact ⟨_, rfl, h⟩
  | _, _, .cons h a, i + 1, d, e => by
    obtain ⟨v, e1, e2⟩ := dpA_get a (i := i) (d := d) (by simpa using e)
    exact ⟨v, by simpa using e1, e2⟩
theorem dpA_app {K : PySem.W.Frag} {H : Hp} : ∀ {ds es : List PyData} {vs ws : List V}, DpAll K H vs ds → DpAll K H ws es → DpAll K H (vs ++ ws) (ds ++ es)
  | _, _, _, _, .nil, b => b
  | _, _, _, _, .cons h a, b => .cons h (dpA_app a b)
theorem dpA_drop {K : PySem.W.Frag} {H : Hp} : ∀ {ds : List PyData} {vs : List V} (n : Nat), DpAll K H vs ds → DpAll K H (vs.drop n) (ds.drop n)
  | _, _, 0, a => a
  | _, _, _ + 1, .nil => .nil
  | _, _, n + 1, .cons _ a => dpA_drop n a
theorem dpA_take {K : PySem.W.Frag} {H : Hp} : ∀ {ds : List PyData} {vs : List V} (n : Nat), DpAll K H vs ds → DpAll K H (vs.take n) (ds.take n)
  | _, _, 0, _ => .nil
  | _, _, _ + 1, .nil => .nil
  | _, _, n + 1, .cons h a => .cons h (dpA_take n a)
theorem dp_tup {K : PySem.W.Frag} {H : Hp} {v : V} {ds : List PyData} (h : Dp K H v (.tuple ds)) : ∃ a xs, v = .ref a ∧ SqT K H a xs ∧ DpAll K H xs ds := by
  cases h with
  | tup h a => exact ⟨_, _, rfl, h, a⟩
theorem dp_str {K : PySem.W.Frag} {H : Hp} {v : V} {x : Str} (h : Dp K H v (.str x)) : v = .str x := by cases h; rfl
theorem dp_int {K : PySem.W.Frag} {H : Hp} {v : V} {x : Int} (h : Dp K H v (.int x)) : v = .int x := by cases h; rfl
theorem exu {F H : Hp} {p : Addr} {o : HO} (e : Ex F H) (hp : H p = none) : Ex F (upd H p o) := fun a u h => by
  rw [upd_ne (ne_of_none (e a u h) hp)]
  exact e a u h
/-- what F holds stays where something that F does not hold changes -/
theorem exm {F H : Hp} {p : Addr} {o : HO} (e : Ex F H) (hp : F p = none) : Ex F (upd H p o) := Evl.Ex.mut e hp
/-- a new object, told of a heap with a name of its own -/
theorem new_of {H H1 : Hp} {p : Addr} {o : HO} (e : upd H p o = H1) (n : H p = none) : Ex H H1 ∧ H1 p = some o ∧ ∀ b, b ≠ p → H1 b = H b := by
  subst e
  exact ⟨exu (Evl.Ex.refl _) n, upd_same, fun b hb => upd_ne hb⟩
theorem set_of {H H1 : Hp} {p : Addr} {o : HO} (e : upd H p o = H1) : H1 p = some o ∧ ∀ b, b ≠ p → H1 b = H b := by
  subst e
  exact ⟨upd_same, fun b hb => upd_ne hb⟩
theorem set_ex {F H H1 : Hp} {p : Addr} (x : Ex F H) (n : F p = none) (o : ∀ b, b ≠ p → H1 b = H b) : Ex F H1 := fun b u e => by
  rw [o b (ne_of_none e n)]
  exact x b u e
theorem ex_none {F H : Hp} {p : Addr} (x : Ex F H) (n : H p = none) : F p = none := by
  cases e : F p with
  | none => rfl
  | some u => rw [x _ _ e] at n; cases n
end Fc
set_option maxRecDepth 100000
set_option maxHeartbeats 4000000
namespace FcX
open PySem PySem.Spec PyProof.Rows PySem.HandSPX
section
variable {M : Model} {A : Around} {E : Value → Shared → Prop} {h : Heap} {g : Array GenState} {d : Drawn} {t : Nat} {os : OsState}
variable {nm q : Str} {C N : Addr} {bs bm bmB : List Value} {hdct : Bool} {sn : List Str} {sub : List Value} {ab : Bool} {col : Option Bool} {dd : Option Addr} {k0 k1 k2 k3 k5 : Option Value} {B newId initId : String}
theorem newcheck (F : ExcBaseFacts B newId initId bmB) (hT : ∀ X : String, bm.contains (.type X) = bmB.contains (.type X)) {us : List Value} {kw : List (Str × Value)} {Q : Unit → Shared → Prop}
    (hC : h.get? C = some (excClassObj nm q C N bs bm hdct sn sub ab col dd k0 k1 k2 k3 k5 newId)) (hq : Q () ⟨h, g, d, t, os⟩) : wpAny M A (checkBuiltinCall newId ⟨.ref C :: us, kw⟩) Q E ⟨h, g, d, t, os⟩ := by
  have hb : (Value.ref C :: bm).contains (.type B) = true := by rw [List.contains_cons, hT, F.hasB, Bool.or_true]
  have ns := F.noStar
  simp only [checkBuiltinCall, F.newKind, F.newSplit, F.newRow]
  repeat (first | refine wpAny_loadPart_at hC ?_ | (refine wpAny_isSubtype_exc hC ?_; rw [hb]) | refine wpAny_staticBase_exc hC ?_ | refine wpAny_madeBy_exc hC ?_ | simp only [bne_self_eq_false, Bool.false_eq_true, if_false] | wp_step)
  exact hq
end
section
variable {prog : Program} {w : World} {A : Around} {E : Value → Shared → Prop} {R : Result → Shared → Prop} {h : Heap} {g : Array GenState} {d : Drawn} {t : Nat} {os : OsState}
variable {nm q : Str} {C N : Addr} {bs bm bmB : List Value} {hdct : Bool} {sn : List Str} {sub : List Value} {ab : Bool} {col : Option Bool} {dd : Option Addr} {k0 k1 k2 k3 k5 : Option Value} {B newId initId : String}
theorem newK (F : ExcBaseFacts B newId initId bmB) (hT : ∀ X : String, bm.contains (.type X) = bmB.contains (.type X)) {us : List Value} {kw : List (Str × Value)}
    (hC : h.get? C = some (excClassObj nm q C N bs bm hdct sn sub ab col dd k0 k1 k2 k3 k5 newId))
    (hq : R (.ok (.ret (.ref (h.objs.size + 1)))) ⟨(h.push (W.kdv_tup us)).push (excO C h.objs.size), g, d, t, os⟩) (hz : us.length ≤ sizeLine) :
    codeAny (model prog w) A (.builtin newId ⟨.ref C :: us, kw⟩) R ⟨h, g, d, t, os⟩ := by
  have hends := F.ends
  have hcB : (Value.ref C :: bm).contains (.type B) = true := by rw [List.contains_cons, hT, F.hasB, Bool.or_true]
  have a1 : (Value.ref C :: bm).contains (.type "AttributeError") = false := by rw [List.contains_cons, hT, F.noAttr]; rfl
  have a2 : (Value.ref C :: bm).contains (.type "NameError") = false := by rw [List.contains_cons, hT, F.noName]; rfl
  refine codeAny_builtinAt F.entry ?_
  unfold Builtin.«BaseException.__new__»
  refine PySem.wpAt_bind ?_
  show PySem.wpAt _ _ _ (stack >>= _) _ _ _
  refine PySem.wpAt_bind (PySem.wpAt_stack fun p below => PySem.wpAt_of_wpAny ?_)
  wp_walk
  refine PySem.wpAt_of_wpAny ?_
  rw [F.owner]
  repeat (first | with_reducible refine wpAny_madeHere_exc F.canon hC ?_ | with_reducible refine wpAny_loadPart_at hC ?_ | (with_reducible refine wpAny_isSubtype_exc hC ?_; first | rw [hcB] | rw [a1] | rw [a2]) | wp_step)
  show R _ _
  rw [Heap.size_push]
  exact hq
theorem typeK (F : ExcBaseFacts B newId initId bmB) (hT : ∀ X : String, bm.contains (.type X) = bmB.contains (.type X)) {us : List Value} {kw : List (Str × Value)} {fI : Addr} {Q : Fin → Shared → Prop}
    (hC : h.get? C = some (excClassObj nm q C N bs bm hdct sn sub ab col dd k0 k1 k2 k3 k5 newId))
    (hi : W.Looks (model prog w) h (typeLookup (.ref C) "__init__") (some (.ref fI))) (hb : ∀ self, W.Looks (model prog w) h (bindSpecial (.ref fI) self) (.ref fI, [self])) (hz : us.length ≤ sizeLine)
    (hq : codeAny (model prog w) A (.call (.ref fI) ⟨.ref (h.objs.size + 1) :: us, kw⟩)
      (fun r s' => match r with | .ok (.ret v) => v = .none ∧ Q (.done (.ret (.ref (h.objs.size + 1)))) s' | .ok _ => False | .error e => E e s')
      ⟨(h.push (W.kdv_tup us)).push (excO C h.objs.size), g, d, t, os⟩) :
    wpAny (model prog w) A (Builtin.«type.__call__» ⟨.ref C :: us, kw⟩) Q E ⟨h, g, d, t, os⟩ := by
  repeat (first | with_reducible refine wpAny_loadPart_at hC ?_ | with_reducible refine wpAny_madeBy_exc hC ?_ | wp_step)
  refine codeAny_call_builtin_code (Code.quiet_builtin _ F.quiet) (newcheck F hT hC ?_)
  refine newK F hT hC ?_ hz
  show wpAny _ _ _ _ _ _
  have kp : ∀ b o, h.get? b = some o → ((h.push (W.kdv_tup us)).push (excO C h.objs.size)).get? b = some o := fun b o e => Heap.get?_push_of_some _ (Heap.get?_push_of_some _ e)
  have hC' := kp _ _ hC
  have he : ((h.push (W.kdv_tup us)).push (excO C h.objs.size)).get? (h.objs.size + 1) = some (excO C h.objs.size) := by heap_get
  have cc : (Value.ref C :: bm).contains (.ref C) = true := by simp
  have i1 := hi.keeps kp
  have b1 := (hb (.ref (h.objs.size + 1))).keeps kp
  unfold isInstance
  repeat (first | with_reducible refine wpAny_loadPart_at he ?_ | (with_reducible refine wpAny_isSubtype_exc hC' ?_; rw [cc]) | wp_step)
  show wpAny _ _ (typeLookup (.ref C) _) _ _ _
  refine i1.at ?_
  refine wpAny_holding (wpAny_bind (b1.at ?_))
  refine wpAny_bind (wpAny_call (codeAny_mono hq fun r s' z => ?_))
  rcases r with e | (v | _ | _ | _) <;> first | exact z | exact z.elim | skip
  obtain ⟨rfl, z⟩ := z
  first
    | exact wpAny_pure (wpAny_pure z)
    | (wp_walk; exact z)
theorem callK (F : ExcBaseFacts B newId initId bmB) (hT : ∀ X : String, bm.contains (.type X) = bmB.contains (.type X)) {us : List Value} {kw : List (Str × Value)} {fI : Addr}
    (hC : h.get? C = some (excClassObj nm q C N bs bm hdct sn sub ab col dd k0 k1 k2 k3 k5 newId))
    (hi : W.Looks (model prog w) h (typeLookup (.ref C) "__init__") (some (.ref fI))) (hb : ∀ self, W.Looks (model prog w) h (bindSpecial (.ref fI) self) (.ref fI, [self])) (hz : us.length ≤ sizeLine)
    (hq : codeAny (model prog w) (A.under (.builtin "type.__call__" ⟨.ref C :: us, kw⟩)) (.call (.ref fI) ⟨.ref (h.objs.size + 1) :: us, kw⟩) (W.InitBack (h.objs.size + 1) R)
      ⟨(h.push (W.kdv_tup us)).push (excO C h.objs.size), g, d, t, os⟩) :
    codeAny (model prog w) A (.call (.ref C) ⟨us, kw⟩) R ⟨h, g, d, t, os⟩ := by
  have f1 := tc_lookup
  have f2 := tc_bind (.ref C)
  have hy : (⟨h, g, d, t, os⟩ : Shared).TypeIs (.ref C) "type" := ⟨_, hC, rfl⟩
  refine codeAny_of_tree ?_
  show wpAny _ _ (callAny (.ref C) _) _ _ _
  repeat (any_goals (first | assumption | with_reducible refine wpAny_loadPart_at hC ?_ | wp_step))
  refine ⟨rfl, ?_⟩
  refine codeAny_call_builtin_at (Code.quiet_builtin _ (by decide +kernel)) entry_typeCall (wpAny_check_type_call_sub hC (typeK F hT hC hi hb hz ?_))
  refine codeAny_mono hq fun r s' z => ?_
  rcases r with e | (v | _ | _ | _) <;> exact z
end
end FcX
set_option maxRecDepth 100000
set_option maxHeartbeats 4000000
namespace FcX
open PySem PySem.Spec PyProof.Rows L2 FcR
abbrev aeT : List Value := [.type "ArithmeticError", .type "Exception", .type "BaseException", .type "object"]
structure XC (K : PySem.W.Frag) (C : Addr) : Prop where
  ini : PySem.W.excInitIn K C aeT "ArithmeticError.__new__" = true
  over : PySem.W.excOver K C aeT = true
  sa : PySem.W.findIn K (.ref C) "__setattr__" = some (some (.builtin "object.__setattr__"))
  ga : PySem.W.findIn K (.ref C) "__getattribute__" = some (some (.builtin "BaseException.__getattribute__"))
  gt : PySem.W.findIn K (.ref C) "__getattr__" = some none
  ex : PySem.W.subIn K (.ref C) (.type "BaseException") = some true
  ty : PySem.W.typeIn K (.ref C) = some (.type "type")
  kp : PySem.W.keepIn K (.ref C) = true
  hd : PySem.W.hasDictIn K C = true
  cl : PySem.W.findIn K (.ref C) "__class__" = some (some (.builtin "object.__class__"))
  cg : PySem.W.specialIn K (.builtin "object.__class__") "__get__" = some (some (.builtin "getset_descriptor.__get__"))
  ct : PySem.W.takesIn K (.builtin "object.__class__") = some true
  mo : PySem.W.mroIn K C (.type "object") = some true
def xcB (K : PySem.W.Frag) (C : Addr) : Bool := PySem.W.excInitIn K C aeT "ArithmeticError.__new__" && (PySem.W.excOver K C aeT && (
  decide (PySem.W.findIn K (.ref C) "__setattr__" = some (some (.builtin "object.__setattr__"))) && (decide (PySem.W.findIn K (.ref C) "__getattribute__" = some (some (.builtin "BaseException.__getattribute__"))) && (
  decide (PySem.W.findIn K (.ref C) "__getattr__" = some none) && (decide (PySem.W.subIn K (.ref C) (.type "BaseException") = some true) && (decide (PySem.W.typeIn K (.ref C) = some (.type "type")) && (PySem.W.keepIn K (.ref C) && (PySem.W.hasDictIn K C && (
  decide (PySem.W.findIn K (.ref C) "__class__" = some (some (.builtin "object.__class__"))) && (decide (PySem.W.specialIn K (.builtin "object.__class__") "__get__" = some (some (.builtin "getset_descriptor.__get__"))) && (
  decide (PySem.W.takesIn K (.builtin "object.__class__") = some true) && decide (PySem.W.mroIn K C (.type "object") = some true))))))))))))
theorem xcB_ok {K : PySem.W.Frag} {C : Addr} (h : xcB K C = true) : XC K C := by
  unfold xcB at h
  simp only [Bool.and_eq_true, decide_eq_true_eq] at h
  obtain ⟨h1, h2, h3, h4, h5, h6, h7, h8, h9, h10, h11, h12, h13⟩ := h
  exact ⟨h1, h2, h3, h4, h5, h6, h7, h8, h9, h10, h11, h12, h13⟩
/-- its __init__, and the field f that it stores -/
structure XI (K : PySem.W.Frag) (C fI : Addr) (f : Str) : Prop where
  ini : PySem.W.findIn K (.ref C) "__init__" = some (some (.ref fI))
  fn : PySem.W.typeIn K (.ref fI) = some (.type "function")
  tk : PySem.W.takerIn K C f = some none
  no : PySem.W.findIn K (.ref C) f = some none
def xiB (K : PySem.W.Frag) (C fI : Addr) (f : Str) : Bool := decide (PySem.W.findIn K (.ref C) "__init__" = some (some (.ref fI))) && (decide (PySem.W.typeIn K (.ref fI) = some (.type "function")) && (decide (PySem.W.takerIn K C f = some none) && decide (PySem.W.findIn K (.ref C) f = some none)))
theorem xiB_ok {K : PySem.W.Frag} {C fI : Addr} {f : Str} (h : xiB K C fI f = true) : XI K C fI f := by
  unfold xiB at h
  simp only [Bool.and_eq_true, decide_eq_true_eq] at h
  obtain ⟨h1, h2, h3, h4⟩ := h
  exact ⟨h1, h2, h3, h4⟩
section
variable {X : Cx} {pins : List (Addr × Obj)} {σ : L2.St} {H : Hp} {s : Shared} {a C fI : Addr} {f : Str} {y : V} {u : Value} {A : Around} {E : Value → Shared → Prop}
/-- the first field of an exception that is being made -/
theorem xst {Q : Unit → Shared → Prop} (T : XC X.K C) (ht : PySem.W.takerIn X.K C f = some none) (I : Inv X pins σ H s) (e : H a = some (exo a C none)) (ry : RelV y u)
    (h : ∀ dx s', H dx = none → dx ≠ a → Inv X pins σ (upd (upd H dx (exd dx [(f, y)])) a (exo a C (some dx))) s' → Q () s') : wpAny (model X.prog X.w) A (setAttr (.ref a) f u) Q E s := by
  obtain ⟨t1, ho⟩ := exo_at I.hok e
  obtain ⟨hp, g, d, t, os⟩ := s
  obtain ⟨cd, hc, hcd⟩ := PySem.W.any_some T.hd
  have hlt := Heap.lt_size ho
  have hne : hp.objs.size ≠ a := Nat.ne_of_gt hlt
  refine PySem.W.set_plain I.kIn (ox := PySem.W.excObj C t1 none .none) (od := none) ⟨ho, rfl, rfl, trivial⟩ T.sa ?_
  refine PySem.W.osa_openX (od := none) (ox := PySem.W.excObj C t1 none .none) F.store_ArithmeticError I.kIn ⟨ho, rfl, rfl, trivial⟩ T.over ht fun b => ?_
  refine wpAny_bind (wpAny_pure (wpAny_bind (PySem.W.instanceDict_exc (c2 := .none) ho (PySem.W.looks_clsIn I.kIn hc) hcd ?_)))
  show wpAny _ _ (Builtin.ObjectAttr.storeInDict hp.objs.size _ f u) _ _ _
  refine PySem.HandSPX.store_in_new ?_ fun h' tk' hn' sb => ?_
  · exact ⟨_, #[], _, (Heap.get?_update_ne _ _ _ _ hne).trans (Heap.get?_push_at rfl rfl), rfl, fun e he => absurd he (by simp), fun _ => rfl⟩
  · have ho1 : (hp.push (PySem.W.dictOf [] 0)).get? a = some (PySem.W.excObj C t1 none .none) := Heap.get?_push_of_some _ ho
    have hx : h'.get? a = some (PySem.W.excObj C t1 (some hp.objs.size) .none) := (sb.2 a hne.symm).trans (Heap.get?_update_self _ ho1 rfl)
    have k : ∀ b o, b ≠ a → hp.get? b = some o → h'.get? b = some o := fun b o hb q =>
      (sb.2 b (Nat.ne_of_lt (Heap.lt_size q))).trans ((Heap.get?_update_ne _ _ _ _ hb).trans (Heap.get?_push_of_some _ q))
    have hnd : H hp.objs.size = none := I.hok.fresh (Nat.le_refl _)
    have nd : ∀ {b : Addr} {o : Obj}, hp.get? b = some o → b ≠ hp.objs.size := fun q => Nat.ne_of_lt (Heap.lt_size q)
    have na : ∀ {b : Addr}, H b = none → b ≠ a := fun n z => by rw [z, e] at n; cases n
    have U : Un X.fs [] H (upd (upd H hp.objs.size (exd hp.objs.size [(f, y)])) a (exo a C (some hp.objs.size))) hp h' := {
      keep := fun b o q n _ _ => k b o (na n) q
      slot := fun b o q n _ _ => ⟨o.slots, k b o (na n) q⟩
      free := fun b o q n _ => by rw [upd_ne (na n), upd_ne (nd q)]; exact n
      there := fun b o q _ => by
        by_cases hb : b = a
        · exact ⟨_, by rw [hb]; exact hx⟩
        · exact ⟨o, k b o hb q⟩
      tups := fun b xs q => by rw [upd_ne (at_ne e q exo_tup), upd_ne (ne_of_none q hnd)]; exact q
      frzs := fun b o v q => by rw [upd_ne (at_ne e q exo_frz), upd_ne (ne_of_none q hnd)]; exact q
      tbls := fun b ps q => ⟨#[], by rw [upd_ne (at_ne e q exo_tbl), upd_ne (ne_of_none q hnd), q]; simp⟩ }
    refine h hp.objs.size _ hnd hne (I.un (t' := tk') U fun b o q => ?_)
    by_cases hb : b = a
    · subst hb
      rw [upd_same] at q
      cases q
      exact exo_ok hx
    · rw [upd_ne hb] at q
      by_cases hd : b = hp.objs.size
      · subst hd
        rw [upd_same] at q
        cases q
        exact exd_ok hn' (relO_put (fs := []) ry fun g => True.intro)
      · rw [upd_ne hd] at q
        refine (I.hok b o q).stay (fun c v hc z => k c v ?_ z) (fun c hc => ?_) (fun c xs hc => ?_)
        · rcases hc with hc | hc
          · rw [hc]
            exact hb
          · exact at_ne e hc exo_own
        · rw [upd_ne (at_ne e hc exo_own), upd_ne (ne_of_none hc hnd)]
          exact hc
        · rw [upd_ne (at_ne e hc exo_tup), upd_ne (ne_of_none hc hnd)]
          exact hc
end
/-- self.f = e, in the __init__ of such a class -/
def tXst (K : PySem.W.Frag) (f : Str) (to te : TE) : TS := fun D σ H => te σ H fun y H1 => to σ H1 fun x H2 => ∃ a C : Addr, x = .ref a ∧ XC K C ∧ PySem.W.takerIn K C f = some none ∧ H2 a = some (exo a C none) ∧
  ∀ dx, H2 dx = none → dx ≠ a → D.nx σ (upd (upd H2 dx (exd dx [(f, y)])) a (exo a C (some dx)))
theorem ps_xst {X : Cx} {o e : Expr} {to te : TE} {f : Str} {p pos : Pos} (ho : PE X o to) (he : PE X e te) (hs : swapsWith e (some (.Attribute o f p)) pos.line X.env = pure false := by rfl) : PS X (.Assign [.Attribute o f p] e pos) (tXst X.K f to te) := by
  refine ⟨fun pins s σ H D I h => ?_⟩
  refine plainObj_wpAny_Assign_Attribute (thn (he.run pins s σ H _ I h) fun v s1 ⟨y, H1, I1, r1, q1⟩ => thn (ho.run pins s1 σ H1 _ I1 q1) fun u s2 ⟨x, H2, I2, r2, a, C, ex, T, ht, ea, q⟩ => ?_) hs
  subst ex
  obtain rfl : u = Value.ref a := r2
  exact xst T ht I2 ea r1 fun dx s' n ne J => ⟨σ, _, J, q dx n ne⟩
/-- what such an __init__ promises -/
def spX (K : PySem.W.Frag) (C : Addr) (f : Str) : Sp := fun vs H Q _ => ∃ (a : Addr) (y : V), vs = [.ref a, y] ∧ H a = some (exo a C none) ∧ ∀ dx, H dx = none → dx ≠ a → Q .non (upd (upd H dx (exd dx [(f, y)])) a (exo a C (some dx)))
/-- a made exception as a value -/
def XV (H : Hp) (C : Addr) (f : Str) (y : V) (a : Addr) : Prop := ∃ d, H a = some (exo a C (some d)) ∧ H d = some (exd d [(f, y)])
theorem XV.ex {H H' : Hp} {C : Addr} {f : Str} {y : V} {a : Addr} (h : XV H C f y a) (e : Evl.Ex H H') : XV H' C f y a := by
  obtain ⟨d, h1, h2⟩ := h
  exact ⟨d, e _ _ h1, e _ _ h2⟩
section
variable {X : Cx} {CX : CXT} {k : Nat} {C fI : Addr} {fd : FuncData} {f n x : Str} {p pos kpos : Pos} {e : Expr} {es : List Expr} {ta : TA} {te : TE}
/-- f(k = v, ..), keywords alone: g puts them in the parameters' order -/
def tCallW (sp : Sp) (g : List V → List V) (n : Nat) (E : XK) (tk : TA) : TE := fun σ H Q => tk σ H fun zs H1 => zs.length = n ∧ sp (g zs) H1 Q E
theorem pe_callW {ps ks : List Str} {sp : Sp} {E : XK} {g : List Value → List Value} {gV : List V → List V} {kws : List Keyword} {tk : TA} {fI : Addr} (G : FnOk X.prog X.w X.K X.mg X.base CX k fI fd ps sp) (hr : Room k X.A) (hg : Gl X x) (hm : X.mg x = some (.ref fI)) (hk : PySem.W.keepIn X.K (.ref fI) = true)
    (hb : ∀ (s : Shared) (ws : List Value), ws.length = ks.length → BindsTo s fd ⟨[], ks.zip ws⟩ (ps.zip (g ws))) (hrel : ∀ {zs : List V} {ws : List Value}, Vals zs ws → zs.length = ks.length → Vals (gV zs) (g ws)) (hx : Passes CX X E) (hkw : PK X kws tk)
    (hall : (backToKw pos (keywordEach kws X.env)).all (·.1.isSome) = true := by rfl) (hks : (backToKw pos (keywordEach kws X.env)).filterMap (·.1) = ks := by rfl) (hdb : (x == ("__debug__" : Str)) = false := by decide)
    (hpl : ((backTo pos (starEach [] X.env)).any (·.1) || (backToKw pos (keywordEach kws X.env)).any (·.1.isNone)) = false := by rfl) :
    PE X (.Call (.Name x p) [] kws pos) (tCallW sp gV ks.length E tk) := by
  refine ⟨fun pins s σ H Q I h => ?_⟩
  refine wpAny_Call_Name_kw (ld_glob I hg hm ?_ hdb)
  refine PySem.W.callWith_KW0 (h₀ := X.base) I.ok.mod.kin hk hall (thn (hkw.run pos pins s σ H _ I h) fun ws s1 ⟨zs, H1, I1, r, l, q⟩ => ⟨I1.kIn, ?_⟩) hpl
  rw [hks]
  refine wpAny_call (codeAny_mono (G.run X.A X.stack s1 H1 ⟨[], ks.zip ws⟩ (g ws) (gV zs) Q E hr I1.env0 (hb s1 ws (r.length.symm.trans l)) (hrel r l) q) fun r s' hq => ?_)
  cases r with
  | error e => exact hx pins σ H1 s1 e s' I1 hq
  | ok fl =>
    cases fl with
    | ret u => exact I1.after hq
    | next => exact False.elim hq
    | brk => exact False.elim hq
    | cont => exact False.elim hq
end
/-- a binding of a def without defaults -/
theorem bindsX {K : PySem.W.Frag} {x qual : Str} {params : Arguments} {body : List Stmt} {scope : Scope} {kws : List (Str × V)} {f : Addr} {fd : FuncData} {args : Args} {binds : List (Str × Value)} (F : FunD K x qual params body scope [] kws f fd)
    (h : ∀ (kV doc pm : Value) (an : Option Addr) (cdv ct : Value), bindArgs (PySem.W.fnOf x qual params body scope .none kV doc pm an cdv ct) args = pure binds) (s : Shared) : BindsTo s fd args binds := by
  obtain ⟨oc, od, dV, kV, doc, pm, an, cdv, ct, osl, rfl, lk, hcd, hD, hK⟩ := F.ex
  rcases hD with ⟨_, rfl⟩ | ⟨e, _⟩
  · exact .of_eq (h kV doc pm an cdv ct)
  · exact absurd rfl e
/-- isinstance between the classes of the package, and against built-in ones -/
def xkB (K : PySem.W.Frag) (ns : List Str) : Bool := ns.all fun c => ns.all (fun d => decide (PySem.W.kitOne K (.ref (He.ga K c)) (.ref (He.ga K d)) = some (c == d || d == "CopyError"))) &&
  (decide (PySem.W.kitOne K (.ref (He.ga K c)) (.type "ArithmeticError") = some true) && decide (PySem.W.kitAny K (.ref (He.ga K c)) [.type "ValueError", .type "TypeError", .type "LookupError"] = some false))
end FcX
set_option maxRecDepth 100000
set_option maxHeartbeats 4000000
namespace Fc
open PySem PySem.Spec PyProof.Rows L2 FcR
open Evl (Ex)
def frz (F H : Hp) (L : List Addr) : Hp := fun b => if b ∈ L then H b else F b
theorem frz_in {F H : Hp} {L : List Addr} {b : Addr} (h : b ∈ L) : frz F H L b = H b := if_pos h
theorem frz_out {F H : Hp} {L : List Addr} {b : Addr} (h : b ∉ L) : frz F H L b = F b := if_neg h
theorem frz_ex {F H : Hp} {L : List Addr} (h : ∀ b ∈ L, F b = none) : Ex F (frz F H L) := fun b o e => by
  rw [frz_out (fun z => by rw [h b z] at e; cases e)]
  exact e
theorem frz_le {F H : Hp} {L : List Addr} (e : Ex F H) : Ex (frz F H L) H := fun b o h => by
  by_cases z : b ∈ L
  · rw [frz_in z] at h; exact h
  · rw [frz_out z] at h; exact e b o h
/-- what grows: F to F', H to H', where M alone of what H tracked may change -/
structure Gr (M : Addr → Prop) (F H F' H' : Hp) : Prop where
  ff : Ex F F'
  fh : Ex F' H'
  nw : ∀ b, H b ≠ none → F b = none → ¬ M b → F' b = none
  kp : ∀ b o, H b = some o → ¬ M b → H' b = some o
theorem Gr.refl {M : Addr → Prop} {F H : Hp} (x : Ex F H) : Gr M F H F H := ⟨Evl.Ex.refl _, x, fun _ _ e _ => e, fun _ _ e _ => e⟩
theorem Gr.trans {M : Addr → Prop} {F H F1 H1 F2 H2 : Hp} (a : Gr M F H F1 H1) (b : Gr M F1 H1 F2 H2) : Gr M F H F2 H2 :=
  ⟨a.ff.trans b.ff, b.fh, fun c h1 h2 h3 => b.nw c (fun z => by
    cases e : H c with
    | none => exact h1 e
    | some o => rw [a.kp c o e h3] at z; cases z) (a.nw c h1 h2 h3) h3, fun c o e h => b.kp c o (a.kp c o e h) h⟩
theorem Gr.new {M : Addr → Prop} {F H H1 : Hp} (x : Ex F H) (e : Ex H H1) : Gr M F H F H1 := ⟨Evl.Ex.refl _, x.trans e, fun _ _ h _ => h, fun b o h _ => e b o h⟩
theorem Gr.set {M : Addr → Prop} {F H H1 : Hp} {p : Addr} (x : Ex F H) (hp : M p) (hf : F p = none) (o : ∀ b, b ≠ p → H1 b = H b) : Gr M F H F H1 :=
  ⟨Evl.Ex.refl _, set_ex x hf o, fun _ _ h _ => h, fun b u e hb => by rw [o b (fun z => hb (z ▸ hp))]; exact e⟩
theorem Gr.frz {M : Addr → Prop} {F H H1 : Hp} {p : Addr} {u : HO} (x : Ex F H) (n : H p = none) (s : H1 p = some u) (o : ∀ b, b ≠ p → H1 b = H b) : Gr M F H (upd F p u) H1 := by
  refine ⟨exu (Evl.Ex.refl _) (ex_none x n), fun b w e => ?_, fun b h1 h2 _ => ?_, fun b w e _ => ?_⟩
  · by_cases z : b = p
    · rw [z, upd_same] at e
      cases e
      rw [z]
      exact s
    · rw [upd_ne z] at e
      rw [o b z]
      exact x b w e
  · rw [upd_ne (fun z => h1 (by rw [z]; exact n))]
    exact h2
  · rw [o b (ne_of_none e n)]
    exact e
theorem Gr.mono {M M' : Addr → Prop} {F H F' H' : Hp} (g : Gr M F H F' H') (h : ∀ b, M b → M' b) : Gr M' F H F' H' :=
  ⟨g.ff, g.fh, fun b h1 h2 h3 => g.nw b h1 h2 fun z => h3 (h b z), fun b o e hb => g.kp b o e fun z => hb (h b z)⟩
/-- what is not M keeps what H held -/
theorem Gr.ex {F H F' H' : Hp} (g : Gr (fun _ => False) F H F' H') : Ex H H' := fun b o e => g.kp b o e id
/-- what a call changes of what is new does not count -/
theorem Gr.hide {M M' : Addr → Prop} {F H F1 H1 F2 H2 : Hp} (a : Gr M F H F1 H1) (b : Gr M' F1 H1 F2 H2) (h : ∀ x, M' x → H x = none ∨ M x) : Gr M F H F2 H2 := by
  have hn : ∀ x, H x ≠ none → ¬ M x → ¬ M' x := fun x h1 h2 h3 => (h x h3).elim h1 h2
  refine ⟨a.ff.trans b.ff, b.fh, fun x h1 h2 h3 => b.nw x (fun z => ?_) (a.nw x h1 h2 h3) (hn x h1 h3), fun x o e h1 => b.kp x o (a.kp x o e h1) (hn x (by rw [e]; exact fun z => nomatch z) h1)⟩
  cases e : H x with
  | none => exact h1 e
  | some o => rw [a.kp x o e h3] at z; cases z
theorem Gr.frzAt {M : Addr → Prop} {F H F1 H1 : Hp} {p : Addr} {o : HO} (g : Gr M F H F1 H1) (hp : H p = none) (h1 : H1 p = some o) (hf : F1 p = none) : Gr M F H (upd F1 p o) H1 := by
  refine ⟨exu g.ff hf, fun b u e => ?_, fun b a1 a2 a3 => ?_, g.kp⟩
  · by_cases z : b = p
    · rw [z, upd_same] at e; cases e; rw [z]; exact h1
    · rw [upd_ne z] at e; exact g.fh b u e
  · rw [upd_ne (fun z => a1 (by rw [z]; exact hp))]
    exact g.nw b a1 a2 a3
structure Rg (M : Addr → Prop) (F0 H F R H' : Hp) : Prop where
  g : Gr M F0 H F H'
  rh : Ex R H'
  dj : ∀ b o, R b = some o → F b = none
  rn : ∀ b o, R b = some o → H b = none ∧ ¬ M b
def hp0 : Hp := fun _ => none
section
variable {M : Addr → Prop} {F0 H F R H' : Hp}
theorem Rg.start (g : Gr M F0 H F H') : Rg M F0 H F hp0 H' := ⟨g, fun b o e => (by cases e), fun b o e => (by cases e), fun b o e => (by cases e)⟩
/-- a new address is new to all -/
theorem Rg.fresh (x : Rg M F0 H F R H') {p : Addr} (n : H' p = none) : F p = none ∧ R p = none ∧ (¬ M p → H p = none) := by
  refine ⟨ex_none x.g.fh n, ex_none x.rh n, fun hm => ?_⟩
  cases e : H p with
  | none => rfl
  | some o => rw [x.g.kp p o e hm] at n; cases n
/-- a call that changes nothing of the region -/
theorem Rg.call {M' : Addr → Prop} {F2 H2 : Hp} (x : Rg M F0 H F R H') (c : Gr M' F H' F2 H2) (hM : ∀ b, M' b → M b) : Rg M F0 H F2 R H2 := by
  refine ⟨x.g.trans (c.mono hM), fun b o h => c.kp b o (x.rh b o h) fun z => (x.rn b o h).2 (hM b z), fun b o h => ?_, x.rn⟩
  exact c.nw b (by rw [x.rh b o h]; exact fun z => nomatch z) (x.dj b o h) fun z => (x.rn b o h).2 (hM b z)
/-- a call that may change M' of the region R1, the rest R staying -/
theorem Rg.only (x : Rg M F0 H F R H') {R' : Hp} (e : Ex R' R) : Rg M F0 H F R' H' := ⟨x.g, e.trans x.rh, fun b o h => x.dj b o (e b o h), fun b o h => x.rn b o (e b o h)⟩
/-- F with R -/
def joinH (F R : Hp) : Hp := fun b => match R b with
  | some o => some o
  | none => F b
theorem joinH_f (dj : ∀ b o, R b = some o → F b = none) : Ex F (joinH F R) := fun b o h => by
  unfold joinH
  cases e : R b with
  | none => exact h
  | some u => rw [dj b u e] at h; cases h
/-- the region is done: it is frozen -/
theorem Rg.done (x : Rg M F0 H F R H') : Gr M F0 H (joinH F R) H' := by
  refine ⟨x.g.ff.trans (joinH_f x.dj), fun b o h => ?_, fun b h1 h2 h3 => ?_, x.g.kp⟩
  · unfold joinH at h
    cases e : R b with
    | none => rw [e] at h; exact x.g.fh b o h
    | some u => rw [e] at h; cases h; exact x.rh b _ e
  · unfold joinH
    cases e : R b with
    | none => exact x.g.nw b h1 h2 h3
    | some u => exact absurd (x.rn b u e).1 h1
/-- a part of the region is frozen -/
theorem Rg.part (x : Rg M F0 H F R H') {R1 R2 : Hp} (e1 : Ex R1 R) (e2 : Ex R2 R) (d : ∀ b o, R1 b = some o → R2 b = none) : Rg M F0 H (joinH F R2) R1 H' := by
  refine ⟨(x.only e2).done, e1.trans x.rh, fun b o h => ?_, fun b o h => x.rn b o (e1 b o h)⟩
  unfold joinH
  rw [d b o h]
  exact x.dj b o (e1 b o h)
end
end Fc
set_option maxRecDepth 100000
set_option maxHeartbeats 4000000
namespace FcO
open PySem PySem.Spec PyProof.Rows L2
section
variable {X : Cx} {CX : CXT} {C f : Addr} {fd : FuncData} {ps : List Str} {sp : Sp} {E : XK} {k : Nat}
end
end FcO
namespace FcO
open PySem PySem.Spec PyProof.Rows L2
def eqB (K : PySem.W.Frag) (C : Addr) : Bool :=
  (decide (PySem.W.findIn K (.ref C) "__ne__" = some (some (.builtin "object.__ne__"))) && decide (PySem.W.findIn K (.ref C) "__class__" = some (some (.builtin "object.__class__")))) &&
  ((decide (PySem.W.specialIn K (.builtin "object.__class__") "__get__" = some (some (.builtin "getset_descriptor.__get__"))) && decide (PySem.W.takesIn K (.builtin "object.__class__") = some true)) &&
  ((decide (PySem.W.mroIn K C (.type "object") = some true) && decide (PySem.W.kitOne K (.ref C) (.ref C) = some true)) &&
   ((["NoneType", "bool", "int", "str", "list", "tuple", "dict"] : List String).all fun T => decide (PySem.W.kitOne K (.type T) (.ref C) = some false))))
section
variable {X : Cx} {CX : CXT} {C f : Addr} {fd : FuncData} {ps : List Str} {sp : Sp} {E : XK} {k : Nat}
end
end FcO
namespace FcO
open PySem PySem.Spec PyProof.Rows L2
section
variable {X : Cx} {CX : CXT} {C f : Addr} {fd : FuncData} {ps ks : List Str} {sp : Sp} {E : XK} {k : Nat} {x : Str} {p pos : Pos} {kws : List Keyword} {tk : TA} {g : List Value → List Value} {gV : List V → List V}
end
end FcO
set_option maxRecDepth 100000
set_option maxHeartbeats 4000000
namespace FcX
open PySem PySem.Spec PyProof.Rows L2 FcR
def tMkR (C : Addr) (f : Str) (ta : TA) : L2.St → Hp → XK → Prop := fun σ H Q => ta σ H fun vs H1 => ∃ y, vs = [y] ∧ ∀ d, H1 d = none → Q (.ref C) (some d) (upd H1 d (.xd [(f, y)]))
theorem del_made {H : Hp} {a dx : Addr} {u1 u2 u3 o : HO} (h1 : H a = none) (h3 : dx ≠ a) : upd (del (upd (upd (upd H a u1) dx u2) a u3) a) dx o = upd H dx o := by
  funext b
  by_cases hb : b = dx
  · rw [hb, upd_same, upd_same]
  · rw [upd_ne hb, upd_ne hb]
    by_cases ha : b = a
    · rw [ha, del_same, h1]
    · rw [del_ne ha, upd_ne ha, upd_ne hb, upd_ne ha]
section
variable {X : Cx} {CX : CXT} {k : Nat} {C fI : Addr} {fd : FuncData} {f n x : Str} {p pos : Pos} {e : Expr} {te : TE}
theorem pmk_X (T : XC X.K C) (N : XI X.K C fI f) (G : FnOk X.prog X.w X.K X.mg X.base CX k fI fd ["self", n] (spX X.K C f)) (hr : Room (k + 1) X.A) (hb : Binds X.K fd ["self", n] []) (hx : Passes CX X (fun _ _ _ => False)) (hg : Gl X x) (hm : X.mg x = some (.ref C)) (ha : PE X e te)
    (hdb : (x == ("__debug__" : Str)) = false := by decide) (he : starEach [e] X.env = (false, eval e X.env) :: starEach [] X.env := by rfl) : PMk X (.Call (.Name x p) [e] [] pos) (tMkR C f (tCons te tNil)) := by
  intro pins s0 σ H0 Q I0 h
  refine wpAny_Call_Name_kw (ld_glob I0 hg hm ?_ hdb)
  refine PySem.W.callWith_K (h₀ := X.base) I0.ok.mod.kin T.kp (thn ((pa_cons (hs := he) ha pa_nil).run pos pins s0 σ H0 _ I0 h) fun us s1 ⟨vs, H, I, r1, y, ev, q⟩ => ⟨I.kIn, ?_⟩) he (by rfl)
  subst ev
  cases r1 with
  | @cons _ v _ _ r r2 =>
  cases r2
  show wpAny _ _ (call (.ref C) [v]) _ _ _
  obtain ⟨hp, g, dr, tk, os⟩ := s1
  obtain ⟨nm, N', qn, bs, bm, hdct, sn, sub, ab, col, dd, k0, k1, k2, k3, k5, hC, hT⟩ := PySem.W.excInit_of I.kIn T.ini
  have hsz : hp.objs.size ≤ hp.objs.size + 1 := Nat.le_succ _
  have hn : H (hp.objs.size + 1) = none := I.hok.fresh hsz
  have kk : ∀ b o, hp.get? b = some o → ((hp.push (PySem.W.kdv_tup [v])).push (PySem.HandSPX.excO C hp.objs.size)).get? b = some o := fun b o e => Heap.get?_push_of_some _ (Heap.get?_push_of_some _ e)
  have hget : ((hp.push (PySem.W.kdv_tup [v])).push (PySem.HandSPX.excO C hp.objs.size)).get? (hp.objs.size + 1) = some (PySem.HandSPX.excO C hp.objs.size) := by heap_get
  have I2 : Inv X pins σ (upd H (hp.objs.size + 1) (exo (hp.objs.size + 1) C none)) ⟨(hp.push (PySem.W.kdv_tup [v])).push (PySem.HandSPX.excO C hp.objs.size), g, dr, tk, os⟩ :=
    I.laid (t' := tk) (a := hp.objs.size + 1) (o := exo (hp.objs.size + 1) C none) (h' := (hp.push (PySem.W.kdv_tup [v])).push (PySem.HandSPX.excO C hp.objs.size)) kk hsz (exo_ok hget)
  have hq : spX X.K C f [.ref (hp.objs.size + 1), y] (upd H (hp.objs.size + 1) (exo (hp.objs.size + 1) C none)) (fun z H2 => z = .non ∧ ∃ (d : Addr) (fs : List (Str × V)), H2 (hp.objs.size + 1) = some (exo (hp.objs.size + 1) C (some d)) ∧ H2 d = some (exd d fs) ∧ H d = none ∧ Q (.ref C) (some d) (upd (del H2 (hp.objs.size + 1)) d (.xd fs))) (fun _ _ _ => False) :=
    ⟨hp.objs.size + 1, y, rfl, upd_same, fun dx h1 h2 => ⟨rfl, dx, [(f, y)], upd_same, by rw [upd_ne h2, upd_same], by rw [upd_ne h2] at h1; exact h1, by
      rw [del_made hn h2]
      exact q dx (by rw [upd_ne h2] at h1; exact h1)⟩⟩
  refine wpAny_call (callK F.excBase_ArithmeticError hT hC (PySem.W.looks_findIn I.kIn N.ini) (fun self => PySem.W.bind_fn I.kIn self N.fn) (by rw [sizeLine_eq]; show 1 ≤ _; decide)
    (codeAny_mono (G.run _ X.stack _ _ ⟨Value.ref (hp.objs.size + 1) :: [v], []⟩ [Value.ref (hp.objs.size + 1), v] [V.ref (hp.objs.size + 1), y] _ (fun _ _ _ => False) (hr.make C [v] []) (I2.env0.make C [v] []) (hb _ [Value.ref (hp.objs.size + 1), v] I2.kIn rfl) (.cons (show RelV (V.ref (hp.objs.size + 1)) (Value.ref (hp.objs.size + 1)) from rfl) (.cons r .nil)) hq) fun r s' hq' => ?_))
  cases r with
  | error er => exact hx pins σ _ _ er s' I2 hq'
  | ok fl =>
    cases fl with
    | ret u =>
      obtain ⟨v3, H2, os2, bare2, un2, hok2, rv, ev, d, fs, ea, ed, hd1, q2⟩ := hq'
      subst ev
      obtain ⟨h2, g2, d2, t2, os'⟩ := s'
      exact ⟨rv, mk_end (raises_own T.ex T.ty) I hsz kk un2 hok2 os2 bare2 ea ed hd1 q2⟩
    | next => exact False.elim hq'
    | brk => exact False.elim hq'
    | cont => exact False.elim hq'
end
end FcX
set_option maxRecDepth 100000
set_option maxHeartbeats 4000000
namespace FcX
open PySem PySem.Spec PyProof.Rows L2 FcR
def xhB (K : PySem.W.Frag) (ns : List Str) : Bool := ns.all fun c => ns.all fun d => decide (PySem.W.exmOne K (.ref (He.ga K c)) (.ref (He.ga K d)) = some (c == d || d == "CopyError"))
theorem XC.xf {K : PySem.W.Frag} {C : Addr} (T : XC K C) : XfC K C := ⟨T.ga, T.gt, T.ex, T.hd⟩
abbrev Cl := Value × Option Nat × (Addr → Value → Option Addr → TS)
section
variable {X : Cx} {body : List Stmt} {h₀ : ExceptHandler} {hds : List ExceptHandler} {l : List Cl} {pos : Pos} {tb : WX → TS} {Wout : WX}
end
section
variable {X : Cx} {k i : Nat} {x : Str} {p pos : Pos} {e : Expr} {es : List Expr} {t : TA} {W : WX}
end
end FcX
set_option maxRecDepth 100000
set_option maxHeartbeats 4000000
namespace FcX
open PySem PySem.Spec PyProof.Rows L2 FcR
section
variable {X : Cx} {k : Nat} {f C : Addr} {S : Sp → Prop} {W : WX} {x m : Str} {p pos apos : Pos} {e o : Expr} {es : List Expr} {ta : TE} {t : TA}
end
end FcX
set_option maxRecDepth 100000
set_option maxHeartbeats 4000000
namespace FcL
open PySem PySem.Spec PyProof.Rows L2 FcR FcX LamX NdefX
structure FnG (P : Program) (w : World) (K : PySem.W.Frag) (mg : Str → Option Value) (base : Heap) (k : Nat) (f : Addr) (fd : FuncData) (ps : List Str) (sp : Sp) : Prop where
  len : ∀ vs H Q E, sp vs H Q E → vs.length = ps.length
  run : ∀ (A : Around) (outer : List Env) (s : Shared) (H : Hp) (args : Args) (us : List Value) (vs : List V) (Q : VK) (E : XK), A.guards = some [] → Room k A → Env0 P w K mg base A outer s H → BindsTo s fd args (ps.zip us) → Vals vs us → sp vs H Q E →
    codeAny (model P w) A (.call (.ref f) args) (CR (L2.CX P w) outer P w H s Q E) s
theorem FnG.of {P : Program} {w : World} {K : PySem.W.Frag} {mg : Str → Option Value} {base : Heap} {k : Nat} {f : Addr} {fd : FuncData} {ps : List Str} {sp : Sp} (F : FnOk P w K mg base (L2.CX P w) k f fd ps sp) : FnG P w K mg base k f fd ps sp :=
  ⟨F.len, fun A outer s H args us vs Q E _ hr e0 b r h => F.run A outer s H args us vs Q E hr e0 b r h⟩
theorem FnG.mono {P : Program} {w : World} {K : PySem.W.Frag} {mg : Str → Option Value} {base : Heap} {j k : Nat} {f : Addr} {fd : FuncData} {ps : List Str} {sp : Sp} (F : FnG P w K mg base j f fd ps sp) (h : j ≤ k) : FnG P w K mg base k f fd ps sp :=
  ⟨F.len, fun A outer s H args us vs Q E hg hr => F.run A outer s H args us vs Q E hg (hr.mono h)⟩
section
variable {P : Program} {w : World} {K : PySem.W.Frag} {mg : Str → Option Value} {base : Heap} {x qual : Str} {params : Arguments} {body : List Stmt} {scope : Scope} {dvs : List V} {kws : List (Str × V)} {fd : FuncData} {at_ : Str × Option Str}
end
section
variable {X : Cx} {k : Nat} {f : Addr} {fd : FuncData} {ps : List Str} {sp : Sp} {x : Str} {p pos : Pos} {e : Expr} {es : List Expr} {t : TA}
end
end FcL
set_option maxRecDepth 100000
set_option maxHeartbeats 0
namespace Fc
open PySem PySem.Spec PyProof.Rows L2
def topS (i : Nat) : Stmt := PySem.Challenge.pw_finallycopies_k46_any_tables_merged.main.body.getD i (.Pass ⟨0, 0, 0, 0⟩)
abbrev sd_wall : Stmt := topS 0
def d_wall : He.DefD := ⟨("_wall", none), "_wall", "_wall", defArgs sd_wall, defBody sd_wall, defScope sd_wall, [], []⟩
abbrev sd_InvalidCode___init__ : Stmt := inClass (topS 3) 0
def d_InvalidCode___init__ : He.DefD := ⟨("InvalidCode", some "__init__"), "__init__", "InvalidCode.__init__", defArgs sd_InvalidCode___init__, defBody sd_InvalidCode___init__, defScope sd_InvalidCode___init__, [], []⟩
abbrev sd_InvalidNumber___init__ : Stmt := inClass (topS 4) 0
def d_InvalidNumber___init__ : He.DefD := ⟨("InvalidNumber", some "__init__"), "__init__", "InvalidNumber.__init__", defArgs sd_InvalidNumber___init__, defBody sd_InvalidNumber___init__, defScope sd_InvalidNumber___init__, [], []⟩
abbrev sd_InvalidTable___init__ : Stmt := inClass (topS 5) 0
def d_InvalidTable___init__ : He.DefD := ⟨("InvalidTable", some "__init__"), "__init__", "InvalidTable.__init__", defArgs sd_InvalidTable___init__, defBody sd_InvalidTable___init__, defScope sd_InvalidTable___init__, [], []⟩
abbrev sd_LimitExceeded___init__ : Stmt := inClass (topS 6) 0
def d_LimitExceeded___init__ : He.DefD := ⟨("LimitExceeded", some "__init__"), "__init__", "LimitExceeded.__init__", defArgs sd_LimitExceeded___init__, defBody sd_LimitExceeded___init__, defScope sd_LimitExceeded___init__, [], []⟩
abbrev sd_is_integer : Stmt := topS 8
def d_is_integer : He.DefD := ⟨("is_integer", none), "is_integer", "is_integer", defArgs sd_is_integer, defBody sd_is_integer, defScope sd_is_integer, [], []⟩
abbrev sd_is_between : Stmt := topS 9
def d_is_between : He.DefD := ⟨("is_between", none), "is_between", "is_between", defArgs sd_is_between, defBody sd_is_between, defScope sd_is_between, [], []⟩
abbrev sd_is_name : Stmt := topS 19
def d_is_name : He.DefD := ⟨("is_name", none), "is_name", "is_name", defArgs sd_is_name, defBody sd_is_name, defScope sd_is_name, [], []⟩
abbrev sd_is_statement : Stmt := topS 20
def d_is_statement : He.DefD := ⟨("is_statement", none), "is_statement", "is_statement", defArgs sd_is_statement, defBody sd_is_statement, defScope sd_is_statement, [], []⟩
abbrev sd_parts_in : Stmt := topS 21
def d_parts_in : He.DefD := ⟨("parts_in", none), "parts_in", "parts_in", defArgs sd_parts_in, defBody sd_parts_in, defScope sd_parts_in, [], []⟩
abbrev sd_Code___init__ : Stmt := inClass (topS 22) 0
def d_Code___init__ : He.DefD := ⟨("Code", some "__init__"), "__init__", "Code.__init__", defArgs sd_Code___init__, defBody sd_Code___init__, defScope sd_Code___init__, [], []⟩
abbrev sd_Code_check : Stmt := inClass (topS 22) 1
def d_Code_check : He.DefD := ⟨("Code", some "check"), "check", "Code.check", defArgs sd_Code_check, defBody sd_Code_check, defScope sd_Code_check, [], []⟩
abbrev sd_Code_keep : Stmt := inClass (topS 22) 2
def d_Code_keep : He.DefD := ⟨("Code", some "keep"), "keep", "Code.keep", defArgs sd_Code_keep, defBody sd_Code_keep, defScope sd_Code_keep, [], []⟩
abbrev sd_Code___eq__ : Stmt := inClass (topS 22) 3
def d_Code___eq__ : He.DefD := ⟨("Code", some "__eq__"), "__eq__", "Code.__eq__", defArgs sd_Code___eq__, defBody sd_Code___eq__, defScope sd_Code___eq__, [], []⟩
abbrev sd_Code___len__ : Stmt := inClass (topS 22) 4
def d_Code___len__ : He.DefD := ⟨("Code", some "__len__"), "__len__", "Code.__len__", defArgs sd_Code___len__, defBody sd_Code___len__, defScope sd_Code___len__, [], []⟩
abbrev sd_Code___getitem__ : Stmt := inClass (topS 22) 5
def d_Code___getitem__ : He.DefD := ⟨("Code", some "__getitem__"), "__getitem__", "Code.__getitem__", defArgs sd_Code___getitem__, defBody sd_Code___getitem__, defScope sd_Code___getitem__, [], []⟩
abbrev sd_Code___iter__ : Stmt := inClass (topS 22) 6
def d_Code___iter__ : He.DefD := ⟨("Code", some "__iter__"), "__iter__", "Code.__iter__", defArgs sd_Code___iter__, defBody sd_Code___iter__, defScope sd_Code___iter__, [], []⟩
abbrev sd_Code_check_number : Stmt := inClass (topS 22) 7
def d_Code_check_number : He.DefD := ⟨("Code", some "check_number"), "check_number", "Code.check_number", defArgs sd_Code_check_number, defBody sd_Code_check_number, defScope sd_Code_check_number, [], []⟩
abbrev sd_Code_is_place : Stmt := inClass (topS 22) 8
def d_Code_is_place : He.DefD := ⟨("Code", some "is_place"), "is_place", "Code.is_place", defArgs sd_Code_is_place, defBody sd_Code_is_place, defScope sd_Code_is_place, [], []⟩
abbrev sd_Code_check_place : Stmt := inClass (topS 22) 9
def d_Code_check_place : He.DefD := ⟨("Code", some "check_place"), "check_place", "Code.check_place", defArgs sd_Code_check_place, defBody sd_Code_check_place, defScope sd_Code_check_place, [], []⟩
abbrev sd_Code_kind : Stmt := inClass (topS 22) 10
def d_Code_kind : He.DefD := ⟨("Code", some "kind"), "kind", "Code.kind", defArgs sd_Code_kind, defBody sd_Code_kind, defScope sd_Code_kind, [], []⟩
abbrev sd_Code_parent : Stmt := inClass (topS 22) 11
def d_Code_parent : He.DefD := ⟨("Code", some "parent"), "parent", "Code.parent", defArgs sd_Code_parent, defBody sd_Code_parent, defScope sd_Code_parent, [], []⟩
abbrev sd_Code_parts : Stmt := inClass (topS 22) 12
def d_Code_parts : He.DefD := ⟨("Code", some "parts"), "parts", "Code.parts", defArgs sd_Code_parts, defBody sd_Code_parts, defScope sd_Code_parts, [], []⟩
abbrev sd_Code_places : Stmt := inClass (topS 22) 13
def d_Code_places : He.DefD := ⟨("Code", some "places"), "places", "Code.places", defArgs sd_Code_places, defBody sd_Code_places, defScope sd_Code_places, [], []⟩
abbrev sd_Code_entry : Stmt := inClass (topS 22) 14
def d_Code_entry : He.DefD := ⟨("Code", some "entry"), "entry", "Code.entry", defArgs sd_Code_entry, defBody sd_Code_entry, defScope sd_Code_entry, [], []⟩
abbrev sd_Code_entry_of : Stmt := inClass (topS 22) 15
def d_Code_entry_of : He.DefD := ⟨("Code", some "entry_of"), "entry_of", "Code.entry_of", defArgs sd_Code_entry_of, defBody sd_Code_entry_of, defScope sd_Code_entry_of, [], []⟩
abbrev sd_Code_layers : Stmt := inClass (topS 22) 16
def d_Code_layers : He.DefD := ⟨("Code", some "layers"), "layers", "Code.layers", defArgs sd_Code_layers, defBody sd_Code_layers, defScope sd_Code_layers, [], []⟩
abbrev sd_Code_layers_of : Stmt := inClass (topS 22) 17
def d_Code_layers_of : He.DefD := ⟨("Code", some "layers_of"), "layers_of", "Code.layers_of", defArgs sd_Code_layers_of, defBody sd_Code_layers_of, defScope sd_Code_layers_of, [], []⟩
abbrev sd_renumbered : Stmt := topS 27
def d_renumbered : He.DefD := ⟨("renumbered", none), "renumbered", "renumbered", defArgs sd_renumbered, defBody sd_renumbered, defScope sd_renumbered, [], []⟩
abbrev sd_ordered : Stmt := topS 28
def d_ordered : He.DefD := ⟨("ordered", none), "ordered", "ordered", defArgs sd_ordered, defBody sd_ordered, defScope sd_ordered, [], []⟩
abbrev sd_is_item : Stmt := topS 29
def d_is_item : He.DefD := ⟨("is_item", none), "is_item", "is_item", defArgs sd_is_item, defBody sd_is_item, defScope sd_is_item, [], []⟩
abbrev sd_is_row : Stmt := topS 30
def d_is_row : He.DefD := ⟨("is_row", none), "is_row", "is_row", defArgs sd_is_row, defBody sd_is_row, defScope sd_is_row, [], []⟩
abbrev sd_check_rows : Stmt := topS 31
def d_check_rows : He.DefD := ⟨("check_rows", none), "check_rows", "check_rows", defArgs sd_check_rows, defBody sd_check_rows, defScope sd_check_rows, [], []⟩
abbrev sd_classes_of : Stmt := topS 32
def d_classes_of : He.DefD := ⟨("classes_of", none), "classes_of", "classes_of", defArgs sd_classes_of, defBody sd_classes_of, defScope sd_classes_of, [], []⟩
abbrev sd_merged : Stmt := topS 33
def d_merged : He.DefD := ⟨("merged", none), "merged", "merged", defArgs sd_merged, defBody sd_merged, defScope sd_merged, [], []⟩
abbrev sd_law_cell_at : Stmt := topS 35
def d_law_cell_at : He.DefD := ⟨("_law_cell_at", none), "_law_cell_at", "_law_cell_at", defArgs sd_law_cell_at, defBody sd_law_cell_at, defScope sd_law_cell_at, [], []⟩
abbrev sd_law_source : Stmt := topS 36
def d_law_source : He.DefD := ⟨("_law_source", none), "_law_source", "_law_source", defArgs sd_law_source, defBody sd_law_source, defScope sd_law_source, [], []⟩
abbrev sd_law_draw : Stmt := topS 37
def d_law_draw : He.DefD := ⟨("_law_draw", none), "_law_draw", "_law_draw", defArgs sd_law_draw, defBody sd_law_draw, defScope sd_law_draw, [], []⟩
abbrev sd_law_choice : Stmt := topS 38
def d_law_choice : He.DefD := ⟨("_law_choice", none), "_law_choice", "_law_choice", defArgs sd_law_choice, defBody sd_law_choice, defScope sd_law_choice, [], []⟩
abbrev sd_law_name : Stmt := topS 39
def d_law_name : He.DefD := ⟨("_law_name", none), "_law_name", "_law_name", defArgs sd_law_name, defBody sd_law_name, defScope sd_law_name, [], []⟩
abbrev sd_law_leaf : Stmt := topS 40
def d_law_leaf : He.DefD := ⟨("_law_leaf", none), "_law_leaf", "_law_leaf", defArgs sd_law_leaf, defBody sd_law_leaf, defScope sd_law_leaf, [], []⟩
abbrev sd_law_statement : Stmt := topS 41
def d_law_statement : He.DefD := ⟨("_law_statement", none), "_law_statement", "_law_statement", defArgs sd_law_statement, defBody sd_law_statement, defScope sd_law_statement, [], []⟩
abbrev sd_law_apart : Stmt := topS 42
def d_law_apart : He.DefD := ⟨("_law_apart", none), "_law_apart", "_law_apart", defArgs sd_law_apart, defBody sd_law_apart, defScope sd_law_apart, [], []⟩
abbrev sd_law_is_ordered : Stmt := topS 43
def d_law_is_ordered : He.DefD := ⟨("_law_is_ordered", none), "_law_is_ordered", "_law_is_ordered", defArgs sd_law_is_ordered, defBody sd_law_is_ordered, defScope sd_law_is_ordered, [], []⟩
abbrev sd_law_any_table : Stmt := topS 44
def d_law_any_table : He.DefD := ⟨("_law_any_table", none), "_law_any_table", "_law_any_table", defArgs sd_law_any_table, defBody sd_law_any_table, defScope sd_law_any_table, [], []⟩
abbrev sd_law : Stmt := topS 45
def d_law : He.DefD := ⟨("law", none), "law", "law", defArgs sd_law, defBody sd_law, defScope sd_law, [], []⟩
def fnL0 : List He.DefD := [d_wall, d_InvalidCode___init__, d_InvalidNumber___init__, d_InvalidTable___init__, d_LimitExceeded___init__, d_is_integer, d_is_between, d_is_name, d_is_statement, d_parts_in, d_Code___init__, d_Code_check, d_Code_keep, d_Code___eq__, d_Code___len__, d_Code___getitem__, d_Code___iter__, d_Code_check_number, d_Code_is_place, d_Code_check_place, d_Code_kind, d_Code_parent, d_Code_parts, d_Code_places, d_Code_entry, d_Code_entry_of, d_Code_layers, d_Code_layers_of, d_renumbered, d_ordered]
def fnL1 : List He.DefD := [d_is_item, d_is_row, d_check_rows, d_classes_of, d_merged, d_law_cell_at, d_law_source, d_law_draw, d_law_choice, d_law_name, d_law_leaf, d_law_statement, d_law_apart, d_law_is_ordered, d_law_any_table, d_law]
def fnL : List He.DefD := fnL0 ++ fnL1
def faL0 : List He.Fa := [.glo "_wall", .glo "CopyError", .glo "InvalidCode", .glo "InvalidNumber", .glo "InvalidTable", .glo "LimitExceeded", .glo "is_integer", .glo "is_between", .glo "SIZES", .glo "NAMED", .glo "JUMPS", .glo "is_name", .glo "is_statement", .glo "parts_in", .glo "Code", .glo "ENDS", .glo "ASKING", .glo "renumbered", .glo "ordered", .glo "is_item", .glo "is_row", .glo "check_rows", .glo "classes_of", .glo "merged", .glo "_law_cell_at", .glo "_law_source", .glo "_law_draw", .glo "_law_choice", .glo "_law_name", .glo "_law_leaf"]
def faL1 : List He.Fa := [.glo "_law_statement", .glo "_law_apart", .glo "_law_is_ordered", .glo "_law_any_table", .glo "law", .free "ArithmeticError", .free "TypeError", .free "all", .free "bool", .free "dict", .free "enumerate", .free "int", .free "isinstance", .free "len", .free "list", .free "range", .free "reversed", .free "set", .free "str", .free "tuple", .free "zip", .int "MOST_STATEMENTS" 400, .int "MOST_DEEP" 100, .int "MOST_BLOCKS" 25, .int "MOST_LETTERS" 8, .str "LETTERS" "abcdefghijklmnopqrstuvwxyz", .int "MOST_ROWS" 200, .cls "Code", .mkr "Code", .noat "Code" "children"]
def faL2 : List He.Fa := [.noat "Code" "kinds", .noat "Code" "labels", .noat "Code" "parents", .noat "Code" "statements", .meth "Code" "check", .meth "Code" "keep", .meth "Code" "__eq__", .meth "Code" "__len__", .meth "Code" "__getitem__", .meth "Code" "__iter__", .meth "Code" "check_number", .meth "Code" "is_place", .meth "Code" "check_place", .meth "Code" "kind", .meth "Code" "parent", .meth "Code" "parts", .meth "Code" "places", .meth "Code" "entry", .meth "Code" "entry_of", .meth "Code" "layers", .meth "Code" "layers_of"]
def faL : List He.Fa := faL0 ++ faL1 ++ faL2
def tabL : List He.Tab := [(fun K => He.ga K "SIZES", ["do", "call", "if", "while", "seq", "break", "continue", "return", "raise", "try", "final"])]
def tfL : List He.Defn := []
def xN : List PySem.Str := ["CopyError", "InvalidCode", "InvalidNumber", "InvalidTable", "LimitExceeded"]
def exB (K : PySem.W.Frag) : Bool := (He.tupB K "NAMED" [.str "do", .str "call", .str "if", .str "while"]) && (He.tupB K "JUMPS" [.str "break", .str "continue"]) && (He.tupB K "ENDS" [.str "end", .str "return", .str "raise"]) && (He.tupB K "ASKING" [.str "call", .str "if", .str "while"]) && (He.valsB K (He.ga K "SIZES") [("do", .int 2), ("call", .int 2), ("if", .int 4), ("while", .int 3), ("seq", .int 2), ("break", .int 2), ("continue", .int 2), ("return", .int 1), ("raise", .int 1), ("try", .int 3), ("final", .int 3)]) && (FcX.xcB K (He.ga K "CopyError") && PySem.W.excIn K (He.ga K "CopyError") FcX.aeT "ArithmeticError.__new__") && (FcX.xcB K (He.ga K "InvalidCode") && FcX.xiB K (He.ga K "InvalidCode") (He.fAd K ("InvalidCode", some "__init__")) "number") && (FcX.xcB K (He.ga K "InvalidNumber") && FcX.xiB K (He.ga K "InvalidNumber") (He.fAd K ("InvalidNumber", some "__init__")) "number") && (FcX.xcB K (He.ga K "InvalidTable") && FcX.xiB K (He.ga K "InvalidTable") (He.fAd K ("InvalidTable", some "__init__")) "at") && (FcX.xcB K (He.ga K "LimitExceeded") && FcX.xiB K (He.ga K "LimitExceeded") (He.fAd K ("LimitExceeded", some "__init__")) "limit") && (FcX.xkB K xN) && (FcO.eqB K (He.ga K "Code")) && (FcX.xhB K xN)
def looseL0 : List PySem.Str := ["_wall", "CopyError", "InvalidCode", "InvalidNumber", "InvalidTable", "LimitExceeded", "is_integer", "is_between", "SIZES", "NAMED", "JUMPS", "is_name", "is_statement", "parts_in", "Code", "ENDS", "ASKING", "renumbered", "ordered", "is_item", "is_row", "check_rows", "classes_of", "merged", "_law_cell_at", "_law_source", "_law_draw", "_law_choice", "_law_name", "_law_leaf"]
def looseL1 : List PySem.Str := ["_law_statement", "_law_apart", "_law_is_ordered", "_law_any_table", "MOST_STATEMENTS", "MOST_DEEP", "MOST_BLOCKS", "MOST_LETTERS", "LETTERS", "MOST_ROWS"]
def looseL : List PySem.Str := looseL0 ++ looseL1
abbrev R : PySem.W.OpenRow := PySem.W.OpenLaw.row PySem.Challenge.rw_finallycopies_k46_any_tables_merged
abbrev hk : PySem.W.Hook := He.hookX 4 faL fnL tabL tfL exB
def ob (s : PySem.W.SharedT) : He.AlX := He.obsX 4 faL fnL tabL tfL exB (HandSHeadRun.getT s)
theorem ob_eq (s : PySem.W.SharedT) : ob s = hk.obs s.abs := He.obsX_eq (HandSHeadRun.getT_eq s)
theorem map3 {α β γ δ : Type} {o : Option α} {f : α → β} {g : α → γ} {h : α → δ} {a : β} {b : γ} {c : δ} (h1 : o.map f = some a) (h2 : o.map g = some b) (h3 : o.map h = some c) : o.map (fun s => (f s, g s, h s)) = some (a, b, c) := by
  cases o with
  | none => cases h1
  | some x => cases h1; cases h2; cases h3; rfl
theorem mapP {α β γ : Type} {o : Option α} {h : α → β × γ} {c : β × γ} (h1 : o.map (fun s => (h s).1) = some c.1) (h2 : o.map (fun s => (h s).2) = some c.2) : o.map h = some c := by
  cases o with
  | none => cases h1
  | some x =>
    have e1 : (h x).1 = c.1 := Option.some.inj h1
    have e2 : (h x).2 = c.2 := Option.some.inj h2
    show some (h x) = some c
    rw [← Prod.eta (h x), ← Prod.eta c, e1, e2]
theorem mapB {α : Type} {o : Option α} {f g : α → Bool} (h1 : o.map f = some true) (h2 : o.map g = some true) : o.map (fun s => f s && g s) = some true := by
  cases o with
  | none => cases h1
  | some x =>
    have e1 : f x = true := Option.some.inj h1
    have e2 : g x = true := Option.some.inj h2
    show some (f x && g x) = some true
    rw [e1, e2] <;> rfl
theorem runF_a (w : World) (os : PySem.OsState) : (HandSHeadRun.endF (HandSHeadRun.stepQ (HandSHeadRun.denQ HandSHeadRun.tabQ) R.prog (w.withFollow "special-get-raises" false)) 20000 R.prog (w.withFollow "special-get-raises" false) os).map (fun s => HandSHeadRun.looksF R.prog (PySem.W.boot_heap (w.withFollow "special-get-raises" false).params) s.abs) = some true := by kernel_rfl
theorem runF_b (w : World) (os : PySem.OsState) : (HandSHeadRun.endF (HandSHeadRun.stepQ (HandSHeadRun.denQ HandSHeadRun.tabQ) R.prog (w.withFollow "special-get-raises" false)) 20000 R.prog (w.withFollow "special-get-raises" false) os).map (fun s => HandSHeadRun.seenQ (PySem.W.view R.prog [45]) looseL (PySem.importedModules R.prog.main.body) (fun s => PySem.W.xlAt (PySem.W.view R.prog [45]) [] s && PySem.W.recOk R.toRowW.records s) s.abs) = some (PySem.W.openGood (PySem.W.view R.prog [45]) looseL) := by kernel_rfl
theorem runF_c1 (w : World) (os : PySem.OsState) : (HandSHeadRun.endF (HandSHeadRun.stepQ (HandSHeadRun.denQ HandSHeadRun.tabQ) R.prog (w.withFollow "special-get-raises" false)) 20000 R.prog (w.withFollow "special-get-raises" false) os).map (fun s => faL.all fun f => f.ok (He.frT (HandSHeadRun.getT s) (He.asD (HandSHeadRun.getT s) 4))) = some true := by kernel_rfl
theorem runF_c2 (w : World) (os : PySem.OsState) : (HandSHeadRun.endF (HandSHeadRun.stepQ (HandSHeadRun.denQ HandSHeadRun.tabQ) R.prog (w.withFollow "special-get-raises" false)) 20000 R.prog (w.withFollow "special-get-raises" false) os).map (fun s => fnL.all fun d => d.ok (He.frT (HandSHeadRun.getT s) (He.asD (HandSHeadRun.getT s) 4))) = some true := by kernel_rfl
theorem runF_c3 (w : World) (os : PySem.OsState) : (HandSHeadRun.endF (HandSHeadRun.stepQ (HandSHeadRun.denQ HandSHeadRun.tabQ) R.prog (w.withFollow "special-get-raises" false)) 20000 R.prog (w.withFollow "special-get-raises" false) os).map (fun s => fnL.map fun d => He.fnW (He.frT (HandSHeadRun.getT s) (He.asD (HandSHeadRun.getT s) 4)) d.at_) = some (fnL.map He.DefD.val) := by kernel_rfl
theorem runF_c4 (w : World) (os : PySem.OsState) : (HandSHeadRun.endF (HandSHeadRun.stepQ (HandSHeadRun.denQ HandSHeadRun.tabQ) R.prog (w.withFollow "special-get-raises" false)) 20000 R.prog (w.withFollow "special-get-raises" false) os).map (fun s => tabL.map fun t => He.dicW (He.frT (HandSHeadRun.getT s) (He.asD (HandSHeadRun.getT s) 4)) (t.1 (He.frT (HandSHeadRun.getT s) (He.asD (HandSHeadRun.getT s) 4)))) = some (tabL.map fun t => some (He.keysIn (w.withFollow "special-get-raises" false).params t.2)) := by kernel_rfl
theorem runF_c (w : World) (os : PySem.OsState) : (HandSHeadRun.endF (HandSHeadRun.stepQ (HandSHeadRun.denQ HandSHeadRun.tabQ) R.prog (w.withFollow "special-get-raises" false)) 20000 R.prog (w.withFollow "special-get-raises" false) os).map (fun s => (ob s).1) = some (hk.val (w.withFollow "special-get-raises" false)).1 := mapP (h := fun s => (ob s).1) (c := (hk.val (w.withFollow "special-get-raises" false)).1) (mapP (h := fun s => (ob s).1.1) (c := (hk.val (w.withFollow "special-get-raises" false)).1.1) (mapB (runF_c1 w os) (runF_c2 w os)) (runF_c3 w os)) (runF_c4 w os)
theorem runF_d (w : World) (os : PySem.OsState) : (HandSHeadRun.endF (HandSHeadRun.stepQ (HandSHeadRun.denQ HandSHeadRun.tabQ) R.prog (w.withFollow "special-get-raises" false)) 20000 R.prog (w.withFollow "special-get-raises" false) os).map (fun s => (ob s).2) = some (hk.val (w.withFollow "special-get-raises" false)).2 := by kernel_rfl
theorem runF (w : World) : HandSHeadRun.RunEq R (PySem.W.view R.prog [45]) hk ob 20000 looseL (w.withFollow "special-get-raises" false) := fun os => map3 (runF_a w os) (runF_b w os) (mapP (h := ob) (runF_c w os) (runF_d w os))
theorem runT_a (w : World) (os : PySem.OsState) : (HandSHeadRun.endF (HandSHeadRun.stepQ (HandSHeadRun.denQ HandSHeadRun.tabQ) R.prog (w.withFollow "special-get-raises" true)) 20000 R.prog (w.withFollow "special-get-raises" true) os).map (fun s => HandSHeadRun.looksF R.prog (PySem.W.boot_heap (w.withFollow "special-get-raises" true).params) s.abs) = some true := by kernel_rfl
theorem runT_b (w : World) (os : PySem.OsState) : (HandSHeadRun.endF (HandSHeadRun.stepQ (HandSHeadRun.denQ HandSHeadRun.tabQ) R.prog (w.withFollow "special-get-raises" true)) 20000 R.prog (w.withFollow "special-get-raises" true) os).map (fun s => HandSHeadRun.seenQ (PySem.W.view R.prog [45]) looseL (PySem.importedModules R.prog.main.body) (fun s => PySem.W.xlAt (PySem.W.view R.prog [45]) [] s && PySem.W.recOk R.toRowW.records s) s.abs) = some (PySem.W.openGood (PySem.W.view R.prog [45]) looseL) := by kernel_rfl
theorem runT_c1 (w : World) (os : PySem.OsState) : (HandSHeadRun.endF (HandSHeadRun.stepQ (HandSHeadRun.denQ HandSHeadRun.tabQ) R.prog (w.withFollow "special-get-raises" true)) 20000 R.prog (w.withFollow "special-get-raises" true) os).map (fun s => faL.all fun f => f.ok (He.frT (HandSHeadRun.getT s) (He.asD (HandSHeadRun.getT s) 4))) = some true := by kernel_rfl
theorem runT_c2 (w : World) (os : PySem.OsState) : (HandSHeadRun.endF (HandSHeadRun.stepQ (HandSHeadRun.denQ HandSHeadRun.tabQ) R.prog (w.withFollow "special-get-raises" true)) 20000 R.prog (w.withFollow "special-get-raises" true) os).map (fun s => fnL.all fun d => d.ok (He.frT (HandSHeadRun.getT s) (He.asD (HandSHeadRun.getT s) 4))) = some true := by kernel_rfl
theorem runT_c3 (w : World) (os : PySem.OsState) : (HandSHeadRun.endF (HandSHeadRun.stepQ (HandSHeadRun.denQ HandSHeadRun.tabQ) R.prog (w.withFollow "special-get-raises" true)) 20000 R.prog (w.withFollow "special-get-raises" true) os).map (fun s => fnL.map fun d => He.fnW (He.frT (HandSHeadRun.getT s) (He.asD (HandSHeadRun.getT s) 4)) d.at_) = some (fnL.map He.DefD.val) := by kernel_rfl
theorem runT_c4 (w : World) (os : PySem.OsState) : (HandSHeadRun.endF (HandSHeadRun.stepQ (HandSHeadRun.denQ HandSHeadRun.tabQ) R.prog (w.withFollow "special-get-raises" true)) 20000 R.prog (w.withFollow "special-get-raises" true) os).map (fun s => tabL.map fun t => He.dicW (He.frT (HandSHeadRun.getT s) (He.asD (HandSHeadRun.getT s) 4)) (t.1 (He.frT (HandSHeadRun.getT s) (He.asD (HandSHeadRun.getT s) 4)))) = some (tabL.map fun t => some (He.keysIn (w.withFollow "special-get-raises" true).params t.2)) := by kernel_rfl
theorem runT_c (w : World) (os : PySem.OsState) : (HandSHeadRun.endF (HandSHeadRun.stepQ (HandSHeadRun.denQ HandSHeadRun.tabQ) R.prog (w.withFollow "special-get-raises" true)) 20000 R.prog (w.withFollow "special-get-raises" true) os).map (fun s => (ob s).1) = some (hk.val (w.withFollow "special-get-raises" true)).1 := mapP (h := fun s => (ob s).1) (c := (hk.val (w.withFollow "special-get-raises" true)).1) (mapP (h := fun s => (ob s).1.1) (c := (hk.val (w.withFollow "special-get-raises" true)).1.1) (mapB (runT_c1 w os) (runT_c2 w os)) (runT_c3 w os)) (runT_c4 w os)
theorem runT_d (w : World) (os : PySem.OsState) : (HandSHeadRun.endF (HandSHeadRun.stepQ (HandSHeadRun.denQ HandSHeadRun.tabQ) R.prog (w.withFollow "special-get-raises" true)) 20000 R.prog (w.withFollow "special-get-raises" true) os).map (fun s => (ob s).2) = some (hk.val (w.withFollow "special-get-raises" true)).2 := by kernel_rfl
theorem runT (w : World) : HandSHeadRun.RunEq R (PySem.W.view R.prog [45]) hk ob 20000 looseL (w.withFollow "special-get-raises" true) := fun os => map3 (runT_a w os) (runT_b w os) (mapP (h := ob) (runT_c w os) (runT_d w os))
theorem run (w : World) : HandSHeadRun.RunEq R (PySem.W.view R.prog [45]) hk ob 20000 looseL w := PySem.W.byRow2 "special-get-raises" (P := fun w => HandSHeadRun.RunEq R (PySem.W.view R.prog [45]) hk ob 20000 looseL w) runF runT w
structure Tx (w : World) (h : Heap) (K : PySem.W.Frag) (mg : Str → Option Value) : Prop where
  X : K.In h
  G : h.Ns mainGlobals mg
  c : He.SaysX faL fnL tabL tfL exB w h K
section
variable {w : World} {h : Heap} {K : PySem.W.Frag} {mg : Str → Option Value}
theorem g_InvalidTable (T : Tx w h K mg) : mg "InvalidTable" = some (.ref (He.ga K "InvalidTable")) := He.glo_ok T.X T.G (T.c.t.d.fact 4 rfl)
theorem g_is_integer (T : Tx w h K mg) : mg "is_integer" = some (.ref (He.ga K "is_integer")) := He.glo_ok T.X T.G (T.c.t.d.fact 6 rfl)
theorem g_is_between (T : Tx w h K mg) : mg "is_between" = some (.ref (He.ga K "is_between")) := He.glo_ok T.X T.G (T.c.t.d.fact 7 rfl)
theorem g_SIZES (T : Tx w h K mg) : mg "SIZES" = some (.ref (He.ga K "SIZES")) := He.glo_ok T.X T.G (T.c.t.d.fact 8 rfl)
theorem g_NAMED (T : Tx w h K mg) : mg "NAMED" = some (.ref (He.ga K "NAMED")) := He.glo_ok T.X T.G (T.c.t.d.fact 9 rfl)
theorem g_JUMPS (T : Tx w h K mg) : mg "JUMPS" = some (.ref (He.ga K "JUMPS")) := He.glo_ok T.X T.G (T.c.t.d.fact 10 rfl)
theorem g_is_name (T : Tx w h K mg) : mg "is_name" = some (.ref (He.ga K "is_name")) := He.glo_ok T.X T.G (T.c.t.d.fact 11 rfl)
theorem g_is_statement (T : Tx w h K mg) : mg "is_statement" = some (.ref (He.ga K "is_statement")) := He.glo_ok T.X T.G (T.c.t.d.fact 12 rfl)
theorem g_parts_in (T : Tx w h K mg) : mg "parts_in" = some (.ref (He.ga K "parts_in")) := He.glo_ok T.X T.G (T.c.t.d.fact 13 rfl)
theorem g_Code (T : Tx w h K mg) : mg "Code" = some (.ref (He.ga K "Code")) := He.glo_ok T.X T.G (T.c.t.d.fact 14 rfl)
theorem g_ENDS (T : Tx w h K mg) : mg "ENDS" = some (.ref (He.ga K "ENDS")) := He.glo_ok T.X T.G (T.c.t.d.fact 15 rfl)
theorem g_ASKING (T : Tx w h K mg) : mg "ASKING" = some (.ref (He.ga K "ASKING")) := He.glo_ok T.X T.G (T.c.t.d.fact 16 rfl)
theorem g_renumbered (T : Tx w h K mg) : mg "renumbered" = some (.ref (He.ga K "renumbered")) := He.glo_ok T.X T.G (T.c.t.d.fact 17 rfl)
theorem g_ordered (T : Tx w h K mg) : mg "ordered" = some (.ref (He.ga K "ordered")) := He.glo_ok T.X T.G (T.c.t.d.fact 18 rfl)
theorem g_is_item (T : Tx w h K mg) : mg "is_item" = some (.ref (He.ga K "is_item")) := He.glo_ok T.X T.G (T.c.t.d.fact 19 rfl)
theorem g_is_row (T : Tx w h K mg) : mg "is_row" = some (.ref (He.ga K "is_row")) := He.glo_ok T.X T.G (T.c.t.d.fact 20 rfl)
theorem g_check_rows (T : Tx w h K mg) : mg "check_rows" = some (.ref (He.ga K "check_rows")) := He.glo_ok T.X T.G (T.c.t.d.fact 21 rfl)
theorem g_classes_of (T : Tx w h K mg) : mg "classes_of" = some (.ref (He.ga K "classes_of")) := He.glo_ok T.X T.G (T.c.t.d.fact 22 rfl)
theorem g_merged (T : Tx w h K mg) : mg "merged" = some (.ref (He.ga K "merged")) := He.glo_ok T.X T.G (T.c.t.d.fact 23 rfl)
theorem g_law_cell_at (T : Tx w h K mg) : mg "_law_cell_at" = some (.ref (He.ga K "_law_cell_at")) := He.glo_ok T.X T.G (T.c.t.d.fact 24 rfl)
theorem g_law_source (T : Tx w h K mg) : mg "_law_source" = some (.ref (He.ga K "_law_source")) := He.glo_ok T.X T.G (T.c.t.d.fact 25 rfl)
theorem g_law_draw (T : Tx w h K mg) : mg "_law_draw" = some (.ref (He.ga K "_law_draw")) := He.glo_ok T.X T.G (T.c.t.d.fact 26 rfl)
theorem g_law_choice (T : Tx w h K mg) : mg "_law_choice" = some (.ref (He.ga K "_law_choice")) := He.glo_ok T.X T.G (T.c.t.d.fact 27 rfl)
theorem g_law_name (T : Tx w h K mg) : mg "_law_name" = some (.ref (He.ga K "_law_name")) := He.glo_ok T.X T.G (T.c.t.d.fact 28 rfl)
theorem g_law_leaf (T : Tx w h K mg) : mg "_law_leaf" = some (.ref (He.ga K "_law_leaf")) := He.glo_ok T.X T.G (T.c.t.d.fact 29 rfl)
theorem g_law_statement (T : Tx w h K mg) : mg "_law_statement" = some (.ref (He.ga K "_law_statement")) := He.glo_ok T.X T.G (T.c.t.d.fact 30 rfl)
theorem g_law_apart (T : Tx w h K mg) : mg "_law_apart" = some (.ref (He.ga K "_law_apart")) := He.glo_ok T.X T.G (T.c.t.d.fact 31 rfl)
theorem g_law_is_ordered (T : Tx w h K mg) : mg "_law_is_ordered" = some (.ref (He.ga K "_law_is_ordered")) := He.glo_ok T.X T.G (T.c.t.d.fact 32 rfl)
theorem g_law_any_table (T : Tx w h K mg) : mg "_law_any_table" = some (.ref (He.ga K "_law_any_table")) := He.glo_ok T.X T.G (T.c.t.d.fact 33 rfl)
theorem g_law (T : Tx w h K mg) : mg "law" = some (.ref (He.ga K "law")) := He.glo_ok T.X T.G (T.c.t.d.fact 34 rfl)
theorem fr_all (T : Tx w h K mg) : mg "all" = none := He.free_ok T.X T.G (T.c.t.d.fact 37 rfl)
theorem fr_bool (T : Tx w h K mg) : mg "bool" = none := He.free_ok T.X T.G (T.c.t.d.fact 38 rfl)
theorem fr_dict (T : Tx w h K mg) : mg "dict" = none := He.free_ok T.X T.G (T.c.t.d.fact 39 rfl)
theorem fr_enumerate (T : Tx w h K mg) : mg "enumerate" = none := He.free_ok T.X T.G (T.c.t.d.fact 40 rfl)
theorem fr_int (T : Tx w h K mg) : mg "int" = none := He.free_ok T.X T.G (T.c.t.d.fact 41 rfl)
theorem fr_isinstance (T : Tx w h K mg) : mg "isinstance" = none := He.free_ok T.X T.G (T.c.t.d.fact 42 rfl)
theorem fr_len (T : Tx w h K mg) : mg "len" = none := He.free_ok T.X T.G (T.c.t.d.fact 43 rfl)
theorem fr_list (T : Tx w h K mg) : mg "list" = none := He.free_ok T.X T.G (T.c.t.d.fact 44 rfl)
theorem fr_range (T : Tx w h K mg) : mg "range" = none := He.free_ok T.X T.G (T.c.t.d.fact 45 rfl)
theorem fr_reversed (T : Tx w h K mg) : mg "reversed" = none := He.free_ok T.X T.G (T.c.t.d.fact 46 rfl)
theorem fr_set (T : Tx w h K mg) : mg "set" = none := He.free_ok T.X T.G (T.c.t.d.fact 47 rfl)
theorem fr_str (T : Tx w h K mg) : mg "str" = none := He.free_ok T.X T.G (T.c.t.d.fact 48 rfl)
theorem fr_tuple (T : Tx w h K mg) : mg "tuple" = none := He.free_ok T.X T.G (T.c.t.d.fact 49 rfl)
theorem fr_zip (T : Tx w h K mg) : mg "zip" = none := He.free_ok T.X T.G (T.c.t.d.fact 50 rfl)
theorem i_MOST_STATEMENTS (T : Tx w h K mg) : ∃ t, mg "MOST_STATEMENTS" = some (.int 400 t) := He.int_ok T.X T.G (T.c.t.d.fact 51 rfl)
theorem i_MOST_DEEP (T : Tx w h K mg) : ∃ t, mg "MOST_DEEP" = some (.int 100 t) := He.int_ok T.X T.G (T.c.t.d.fact 52 rfl)
theorem i_MOST_BLOCKS (T : Tx w h K mg) : ∃ t, mg "MOST_BLOCKS" = some (.int 25 t) := He.int_ok T.X T.G (T.c.t.d.fact 53 rfl)
theorem i_MOST_LETTERS (T : Tx w h K mg) : ∃ t, mg "MOST_LETTERS" = some (.int 8 t) := He.int_ok T.X T.G (T.c.t.d.fact 54 rfl)
theorem i_LETTERS (T : Tx w h K mg) : ∃ t, mg "LETTERS" = some (.str "abcdefghijklmnopqrstuvwxyz" t) := He.str_ok T.X T.G (T.c.t.d.fact 55 rfl)
theorem i_MOST_ROWS (T : Tx w h K mg) : ∃ t, mg "MOST_ROWS" = some (.int 200 t) := He.int_ok T.X T.G (T.c.t.d.fact 56 rfl)
theorem c_Code (T : Tx w h K mg) : Cls K (He.ga K "Code") := He.cls_ok (T.c.t.d.fact 57 rfl)
theorem mk_Code (T : Tx w h K mg) : Mk K (He.ga K "Code") (He.ma K (He.ga K "Code") "__init__") := He.mkr_ok (T.c.t.d.fact 58 rfl)
theorem na_Code_children (T : Tx w h K mg) : NoAttr K (He.ga K "Code") "children" := He.noat_ok (T.c.t.d.fact 59 rfl)
theorem na_Code_kinds (T : Tx w h K mg) : NoAttr K (He.ga K "Code") "kinds" := He.noat_ok (T.c.t.d.fact 60 rfl)
theorem na_Code_labels (T : Tx w h K mg) : NoAttr K (He.ga K "Code") "labels" := He.noat_ok (T.c.t.d.fact 61 rfl)
theorem na_Code_parents (T : Tx w h K mg) : NoAttr K (He.ga K "Code") "parents" := He.noat_ok (T.c.t.d.fact 62 rfl)
theorem na_Code_statements (T : Tx w h K mg) : NoAttr K (He.ga K "Code") "statements" := He.noat_ok (T.c.t.d.fact 63 rfl)
theorem me_Code_check (T : Tx w h K mg) : Meth K (He.ga K "Code") "check" (He.ma K (He.ga K "Code") "check") := He.meth_ok (T.c.t.d.fact 64 rfl)
theorem me_Code_keep (T : Tx w h K mg) : Meth K (He.ga K "Code") "keep" (He.ma K (He.ga K "Code") "keep") := He.meth_ok (T.c.t.d.fact 65 rfl)
theorem me_Code_check_number (T : Tx w h K mg) : Meth K (He.ga K "Code") "check_number" (He.ma K (He.ga K "Code") "check_number") := He.meth_ok (T.c.t.d.fact 70 rfl)
theorem me_Code_is_place (T : Tx w h K mg) : Meth K (He.ga K "Code") "is_place" (He.ma K (He.ga K "Code") "is_place") := He.meth_ok (T.c.t.d.fact 71 rfl)
theorem me_Code_kind (T : Tx w h K mg) : Meth K (He.ga K "Code") "kind" (He.ma K (He.ga K "Code") "kind") := He.meth_ok (T.c.t.d.fact 73 rfl)
theorem me_Code_places (T : Tx w h K mg) : Meth K (He.ga K "Code") "places" (He.ma K (He.ga K "Code") "places") := He.meth_ok (T.c.t.d.fact 76 rfl)
theorem F_InvalidTable___init__ (T : Tx w h K mg) : ∃ fd, FunD K "__init__" "InvalidTable.__init__" (defArgs sd_InvalidTable___init__) (defBody sd_InvalidTable___init__) (defScope sd_InvalidTable___init__) [] [] (He.fAd K ("InvalidTable", some "__init__")) fd := T.c.t.d.def_ 3 rfl
theorem F_is_integer (T : Tx w h K mg) : ∃ fd, FunD K "is_integer" "is_integer" (defArgs sd_is_integer) (defBody sd_is_integer) (defScope sd_is_integer) [] [] (He.fAd K ("is_integer", none)) fd := T.c.t.d.def_ 5 rfl
theorem F_is_between (T : Tx w h K mg) : ∃ fd, FunD K "is_between" "is_between" (defArgs sd_is_between) (defBody sd_is_between) (defScope sd_is_between) [] [] (He.fAd K ("is_between", none)) fd := T.c.t.d.def_ 6 rfl
theorem F_is_name (T : Tx w h K mg) : ∃ fd, FunD K "is_name" "is_name" (defArgs sd_is_name) (defBody sd_is_name) (defScope sd_is_name) [] [] (He.fAd K ("is_name", none)) fd := T.c.t.d.def_ 7 rfl
theorem F_is_statement (T : Tx w h K mg) : ∃ fd, FunD K "is_statement" "is_statement" (defArgs sd_is_statement) (defBody sd_is_statement) (defScope sd_is_statement) [] [] (He.fAd K ("is_statement", none)) fd := T.c.t.d.def_ 8 rfl
theorem F_parts_in (T : Tx w h K mg) : ∃ fd, FunD K "parts_in" "parts_in" (defArgs sd_parts_in) (defBody sd_parts_in) (defScope sd_parts_in) [] [] (He.fAd K ("parts_in", none)) fd := T.c.t.d.def_ 9 rfl
theorem F_Code___init__ (T : Tx w h K mg) : ∃ fd, FunD K "__init__" "Code.__init__" (defArgs sd_Code___init__) (defBody sd_Code___init__) (defScope sd_Code___init__) [] [] (He.fAd K ("Code", some "__init__")) fd := T.c.t.d.def_ 10 rfl
theorem F_Code_check (T : Tx w h K mg) : ∃ fd, FunD K "check" "Code.check" (defArgs sd_Code_check) (defBody sd_Code_check) (defScope sd_Code_check) [] [] (He.fAd K ("Code", some "check")) fd := T.c.t.d.def_ 11 rfl
theorem F_Code_keep (T : Tx w h K mg) : ∃ fd, FunD K "keep" "Code.keep" (defArgs sd_Code_keep) (defBody sd_Code_keep) (defScope sd_Code_keep) [] [] (He.fAd K ("Code", some "keep")) fd := T.c.t.d.def_ 12 rfl
theorem F_Code_check_number (T : Tx w h K mg) : ∃ fd, FunD K "check_number" "Code.check_number" (defArgs sd_Code_check_number) (defBody sd_Code_check_number) (defScope sd_Code_check_number) [] [] (He.fAd K ("Code", some "check_number")) fd := T.c.t.d.def_ 17 rfl
theorem F_Code_is_place (T : Tx w h K mg) : ∃ fd, FunD K "is_place" "Code.is_place" (defArgs sd_Code_is_place) (defBody sd_Code_is_place) (defScope sd_Code_is_place) [] [] (He.fAd K ("Code", some "is_place")) fd := T.c.t.d.def_ 18 rfl
theorem F_Code_kind (T : Tx w h K mg) : ∃ fd, FunD K "kind" "Code.kind" (defArgs sd_Code_kind) (defBody sd_Code_kind) (defScope sd_Code_kind) [] [] (He.fAd K ("Code", some "kind")) fd := T.c.t.d.def_ 20 rfl
theorem F_Code_places (T : Tx w h K mg) : ∃ fd, FunD K "places" "Code.places" (defArgs sd_Code_places) (defBody sd_Code_places) (defScope sd_Code_places) [] [] (He.fAd K ("Code", some "places")) fd := T.c.t.d.def_ 23 rfl
theorem F_renumbered (T : Tx w h K mg) : ∃ fd, FunD K "renumbered" "renumbered" (defArgs sd_renumbered) (defBody sd_renumbered) (defScope sd_renumbered) [] [] (He.fAd K ("renumbered", none)) fd := T.c.t.d.def_ 28 rfl
theorem F_ordered (T : Tx w h K mg) : ∃ fd, FunD K "ordered" "ordered" (defArgs sd_ordered) (defBody sd_ordered) (defScope sd_ordered) [] [] (He.fAd K ("ordered", none)) fd := T.c.t.d.def_ 29 rfl
theorem F_is_item (T : Tx w h K mg) : ∃ fd, FunD K "is_item" "is_item" (defArgs sd_is_item) (defBody sd_is_item) (defScope sd_is_item) [] [] (He.fAd K ("is_item", none)) fd := T.c.t.d.def_ 30 rfl
theorem F_is_row (T : Tx w h K mg) : ∃ fd, FunD K "is_row" "is_row" (defArgs sd_is_row) (defBody sd_is_row) (defScope sd_is_row) [] [] (He.fAd K ("is_row", none)) fd := T.c.t.d.def_ 31 rfl
theorem F_check_rows (T : Tx w h K mg) : ∃ fd, FunD K "check_rows" "check_rows" (defArgs sd_check_rows) (defBody sd_check_rows) (defScope sd_check_rows) [] [] (He.fAd K ("check_rows", none)) fd := T.c.t.d.def_ 32 rfl
theorem F_classes_of (T : Tx w h K mg) : ∃ fd, FunD K "classes_of" "classes_of" (defArgs sd_classes_of) (defBody sd_classes_of) (defScope sd_classes_of) [] [] (He.fAd K ("classes_of", none)) fd := T.c.t.d.def_ 33 rfl
theorem F_merged (T : Tx w h K mg) : ∃ fd, FunD K "merged" "merged" (defArgs sd_merged) (defBody sd_merged) (defScope sd_merged) [] [] (He.fAd K ("merged", none)) fd := T.c.t.d.def_ 34 rfl
theorem F_law_cell_at (T : Tx w h K mg) : ∃ fd, FunD K "_law_cell_at" "_law_cell_at" (defArgs sd_law_cell_at) (defBody sd_law_cell_at) (defScope sd_law_cell_at) [] [] (He.fAd K ("_law_cell_at", none)) fd := T.c.t.d.def_ 35 rfl
theorem F_law_source (T : Tx w h K mg) : ∃ fd, FunD K "_law_source" "_law_source" (defArgs sd_law_source) (defBody sd_law_source) (defScope sd_law_source) [] [] (He.fAd K ("_law_source", none)) fd := T.c.t.d.def_ 36 rfl
theorem F_law_draw (T : Tx w h K mg) : ∃ fd, FunD K "_law_draw" "_law_draw" (defArgs sd_law_draw) (defBody sd_law_draw) (defScope sd_law_draw) [] [] (He.fAd K ("_law_draw", none)) fd := T.c.t.d.def_ 37 rfl
theorem F_law_choice (T : Tx w h K mg) : ∃ fd, FunD K "_law_choice" "_law_choice" (defArgs sd_law_choice) (defBody sd_law_choice) (defScope sd_law_choice) [] [] (He.fAd K ("_law_choice", none)) fd := T.c.t.d.def_ 38 rfl
theorem F_law_name (T : Tx w h K mg) : ∃ fd, FunD K "_law_name" "_law_name" (defArgs sd_law_name) (defBody sd_law_name) (defScope sd_law_name) [] [] (He.fAd K ("_law_name", none)) fd := T.c.t.d.def_ 39 rfl
theorem F_law_leaf (T : Tx w h K mg) : ∃ fd, FunD K "_law_leaf" "_law_leaf" (defArgs sd_law_leaf) (defBody sd_law_leaf) (defScope sd_law_leaf) [] [] (He.fAd K ("_law_leaf", none)) fd := T.c.t.d.def_ 40 rfl
theorem F_law_statement (T : Tx w h K mg) : ∃ fd, FunD K "_law_statement" "_law_statement" (defArgs sd_law_statement) (defBody sd_law_statement) (defScope sd_law_statement) [] [] (He.fAd K ("_law_statement", none)) fd := T.c.t.d.def_ 41 rfl
theorem F_law_apart (T : Tx w h K mg) : ∃ fd, FunD K "_law_apart" "_law_apart" (defArgs sd_law_apart) (defBody sd_law_apart) (defScope sd_law_apart) [] [] (He.fAd K ("_law_apart", none)) fd := T.c.t.d.def_ 42 rfl
theorem F_law_is_ordered (T : Tx w h K mg) : ∃ fd, FunD K "_law_is_ordered" "_law_is_ordered" (defArgs sd_law_is_ordered) (defBody sd_law_is_ordered) (defScope sd_law_is_ordered) [] [] (He.fAd K ("_law_is_ordered", none)) fd := T.c.t.d.def_ 43 rfl
theorem F_law_any_table (T : Tx w h K mg) : ∃ fd, FunD K "_law_any_table" "_law_any_table" (defArgs sd_law_any_table) (defBody sd_law_any_table) (defScope sd_law_any_table) [] [] (He.fAd K ("_law_any_table", none)) fd := T.c.t.d.def_ 44 rfl
theorem F_law (T : Tx w h K mg) : ∃ fd, FunD K "law" "law" (defArgs sd_law) (defBody sd_law) (defScope sd_law) [] [] (He.fAd K ("law", none)) fd := T.c.t.d.def_ 45 rfl
theorem t_NAMED (T : Tx w h K mg) (H : Hp) : SqT K H (He.ga K "NAMED") [.str "do", .str "call", .str "if", .str "while"] := He.tupB_ok (x := "NAMED") (vs := [.str "do", .str "call", .str "if", .str "while"]) (He.ba (He.ba (He.ba (He.ba (He.ba (He.ba (He.ba (He.ba (He.ba (He.ba (He.ba (He.ba T.c.more).1).1).1).1).1).1).1).1).1).1).1).1 H
theorem t_JUMPS (T : Tx w h K mg) (H : Hp) : SqT K H (He.ga K "JUMPS") [.str "break", .str "continue"] := He.tupB_ok (x := "JUMPS") (vs := [.str "break", .str "continue"]) (He.ba (He.ba (He.ba (He.ba (He.ba (He.ba (He.ba (He.ba (He.ba (He.ba (He.ba (He.ba T.c.more).1).1).1).1).1).1).1).1).1).1).1).2 H
theorem t_ENDS (T : Tx w h K mg) (H : Hp) : SqT K H (He.ga K "ENDS") [.str "end", .str "return", .str "raise"] := He.tupB_ok (x := "ENDS") (vs := [.str "end", .str "return", .str "raise"]) (He.ba (He.ba (He.ba (He.ba (He.ba (He.ba (He.ba (He.ba (He.ba (He.ba (He.ba T.c.more).1).1).1).1).1).1).1).1).1).1).2 H
theorem t_ASKING (T : Tx w h K mg) (H : Hp) : SqT K H (He.ga K "ASKING") [.str "call", .str "if", .str "while"] := He.tupB_ok (x := "ASKING") (vs := [.str "call", .str "if", .str "while"]) (He.ba (He.ba (He.ba (He.ba (He.ba (He.ba (He.ba (He.ba (He.ba (He.ba T.c.more).1).1).1).1).1).1).1).1).1).2 H
theorem d_SIZES (T : Tx w h K mg) : ∃ es n, KDict K w (He.ga K "SIZES") es n := T.c.t.tab 0 rfl
theorem dk_SIZES (T : Tx w h K mg) : He.dicW K (He.ga K "SIZES") = some (He.keysIn w.params ["do", "call", "if", "while", "seq", "break", "continue", "return", "raise", "try", "final"]) := Option.some.inj (show some (He.dicW K (He.ga K "SIZES")) = some (some (He.keysIn w.params ["do", "call", "if", "while", "seq", "break", "continue", "return", "raise", "try", "final"])) from congrArg (fun z : He.AlT => z.2[0]?) T.c.t)
theorem v_SIZES (T : Tx w h K mg) {q : Str × He.Dv} (hq : q ∈ ([("do", .int 2), ("call", .int 2), ("if", .int 4), ("while", .int 3), ("seq", .int 2), ("break", .int 2), ("continue", .int 2), ("return", .int 1), ("raise", .int 1), ("try", .int 3), ("final", .int 3)] : List (Str × He.Dv))) : ∃ u, PySem.W.nsIn K (He.ga K "SIZES") q.1 = some (some u) ∧ RelV (q.2.v K) u := He.valsB_ok (He.ba (He.ba (He.ba (He.ba (He.ba (He.ba (He.ba (He.ba (He.ba T.c.more).1).1).1).1).1).1).1).1).2 hq
theorem x_InvalidTable (T : Tx w h K mg) : FcX.XC K (He.ga K "InvalidTable") := FcX.xcB_ok (He.ba ((He.ba (He.ba (He.ba (He.ba (He.ba T.c.more).1).1).1).1).2)).1
theorem xi_InvalidTable (T : Tx w h K mg) : FcX.XI K (He.ga K "InvalidTable") (He.fAd K ("InvalidTable", some "__init__")) "at" := FcX.xiB_ok (He.ba ((He.ba (He.ba (He.ba (He.ba (He.ba T.c.more).1).1).1).1).2)).2
end
end Fc
set_option maxRecDepth 100000
set_option maxHeartbeats 4000000
namespace Fc
open PySem PySem.Spec PyProof.Rows L2 FcR
open Evl (Ex)
theorem find_none_of {P : Params} {z : Str} : ∀ {l : List DictEntry} {ks : List Str}, l.map He.keyOf = He.keysIn P ks → z ∉ ks → l.find? (·.key.isStr z) = none ∧ l.any (·.refKey) = false
  | [], _, _, _ => ⟨rfl, rfl⟩
  | e :: r, [], h, _ => by cases h
  | e :: r, k :: ks, h, hz => by
    have h1 : He.keyOf e :: r.map He.keyOf = some (k, PyData.keyHash P k) :: He.keysIn P ks := h
    injection h1 with h2 h3
    obtain ⟨i1, i2⟩ := find_none_of (z := z) h3 fun y => hz (List.mem_cons_of_mem _ y)
    unfold He.keyOf at h2
    split at h2
    · rename_i x t q
      have h4 := Option.some.inj h2
      obtain ⟨h5, h6⟩ := Prod.mk.inj h4
      have ne : x ≠ z := fun y => hz (by rw [← y, h5]; exact List.mem_cons_self)
      constructor
      · rw [List.find?_cons]
        have e1 : e.key.isStr z = false := by
          rw [q]
          show (x == z) = false
          simpa using ne
        rw [e1]
        exact i1
      · rw [List.any_cons, i2]
        have e2 : e.refKey = false := by
          unfold DictEntry.refKey
          rw [q] <;> rfl
        rw [e2] <;> rfl
    · cases h2
theorem ns_none {K : PySem.W.Frag} {P : Params} {a : Addr} {ks : List Str} {z : Str} (h : He.dicW K a = some (He.keysIn P ks)) (hz : z ∉ ks) : PySem.W.nsIn K a z = some none := by
  unfold He.dicW at h
  unfold PySem.W.nsIn
  cases q : K.lookup a with
  | none => rw [q] at h; cases h
  | some o =>
    obtain ⟨oc, od, dt, osl⟩ := o
    rw [q] at h
    cases oc with
    | type c =>
      cases od with
      | none =>
        cases dt with
        | dict es n =>
          have h1 : (match decide (c = "dict") && (osl.isEmpty && !(a == sysModules)) with
            | true => some (es.toList.map He.keyOf)
            | false => none) = some (He.keysIn P ks) := h
          split at h1
          · obtain ⟨i1, i2⟩ := find_none_of (z := z) (Option.some.inj h1) hz
            show (match es.toList.find? (·.key.isStr z) with
              | some e => some (some e.val)
              | none => if es.toList.any (·.refKey) then none else some none) = some none
            rw [i1, i2]
            rfl
          · cases h1
        | _ => cases h
      | some b => cases dt <;> cases h
    | _ => cases od <;> cases dt <;> cases h
def tyD : PyData → String
  | .none => "NoneType"
  | .bool _ => "bool"
  | .int _ => "int"
  | .str _ => "str"
  | .list _ => "list"
  | .tuple _ => "tuple"
  | .dict _ => "dict"
theorem ty_lst {K : PySem.W.Frag} {H : Hp} {a : Addr} {xs : List V} (h : SqL K H a xs) : TyX K H (.ref a) (.type "list") := by
  rcases h with (h | ⟨o, h⟩) | ⟨o, its, n, hk, hc, _⟩
  · exact .base (.lst h)
  · exact .base (.frz h)
  · exact .kList hk hc
theorem ty_tup {K : PySem.W.Frag} {H : Hp} {a : Addr} {xs : List V} (h : SqT K H a xs) : TyX K H (.ref a) (.type "tuple") := by
  rcases h with (h | ⟨o, h⟩) | ⟨o, its, n, hk, hc, _⟩
  · exact .base (.tup h)
  · exact .fTuple h
  · exact .kTuple hk hc
theorem dp_ty {K : PySem.W.Frag} {H : Hp} {v : V} {d : PyData} (h : Dp K H v d) : TyX K H v (.type (tyD d)) := by
  cases h with
  | non => exact .base .non
  | bl b => exact .base (.bl b)
  | int i => exact .base (.int i)
  | str x => exact .base (.str x)
  | lst h _ => exact ty_lst h
  | tup h _ => exact ty_tup h
def isT (n : String) (d : PyData) : Bool := tyD d == n
theorem k_str {K : PySem.W.Frag} : ∀ d : PyData, PySem.W.kitOne K (.type (tyD d)) (.type "str") = some (isT "str" d)
  | .none => kit_ty (show kitB "NoneType" "str" = some false by decide +kernel)
  | .bool _ => kit_ty (show kitB "bool" "str" = some false by decide +kernel)
  | .int _ => kit_ty (show kitB "int" "str" = some false by decide +kernel)
  | .str _ => kit_ty (show kitB "str" "str" = some true by decide +kernel)
  | .list _ => kit_ty (show kitB "list" "str" = some false by decide +kernel)
  | .tuple _ => kit_ty (show kitB "tuple" "str" = some false by decide +kernel)
  | .dict _ => kit_ty (show kitB "dict" "str" = some false by decide +kernel)
theorem k_tuple {K : PySem.W.Frag} : ∀ d : PyData, PySem.W.kitOne K (.type (tyD d)) (.type "tuple") = some (isT "tuple" d)
  | .none => kit_ty (show kitB "NoneType" "tuple" = some false by decide +kernel)
  | .bool _ => kit_ty (show kitB "bool" "tuple" = some false by decide +kernel)
  | .int _ => kit_ty (show kitB "int" "tuple" = some false by decide +kernel)
  | .str _ => kit_ty (show kitB "str" "tuple" = some false by decide +kernel)
  | .list _ => kit_ty (show kitB "list" "tuple" = some false by decide +kernel)
  | .tuple _ => kit_ty (show kitB "tuple" "tuple" = some true by decide +kernel)
  | .dict _ => kit_ty (show kitB "dict" "tuple" = some false by decide +kernel)
theorem k_list {K : PySem.W.Frag} : ∀ d : PyData, PySem.W.kitOne K (.type (tyD d)) (.type "list") = some (isT "list" d)
  | .none => kit_ty (show kitB "NoneType" "list" = some false by decide +kernel)
  | .bool _ => kit_ty (show kitB "bool" "list" = some false by decide +kernel)
  | .int _ => kit_ty (show kitB "int" "list" = some false by decide +kernel)
  | .str _ => kit_ty (show kitB "str" "list" = some false by decide +kernel)
  | .list _ => kit_ty (show kitB "list" "list" = some true by decide +kernel)
  | .tuple _ => kit_ty (show kitB "tuple" "list" = some false by decide +kernel)
  | .dict _ => kit_ty (show kitB "dict" "list" = some false by decide +kernel)
theorem k_bool {K : PySem.W.Frag} : ∀ d : PyData, PySem.W.kitOne K (.type (tyD d)) (.type "bool") = some (isT "bool" d)
  | .none => kit_ty (show kitB "NoneType" "bool" = some false by decide +kernel)
  | .bool _ => kit_ty (show kitB "bool" "bool" = some true by decide +kernel)
  | .int _ => kit_ty (show kitB "int" "bool" = some false by decide +kernel)
  | .str _ => kit_ty (show kitB "str" "bool" = some false by decide +kernel)
  | .list _ => kit_ty (show kitB "list" "bool" = some false by decide +kernel)
  | .tuple _ => kit_ty (show kitB "tuple" "bool" = some false by decide +kernel)
  | .dict _ => kit_ty (show kitB "dict" "bool" = some false by decide +kernel)
def isIntB : PyData → Bool
  | .int _ => true
  | .bool _ => true
  | _ => false
theorem k_int {K : PySem.W.Frag} : ∀ d : PyData, PySem.W.kitOne K (.type (tyD d)) (.type "int") = some (isIntB d)
  | .none => kit_ty (show kitB "NoneType" "int" = some false by decide +kernel)
  | .bool _ => kit_ty (show kitB "bool" "int" = some true by decide +kernel)
  | .int _ => kit_ty (show kitB "int" "int" = some true by decide +kernel)
  | .str _ => kit_ty (show kitB "str" "int" = some false by decide +kernel)
  | .list _ => kit_ty (show kitB "list" "int" = some false by decide +kernel)
  | .tuple _ => kit_ty (show kitB "tuple" "int" = some false by decide +kernel)
  | .dict _ => kit_ty (show kitB "dict" "int" = some false by decide +kernel)
def letters : List Nat := (Str.ofString "abcdefghijklmnopqrstuvwxyz").cps.toList
def nameOk (x : Str) : Bool := (decide ((1 : Int) ≤ x.length) && decide ((x.length : Int) ≤ 8)) && x.cps.toList.all fun c => decide (c ∈ letters)
def isName : PyData → Bool
  | .str x => nameOk x
  | _ => false
def isNum (lo hi : Int) : PyData → Bool
  | .int n => decide (lo ≤ n) && decide (n ≤ hi)
  | _ => false
def kNamed : List Str := ["do", "call", "if", "while"]
def kJumps : List Str := ["break", "continue"]
def kSizes : List (Str × Int) := [("do", 2), ("call", 2), ("if", 4), ("while", 3), ("seq", 2), ("break", 2), ("continue", 2), ("return", 1), ("raise", 1), ("try", 3), ("final", 3)]
def nonEmptyT : PyData → Bool
  | .tuple (_ :: _) => true
  | _ => false
def isStm : PyData → Int → Bool
  | .tuple (.str k :: r), loops => (match kSizes.lookup k with
    | none => false
    | some n => if (r.length : Int) + 1 ≠ n then false else
      if k ∈ kNamed then isName (r.getD 0 .none) else if k ∈ kJumps then isNum 1 loops (r.getD 0 .none) else
        (if k ≠ "seq" then true else nonEmptyT (r.getD 0 .none)))
  | _, _ => false
/-- the parts that are looked at -/
def partsD : PyData → List PyData
  | .tuple (.str k :: r) => if k = "seq" then (match r with
      | .tuple ps :: _ => ps.take 401
      | _ => []) else if k ∈ kNamed then r.drop 1 else if k = "try" ∨ k = "final" then r else []
  | _ => []
end Fc
set_option maxRecDepth 100000
set_option maxHeartbeats 4000000
namespace Fc
open PySem PySem.Spec PyProof.Rows L2 FcR
open Evl (Ex)
def sp_is_integer (K : PySem.W.Frag) : Sp := fun vs H Q _ => ∃ (v : V) (t : Value) (b1 b2 : Bool), vs = [v] ∧ TyX K H v t ∧ PySem.W.kitOne K t (.type "int") = some b1 ∧ PySem.W.kitOne K t (.type "bool") = some b2 ∧ Q (.bl (b1 && !b2)) H
def sp_is_between (K : PySem.W.Frag) : Sp := fun vs H Q _ => ∃ (v : V) (i j : Int), vs = [v, .int i, .int j] ∧
  ((∃ n, v = .int n ∧ Q (.bl (decide (i ≤ n) && decide (n ≤ j))) H) ∨ (∃ t b1 b2, TyX K H v t ∧ PySem.W.kitOne K t (.type "int") = some b1 ∧ PySem.W.kitOne K t (.type "bool") = some b2 ∧ (b1 && !b2) = false ∧ Q (.bl false) H))
theorem k_ii {K : PySem.W.Frag} : PySem.W.kitOne K (.type "int") (.type "int") = some true := kit_ty (by decide +kernel)
theorem k_ib {K : PySem.W.Frag} : PySem.W.kitOne K (.type "int") (.type "bool") = some false := kit_ty (by decide +kernel)
section
variable {P : Program} {w : World} {h : Heap} {K : PySem.W.Frag} {mg : Str → Option Value} {base : Heap}
abbrev N_is_integer : List Str := ["value"]
theorem sc_is_integer : FnScope N_is_integer ["value"] (defScope sd_is_integer) := ⟨rfl, rfl, rfl, by decide +kernel, rfl, by decide +kernel, by decide +kernel⟩
theorem ok_is_integer (T : Tx w h K mg) : Ok P w K mg base 1 ("is_integer", none) ["value"] (sp_is_integer K) := by
  obtain ⟨fd, F⟩ := F_is_integer T
  refine ⟨fd, ?_, F.bindsN (fun _ _ _ _ _ _ us hl => match us, hl with | [_], _ => rfl), F.kp⟩
  refine F.ok sc_is_integer (fun vs H Q E h => ?_) (fun cdv A outer s H vs Q E hr h => ?_)
  · obtain ⟨v, t, b1, b2, rfl, ty, k1, k2, q⟩ := h
    rfl
  · obtain ⟨v, t, b1, b2, rfl, ty, k1, k2, q⟩ := h
    refine ⟨_, PSs.nox (pss_one (ps_ret (pe_and (pe_callB call_isi rfl (fr_isinstance T) b_isinstance (pa_cons (pv 0) (pa_cons (pe_bltn (v := .ty "int") rfl (fr_int T) b_int rfl) pa_nil))) (pe_one (pe_not (pe_callB call_isi rfl (fr_isinstance T) b_isinstance (pa_cons (pv 0) (pa_cons (pe_bltn (v := .ty "bool") rfl (fr_bool T) b_bool rfl) pa_nil)))))))), ?_⟩
    refine ⟨_, rfl, v, .ty "int", t, _, b1, rfl, .ty _, ty, k1, _, rfl, ite_of (fun h1 => ?_) (fun h1 => ?_)⟩
    · subst h1
      exact ⟨_, rfl, v, .ty "bool", t, _, b2, rfl, .ty _, ty, k2, _, rfl, q⟩
    · subst h1
      exact q
abbrev N_is_between : List Str := ["value", "low", "high"]
theorem sc_is_between : FnScope N_is_between ["value", "low", "high"] (defScope sd_is_between) := ⟨rfl, rfl, rfl, by decide +kernel, rfl, by decide +kernel, by decide +kernel⟩
theorem ok_is_between (T : Tx w h K mg) : Ok P w K mg base 2 ("is_between", none) ["value", "low", "high"] (sp_is_between K) := by
  obtain ⟨fd, F⟩ := F_is_between T
  refine ⟨fd, ?_, F.bindsN (fun _ _ _ _ _ _ us hl => match us, hl with | [_, _, _], _ => rfl), F.kp⟩
  obtain ⟨fd_is_integer, G_is_integer, bi_is_integer, kp_is_integer⟩ := ok_is_integer (P := P) (base := base) T
  refine F.ok sc_is_between (fun vs H Q E h => ?_) (fun cdv A outer s H vs Q E hr h => ?_)
  · obtain ⟨v, i, j, rfl, q⟩ := h
    rfl
  · obtain ⟨v, i, j, rfl, q⟩ := h
    refine ⟨_, PSs.nox (pss_one (ps_ret (pe_and (pe_call G_is_integer (hr.mono (by decide)) rfl (g_is_integer T) kp_is_integer bi_is_integer .nil passF (pa_cons (pv 0) pa_nil)) (pe_one (pe_chain op_le op_le (pv 1) (pv 0) (pv 2)))))), ?_⟩
    rcases q with ⟨n, rfl, q⟩ | ⟨t, b1, b2, ty, k1, k2, hb, q⟩
    · refine ⟨_, rfl, .int n, .type "int", true, false, rfl, .base (.int n), k_ii, k_ib, _, rfl, itT rfl ?_⟩
      refine ⟨_, rfl, _, rfl, _, _, rfl, rfl, _, rfl, ite_of (fun h1 => ?_) (fun h1 => ?_)⟩
      · refine ⟨_, rfl, _, _, rfl, rfl, ?_⟩
        rw [h1] at q
        exact q
      · rw [h1] at q
        exact q
    · refine ⟨_, rfl, v, t, b1, b2, rfl, ty, k1, k2, _, rfl, itF hb q⟩
end
end Fc
set_option maxRecDepth 100000
set_option maxHeartbeats 4000000
namespace Fc
open PySem PySem.Spec PyProof.Rows L2 FcR
open Evl (Ex)
def sp_is_name (K : PySem.W.Frag) : Sp := fun vs H Q _ => ∃ (v : V) (d : PyData), vs = [v] ∧ Dp K H v d ∧ (∀ x, d = .str x → x.length ≤ 100000) ∧ ∀ H', Ex H H' → Q (.bl (isName d)) H'
theorem take_one {α : Type} {l : List α} {i : Nat} {x : α} (h : l[i]? = some x) : l.take (i + 1) = l.take i ++ [x] := by
  rw [List.take_add_one, h] <;> rfl
section
variable {P : Program} {w : World} {h : Heap} {K : PySem.W.Frag} {mg : Str → Option Value} {base : Heap}
abbrev N_is_name : List Str := ["value", "sign"]
theorem sc_is_name : FnScope N_is_name ["value"] (defScope sd_is_name) := ⟨rfl, rfl, rfl, by decide +kernel, rfl, by decide +kernel, by decide +kernel⟩
theorem ok_is_name (T : Tx w h K mg) : Ok P w K mg base 1 ("is_name", none) ["value"] (sp_is_name K) := by
  obtain ⟨fd, F⟩ := F_is_name T
  refine ⟨fd, ?_, F.bindsN (fun _ _ _ _ _ _ us hl => match us, hl with | [_], _ => rfl), F.kp⟩
  obtain ⟨tm_LETTERS, m_LETTERS⟩ := i_LETTERS T
  obtain ⟨tm_MOST_LETTERS, m_MOST_LETTERS⟩ := i_MOST_LETTERS T
  refine F.ok sc_is_name (fun vs H Q E h => ?_) (fun cdv A outer s H vs Q E hr h => ?_)
  · obtain ⟨v, d, rfl, hd, hl, q⟩ := h
    rfl
  · obtain ⟨v, d, rfl, hd, hl, q⟩ := h
    refine ⟨_, PSs.nox (pss_one (ps_ret (pe_and (pe_callB call_isi rfl (fr_isinstance T) b_isinstance (pa_cons (pv 0) (pa_cons (pe_bltn (v := .ty "str") rfl (fr_str T) b_str rfl) pa_nil))) (pe_and (pe_chain op_le op_le pe_int (pe_callB call_len_str rfl (fr_len T) b_len (pa_cons (pv 0) pa_nil)) (pe_glob (v := .int 8) rfl m_MOST_LETTERS ⟨_, rfl⟩)) (pe_one (pe_callB (cr_all rfl) rfl (fr_all T) b_all (pa_cons (pe_lc (own := [("sign", 1)]) rfl sc_is_name.nd (pi_str (pv 0)) (blkOk_by (N := N_is_name) (sc := defScope sd_is_name) (by decide +kernel)) (fun _ _ _ _ _ => (pg_name (i := 1) sc_is_name.nd rfl (Or.inl rfl))) (fun _ _ _ _ _ => pts_nil) (fun _ _ _ _ _ => (pe_cmpR op_in_sign (pv 1) (pe_glob (v := .str "abcdefghijklmnopqrstuvwxyz") rfl m_LETTERS ⟨_, rfl⟩) (by rfl)))) pa_nil))))))), ?_⟩
    refine ⟨_, rfl, v, .ty "str", _, _, _, rfl, .ty _, dp_ty hd, k_str d, _, rfl, ite_of (fun h1 => ?_) (fun h1 => ?_)⟩
    · obtain ⟨x, rfl⟩ : ∃ x, d = .str x := by cases d <;> first | exact ⟨_, rfl⟩ | cases h1
      obtain rfl := dp_str hd
      have hx := hl x rfl
      have e1 : isName (.str x) = ((decide ((1 : Int) ≤ x.length) && decide ((x.length : Int) ≤ 8)) && x.cps.toList.all fun c => decide (c ∈ letters)) := rfl
      rw [e1] at q
      refine ⟨_, rfl, x, rfl, sz hx, _, _, rfl, rfl, _, rfl, ite_of (fun h2 => ?_) (fun h2 => ?_)⟩
      · refine ⟨_, _, rfl, rfl, _, rfl, ite_of (fun h3 => ?_) (fun h3 => ?_)⟩
        · refine ⟨_, rfl, x, rfl, fun D hD => lc_it walk_str (fun i H' => Ex H H' ∧ H' D = some (.lst ((x.cps.toList.take i).map fun c => V.bl (decide (c ∈ letters))))) ?_ (fun _ _ _ _ => True.intro) ?_ ?_⟩
          · exact ⟨exu (Evl.Ex.refl H) hD, upd_same⟩
          · rintro i y H1 H2 hi ⟨k1, k2⟩ ⟨rfl, c, hc, rfl⟩
            refine ⟨rfl, ?_⟩
            refine ⟨_, rfl, c, _, rfl, rfl, _, k2, szl ?_, exm k1 hD, ?_⟩
            · have e2 : x.cps.size = x.length := rfl
              rw [List.length_map, List.length_take]
              omega
            · have hc' : x.cps.toList[i]? = some c := by simpa using hc
              rw [take_one hc', List.map_append, upd_same] <;> rfl
          · rintro H1 ⟨k1, k2⟩
            refine ⟨D, x.cps.toList.map fun c => decide (c ∈ letters), rfl, Evl.sq_of ?_, ?_⟩
            · have e4 : x.cps.size = x.cps.toList.length := by simp
              rw [k2, e4, List.take_length, List.map_map] <;> rfl
            · rw [h2, h3] at q
              have e3 : ((x.cps.toList.map fun c => decide (c ∈ letters)).all id) = x.cps.toList.all fun c => decide (c ∈ letters) := by simp [List.all_map]
              rw [e3]
              exact q H1 k1
        · rw [h2, h3] at q
          exact q H (Evl.Ex.refl H)
      · refine ⟨_, rfl, itF rfl ?_⟩
        rw [h2] at q
        exact q H (Evl.Ex.refl H)
    · have e : isName d = false := by cases d <;> first | rfl | cases h1
      rw [e] at q
      exact q H (Evl.Ex.refl H)
end
end Fc
set_option maxRecDepth 100000
set_option maxHeartbeats 4000000
namespace Fc
open PySem PySem.Spec PyProof.Rows L2 FcR
open Evl (Ex)
theorem at0 {α : Type} {v : α} {r : List α} : atI (v :: r) 0 = some v := atI_nat (j := 0) rfl
theorem at1 {α : Type} {u v : α} {r : List α} : atI (u :: v :: r) 1 = some v := atI_nat (j := 1) rfl
theorem at2 {α : Type} {t u v : α} {r : List α} : atI (t :: u :: v :: r) 2 = some v := atI_nat (j := 2) rfl
def szD (d : PyData) : Prop := ∀ k x r, d = .tuple (k :: .str x :: r) → x.length ≤ 100000
def sp_is_statement (K : PySem.W.Frag) : Sp := fun vs H Q _ => ∃ (v : V) (d : PyData) (loops : Int), vs = [v, .int loops] ∧ Dp K H v d ∧ PyData.canLay0 d = true ∧ szD d ∧ ∀ H', Ex H H' → Q (.bl (isStm d loops)) H'
theorem eqv_nil (ds : List PyData) : PyData.eqv (.tuple ds) (.tuple []) = ds.isEmpty := by
  cases ds <;> simp [PyData.eqv, PyData.eqvAll]
theorem min_nil (d : PyData) : min d.depth (PyData.tuple []).depth ≤ 200 := Nat.le_trans (Nat.min_le_right _ _) (by decide)
theorem inV_strs (k : Str) (l : List Str) : inV (.str k) (l.map V.str) = decide (k ∈ l) := by
  unfold inV
  rw [List.any_map]
  induction l with
  | nil => rfl
  | cons a l ih =>
    rw [List.any_cons, ih]
    show ((a == k) || decide (k ∈ l)) = decide (k ∈ a :: l)
    by_cases h : a = k
    · subst h; simp
    · have h2 : (a == k) = false := by simpa using h
      have h3 : ¬ k = a := fun e => h e.symm
      simp [h2, h3]
theorem flat_strs (l : List Str) : (l.map V.str).all flatV = true := by
  rw [List.all_map]
  exact List.all_eq_true.mpr fun _ _ => rfl
theorem named_two {k : Str} {n : Int} (h : k ∈ kNamed) (e : kSizes.lookup k = some n) : 2 ≤ n := by
  simp only [kNamed, List.mem_cons, List.not_mem_nil, or_false] at h
  rcases h with rfl | rfl | rfl | rfl
  · have : kSizes.lookup ("do" : Str) = some 2 := by decide +kernel
    rw [this] at e; cases e; decide
  · have : kSizes.lookup ("call" : Str) = some 2 := by decide +kernel
    rw [this] at e; cases e; decide
  · have : kSizes.lookup ("if" : Str) = some 4 := by decide +kernel
    rw [this] at e; cases e; decide
  · have : kSizes.lookup ("while" : Str) = some 3 := by decide +kernel
    rw [this] at e; cases e; decide
theorem jumps_two {k : Str} {n : Int} (h : k ∈ kJumps) (e : kSizes.lookup k = some n) : n = 2 := by
  simp only [kJumps, List.mem_cons, List.not_mem_nil, or_false] at h
  rcases h with rfl | rfl
  · have : kSizes.lookup ("break" : Str) = some 2 := by decide +kernel
    rw [this] at e; cases e; rfl
  · have : kSizes.lookup ("continue" : Str) = some 2 := by decide +kernel
    rw [this] at e; cases e; rfl
theorem seq_two {n : Int} (e : kSizes.lookup ("seq" : Str) = some n) : n = 2 := by
  have : kSizes.lookup ("seq" : Str) = some 2 := by decide +kernel
  rw [this] at e; cases e; rfl
theorem lookup_mem {k : Str} {n : Int} : ∀ {l : List (Str × Int)}, l.lookup k = some n → (k, n) ∈ l
  | [], h => by cases h
  | (a, b) :: l, h => by
    rw [List.lookup_cons] at h
    by_cases e : k = a
    · subst e
      have e2 : (k == k) = true := by simp
      rw [e2] at h
      cases h
      exact List.mem_cons_self
    · have e2 : (k == a) = false := by simpa using e
      rw [e2] at h
      exact List.mem_cons_of_mem _ (lookup_mem h)
theorem lookup_none {k : Str} : ∀ {l : List (Str × Int)}, l.lookup k = none → k ∉ l.map (·.1)
  | [], _ => fun h => by cases h
  | (a, b) :: l, h => by
    rw [List.lookup_cons] at h
    by_cases e : k = a
    · subst e
      have e2 : (k == k) = true := by simp
      rw [e2] at h
      cases h
    · have e2 : (k == a) = false := by simpa using e
      rw [e2] at h
      intro m
      rcases List.mem_cons.mp m with m | m
      · exact e m
      · exact lookup_none h m
section
variable {P : Program} {w : World} {h : Heap} {K : PySem.W.Frag} {mg : Str → Option Value} {base : Heap}
theorem sizes_ns (T : Tx w h K mg) (k : Str) : ∃ r, PySem.W.nsIn K (He.ga K "SIZES") k = some r ∧ (match kSizes.lookup k with
    | none => r = none
    | some n => ∃ u, r = some u ∧ RelV (.int n) u) := by
  cases e : kSizes.lookup k with
  | none => exact ⟨none, ns_none (dk_SIZES T) (lookup_none e), rfl⟩
  | some n =>
    have m := lookup_mem e
    have m2 : (k, He.Dv.int n) ∈ ([("do", .int 2), ("call", .int 2), ("if", .int 4), ("while", .int 3), ("seq", .int 2), ("break", .int 2), ("continue", .int 2), ("return", .int 1), ("raise", .int 1), ("try", .int 3), ("final", .int 3)] : List (Str × He.Dv)) :=
      List.mem_map_of_mem (f := fun q : Str × Int => (q.1, He.Dv.int q.2)) m
    obtain ⟨u, e1, e2⟩ := v_SIZES T m2
    exact ⟨some u, e1, u, rfl, e2⟩
abbrev N_is_statement : List Str := ["value", "loops"]
theorem sc_is_statement : FnScope N_is_statement ["value", "loops"] (defScope sd_is_statement) := ⟨rfl, rfl, rfl, by decide +kernel, rfl, by decide +kernel, by decide +kernel⟩
theorem ok_is_statement (T : Tx w h K mg) : Ok P w K mg base 3 ("is_statement", none) ["value", "loops"] (sp_is_statement K) := by
  obtain ⟨fd, F⟩ := F_is_statement T
  refine ⟨fd, ?_, F.bindsN (fun _ _ _ _ _ _ us hl => match us, hl with | [_, _], _ => rfl), F.kp⟩
  obtain ⟨fd_is_between, G_is_between, bi_is_between, kp_is_between⟩ := ok_is_between (P := P) (base := base) T
  obtain ⟨fd_is_name, G_is_name, bi_is_name, kp_is_name⟩ := ok_is_name (P := P) (base := base) T
  obtain ⟨es, nE, D⟩ := d_SIZES T
  refine F.ok sc_is_statement (fun vs H Q E h => ?_) (fun cdv A outer s H vs Q E hr h => ?_)
  · obtain ⟨v, d, loops, rfl, hd, hc, hz, q⟩ := h
    rfl
  · obtain ⟨v, d, loops, rfl, hd, hc, hz, q⟩ := h
    refine ⟨_, PSs.nox (pss_cons (ps_if (PW.pt (pw_or (pt_not (pt_val (pe_callB call_isi rfl (fr_isinstance T) b_isinstance (pa_cons (pv 0) (pa_cons (pe_bltn (v := .ty "tuple") rfl (fr_tuple T) b_tuple rfl) pa_nil))))) (pw_or (pt_cmpR (op_eqM hr) (pv 0) (pe_tup pa_nil) (nomark _)) (pw_or1 (pt_not (pt_val (pe_callB call_isi rfl (fr_isinstance T) b_isinstance (pa_cons (pe_ix ix_tup (pv 0) pe_int (fun _ _ => rfl)) (pa_cons (pe_bltn (v := .ty "str") rfl (fr_str T) b_str rfl) pa_nil))))))))) (pss_one (ps_ret pe_bl)) pss_nil) (pss_cons (ps_if (PW.pt (pw_or (pt_cmpR (op_notIn_kd D) (pe_ix ix_tup (pv 0) pe_int (fun _ _ => rfl)) (pe_glob (v := .ref (He.ga K "SIZES")) rfl (g_SIZES T) rfl) (by rfl)) (pw_or1 (pt_cmpR op_ne (pe_callB call_len_seq rfl (fr_len T) b_len (pa_cons (pv 0) pa_nil)) (pe_ix ix_kdict (pe_glob (v := .ref (He.ga K "SIZES")) rfl (g_SIZES T) rfl) (pe_ix ix_tup (pv 0) pe_int (fun _ _ => rfl)) (fun _ _ => rfl)) (nomark _))))) (pss_one (ps_ret pe_bl)) pss_nil) (pss_cons (ps_if (pt_cmpR op_in_seq (pe_ix ix_tup (pv 0) pe_int (fun _ _ => rfl)) (pe_glob (v := .ref (He.ga K "NAMED")) rfl (g_NAMED T) rfl) (by rfl)) (pss_one (ps_ret (pe_call G_is_name (hr.mono (by decide)) rfl (g_is_name T) kp_is_name bi_is_name .nil passF (pa_cons (pe_ix ix_tup (pv 0) pe_int (fun _ _ => rfl)) pa_nil)))) pss_nil) (pss_cons (ps_if (pt_cmpR op_in_seq (pe_ix ix_tup (pv 0) pe_int (fun _ _ => rfl)) (pe_glob (v := .ref (He.ga K "JUMPS")) rfl (g_JUMPS T) rfl) (by rfl)) (pss_one (ps_ret (pe_call G_is_between (hr.mono (by decide)) rfl (g_is_between T) kp_is_between bi_is_between .nil passF (pa_cons (pe_ix ix_tup (pv 0) pe_int (fun _ _ => rfl)) (pa_cons pe_int (pa_cons (pv 1) pa_nil)))))) pss_nil) (pss_one (ps_ret (pe_or (pe_cmpR op_ne (pe_ix ix_tup (pv 0) pe_int (fun _ _ => rfl)) pe_str (nomark _)) (pe_one (pe_and (pe_callB call_isi rfl (fr_isinstance T) b_isinstance (pa_cons (pe_ix ix_tup (pv 0) pe_int (fun _ _ => rfl)) (pa_cons (pe_bltn (v := .ty "tuple") rfl (fr_tuple T) b_tuple rfl) pa_nil))) (pe_one (pe_cmpR (op_neM hr) (pe_ix ix_tup (pv 0) pe_int (fun _ _ => rfl)) (pe_tup pa_nil) (nomark _)))))))))))), ?_⟩
    refine ⟨_, rfl, v, .ty "tuple", _, _, _, rfl, .ty _, dp_ty hd, k_tuple d, _, rfl, ite_of (fun h1 => ?_) (fun h1 => ?_)⟩
    · have e : isStm d loops = false := by cases d <;> first | rfl | cases h1
      rw [e] at q
      exact q H (Evl.Ex.refl H)
    obtain ⟨ds, rfl⟩ : ∃ ds, d = .tuple ds := by cases d <;> first | exact ⟨_, rfl⟩ | cases h1
    obtain ⟨a, xs, rfl, hS, hA⟩ := dp_tup hd
    -- value == ()
    refine ⟨_, rfl, sz (by decide), fun p hp => ?_⟩
    have x1 : Ex H (upd H p (.tup [])) := exu (Evl.Ex.refl H) hp
    refine ⟨.tuple ds, .tuple [], dp_ex x1 hd, .tup (Evl.st_of upd_same) .nil, hc, rfl, min_nil _, _, rfl, ite_of (fun h2 => ?_) (fun h2 => ?_)⟩
    · rw [eqv_nil] at h2
      cases ds with
      | nil => exact q _ x1
      | cons _ _ => cases h2
    rw [eqv_nil] at h2
    cases hA with
    | nil => cases h2
    | @cons v0 xr d0 dr h0 hA =>
    have hS1 := Evl.ex_t x1 hS
    -- not isinstance(value[0], str)
    refine ⟨_, rfl, a, _, _, _, rfl, rfl, hS1, at0, v0, .ty "str", _, _, _, rfl, .ty _, dp_ty (dp_ex x1 h0), k_str d0, _, rfl, ite_of (fun h3 => ?_) (fun h3 => ?_)⟩
    · have e : isStm (.tuple (d0 :: dr)) loops = false := by cases d0 <;> first | rfl | cases h3
      rw [e] at q
      exact q _ x1
    obtain ⟨k, rfl⟩ : ∃ k, d0 = .str k := by cases d0 <;> first | exact ⟨_, rfl⟩ | cases h3
    obtain rfl := dp_str h0
    have el := dpA_len hA
    obtain ⟨r, n1, n2⟩ := sizes_ns T k
    -- value[0] not in SIZES
    refine ⟨_, rfl, a, _, _, _, rfl, rfl, hS1, at0, k, r, rfl, rfl, n1, _, rfl, ite_of (fun h4 => ?_) (fun h4 => ?_)⟩
    · have e : isStm (.tuple (.str k :: dr)) loops = false := by
        cases e1 : kSizes.lookup k with
        | none => simp only [isStm, e1]
        | some n =>
          rw [e1] at n2
          obtain ⟨u, rfl, _⟩ := n2
          cases h4
      rw [e] at q
      exact q _ x1
    cases e1 : kSizes.lookup k with
    | none =>
      rw [e1] at n2
      subst n2
      cases h4
    | some n =>
    rw [e1] at n2
    obtain ⟨u, rfl, ru⟩ := n2
    have q' : ∀ b, (isStm (.tuple (.str k :: dr)) loops = b) → ∀ H', Ex H H' → Q (.bl b) H' := fun b e => by rw [← e]; exact q
    -- len(value) != SIZES[value[0]]
    refine ⟨_, rfl, a, _, rfl, .inr hS1, _, rfl, a, _, _, _, rfl, rfl, hS1, at0, _, k, .int n, rfl, rfl, ⟨es, nE, u, D.at_, D.lit, n1, ru⟩, rfl, _, rfl, ite_of (fun h5 => ?_) (fun h5 => ?_)⟩
    · refine q' false ?_ _ x1
      have h6 : ¬ ((dr.length : Int) + 1 = n) := by
        intro e
        have : decide (V.int ((V.str k :: xr).length : Int) = V.int n) = true := decide_eq_true (by rw [List.length_cons, el]; congr 1)
        rw [this] at h5
        cases h5
      simp only [isStm, e1, if_pos h6]
    have hn : (dr.length : Int) + 1 = n := by
      have h6 : decide (V.int ((V.str k :: xr).length : Int) = V.int n) = true := by
        cases z : decide (V.int ((V.str k :: xr).length : Int) = V.int n) with
        | true => rfl
        | false => rw [z] at h5; cases h5
      have h7 := V.int.inj (of_decide_eq_true h6)
      rw [List.length_cons, el] at h7
      omega
    have es0 : isStm (.tuple (.str k :: dr)) loops = (if k ∈ kNamed then isName (dr.getD 0 .none) else if k ∈ kJumps then isNum 1 loops (dr.getD 0 .none) else (if k ≠ "seq" then true else nonEmptyT (dr.getD 0 .none))) := by
      simp only [isStm, e1, if_neg (show ¬ ((dr.length : Int) + 1 ≠ n) from fun z => z hn)]
    -- value[0] in NAMED
    refine ⟨_, rfl, a, _, _, _, rfl, rfl, hS1, at0, He.ga K "NAMED", _, rfl, .inr (t_NAMED T _), rfl, flat_strs kNamed, _, rfl, ite_of (fun h6 => ?_) (fun h6 => ?_)⟩
    · have h6 : inV (.str k) (kNamed.map V.str) = true := h6
      rw [inV_strs] at h6
      have hk := of_decide_eq_true h6
      have n2 := named_two hk e1
      cases hA with
      | nil => simp at hn; omega
      | @cons v1 xr d1 dr g1 hA =>
      refine ⟨_, rfl, a, _, _, _, rfl, rfl, hS1, at1, v1, d1, rfl, dp_ex x1 g1, fun x e => hz (.str k) x dr (by rw [e]), fun H' x2 => q' _ ?_ H' (x1.trans x2)⟩
      rw [es0, if_pos hk] <;> rfl
    have h6 : inV (.str k) (kNamed.map V.str) = false := h6
    rw [inV_strs] at h6
    have hk : ¬ k ∈ kNamed := of_decide_eq_false h6
    -- value[0] in JUMPS
    refine ⟨_, rfl, a, _, _, _, rfl, rfl, hS1, at0, He.ga K "JUMPS", _, rfl, .inr (t_JUMPS T _), rfl, flat_strs kJumps, _, rfl, ite_of (fun h7 => ?_) (fun h7 => ?_)⟩
    · have h7 : inV (.str k) (kJumps.map V.str) = true := h7
      rw [inV_strs] at h7
      have hj := of_decide_eq_true h7
      have n2 := jumps_two hj e1
      cases hA with
      | nil => simp at hn; omega
      | @cons v1 xr d1 dr g1 hA =>
      have e2 : isStm (.tuple (.str k :: d1 :: dr)) loops = isNum 1 loops d1 := by rw [es0, if_neg hk, if_pos hj] <;> rfl
      refine ⟨_, rfl, a, _, _, _, rfl, rfl, hS1, at1, _, rfl, v1, 1, loops, rfl, ?_⟩
      cases d1 with
      | int m =>
        obtain rfl := dp_int g1
        exact .inl ⟨m, rfl, q' _ e2 _ x1⟩
      | _ => exact .inr ⟨_, _, _, dp_ty (dp_ex x1 g1), k_int _, k_bool _, rfl, q' _ e2 _ x1⟩
    have h7 : inV (.str k) (kJumps.map V.str) = false := h7
    rw [inV_strs] at h7
    have hj : ¬ k ∈ kJumps := of_decide_eq_false h7
    rw [if_neg hk, if_neg hj] at es0
    -- value[0] != 'seq' or ..
    refine ⟨_, rfl, a, _, _, _, rfl, rfl, hS1, at0, rfl, _, rfl, ite_of (fun h8 => ?_) (fun h8 => ?_)⟩
    · have hs : k ≠ "seq" := by
        intro e
        subst e
        have z : decide (V.str "seq" = V.str "seq") = true := decide_eq_true rfl
        rw [z] at h8
        cases h8
      exact q' true (by rw [es0, if_pos hs]) _ x1
    have hs : k = "seq" := by
      cases z : decide (V.str k = V.str "seq") with
      | true => exact V.str.inj (of_decide_eq_true z)
      | false => rw [z] at h8; cases h8
    subst hs
    have n2 := seq_two e1
    cases hA with
    | nil => simp at hn; omega
    | @cons v1 xr d1 dr g1 hA =>
    rw [if_neg (fun z => z rfl)] at es0
    refine ⟨_, rfl, a, _, _, _, rfl, rfl, hS1, at1, v1, .ty "tuple", _, _, _, rfl, .ty _, dp_ty (dp_ex x1 g1), k_tuple d1, _, rfl, ite_of (fun h9 => ?_) (fun h9 => ?_)⟩
    · obtain ⟨es2, rfl⟩ : ∃ ds, d1 = .tuple ds := by cases d1 <;> first | exact ⟨_, rfl⟩ | cases h9
      refine ⟨_, rfl, a, _, _, _, rfl, rfl, hS1, at1, sz (by decide), fun p2 hp2 => ?_⟩
      have x2 : Ex H (upd (upd H p (.tup [])) p2 (.tup [])) := exu x1 hp2
      have hc1 : PyData.canLay0 (.tuple es2) = true := by
        have z : (PyData.canLay0 (.str "seq") && (PyData.canLay0 (.tuple es2) && PyData.canLayAll0 dr)) = true := hc
        exact (Bool.and_eq_true_iff.mp (Bool.and_eq_true_iff.mp z).2).1
      refine ⟨.tuple es2, .tuple [], dp_ex x2 g1, .tup (Evl.st_of upd_same) .nil, hc1, rfl, min_nil _, q' _ ?_ _ x2⟩
      rw [es0, eqv_nil]
      cases es2 <;> rfl
    · refine q' false ?_ _ x1
      rw [es0]
      cases d1 <;> first | rfl | cases h9
end
end Fc
set_option maxRecDepth 100000
set_option maxHeartbeats 4000000
namespace Fc
open PySem PySem.Spec PyProof.Rows L2 FcR
open Evl (Ex)
theorem sl_any {K : PySem.W.Frag} {H : Hp} {a : Addr} {xs : List V} {lo hi : Option Int} {Q : VK} (hS : SqT K H a xs) (k : ∀ p H', Ex H H' → SqT K H' p (cutV xs lo hi) → Q (.ref p) H') : rSlA K (.ref a) lo hi H Q := by
  refine ⟨a, xs, rfl, hS, fun h => k a H (Evl.Ex.refl H) ?_, fun _ p hp => k p _ (exu (Evl.Ex.refl H) hp) (Evl.st_of upd_same)⟩
  have e : cutV xs lo hi = xs := by
    unfold cutV
    rw [h.1, h.2]
    simp
  rw [e]
  exact hS
theorem cut_from (xs : List V) (n : Nat) : cutV xs (some (n : Int)) none = xs.drop n := by
  unfold cutV
  rw [HT.sIx_none, HT.sIx_nat]
  by_cases h : n ≤ xs.length
  · rw [Nat.min_eq_left h, List.take_of_length_le (by rw [List.length_drop]; omega)]
  · rw [Nat.min_eq_right (by omega), List.drop_eq_nil_of_le (by omega), List.drop_eq_nil_of_le (by omega)]
    simp
theorem cut_to (xs : List V) (n : Nat) : cutV xs none (some (n : Int)) = xs.take n := by
  unfold cutV
  rw [HT.sIx_none, HT.sIx_nat]
  simp only [List.drop_zero, Nat.sub_zero]
  by_cases h : n ≤ xs.length
  · rw [Nat.min_eq_left h]
  · rw [Nat.min_eq_right (by omega), List.take_of_length_le (Nat.le_refl _), List.take_of_length_le (by omega)]
def sp_parts_in (K : PySem.W.Frag) : Sp := fun vs H Q _ => ∃ (F : Hp) (v : V) (d : PyData) (loops : Int), vs = [v] ∧ Ex F H ∧ Dp K F v d ∧ isStm d loops = true ∧
  ∀ p H' xs, H p = none → Ex H H' → H' p = some (.lst xs) → DpAll K F xs (partsD d) → Q (.ref p) H'
theorem isStm_shape {d : PyData} {loops : Int} (h : isStm d loops = true) : ∃ k r n, d = .tuple (.str k :: r) ∧ kSizes.lookup k = some n ∧ (r.length : Int) + 1 = n ∧
    (if k ∈ kNamed then isName (r.getD 0 .none) else if k ∈ kJumps then isNum 1 loops (r.getD 0 .none) else (if k ≠ "seq" then true else nonEmptyT (r.getD 0 .none))) = true := by
  unfold isStm at h
  split at h
  · rename_i k r
    split at h
    · cases h
    · rename_i n e
      split at h
      · cases h
      · rename_i hn
        exact ⟨k, r, n, rfl, e, Decidable.not_not.mp hn, h⟩
  · cases h
theorem fresh_up {H H' : Hp} {p : Addr} (e : Ex H H') (h : H' p = none) : H p = none := Evl.fresh_back e h
section
variable {P : Program} {w : World} {h : Heap} {K : PySem.W.Frag} {mg : Str → Option Value} {base : Heap}
abbrev N_parts_in : List Str := ["statement"]
theorem sc_parts_in : FnScope N_parts_in ["statement"] (defScope sd_parts_in) := ⟨rfl, rfl, rfl, by decide +kernel, rfl, by decide +kernel, by decide +kernel⟩
theorem ok_parts_in (T : Tx w h K mg) : Ok P w K mg base 1 ("parts_in", none) ["statement"] (sp_parts_in K) := by
  obtain ⟨fd, F⟩ := F_parts_in T
  refine ⟨fd, ?_, F.bindsN (fun _ _ _ _ _ _ us hl => match us, hl with | [_], _ => rfl), F.kp⟩
  obtain ⟨tm_MOST_STATEMENTS, m_MOST_STATEMENTS⟩ := i_MOST_STATEMENTS T
  refine F.ok sc_parts_in (fun vs H Q E h => ?_) (fun cdv A outer s H vs Q E hr h => ?_)
  · obtain ⟨F0, v, d, loops, rfl, xF, hd, hs, q⟩ := h
    rfl
  · obtain ⟨F0, v, d, loops, rfl, xF, hd, hs, q⟩ := h
    refine ⟨_, PSs.nox (pss_cons (ps_if (pt_cmpR op_eq (pe_ix ix_tup (pv 0) pe_int (fun _ _ => rfl)) pe_str (nomark _)) (pss_one (ps_ret (pe_callTy call_list_of rfl (fr_list T) b_list (pa_cons (pe_slice sl_tupA (pe_ix ix_tup (pv 0) pe_int (fun _ _ => rfl)) po_none (po_some (pe_op op_add (pe_glob (v := .int 400) rfl m_MOST_STATEMENTS ⟨_, rfl⟩) pe_int))) pa_nil)))) pss_nil) (pss_cons (ps_if (pt_cmpR op_in_seq (pe_ix ix_tup (pv 0) pe_int (fun _ _ => rfl)) (pe_glob (v := .ref (He.ga K "NAMED")) rfl (g_NAMED T) rfl) (by rfl)) (pss_one (ps_ret (pe_callTy call_list_of rfl (fr_list T) b_list (pa_cons (pe_slice sl_tupA (pv 0) (po_some pe_int) po_none) pa_nil)))) pss_nil) (pss_one (ps_ret (pe_ifExp (pt_cmpR op_in_seq (pe_ix ix_tup (pv 0) pe_int (fun _ _ => rfl)) (pe_tup (pa_cons pe_str (pa_cons pe_str pa_nil))) (by rfl)) (pe_callTy call_list_of rfl (fr_list T) b_list (pa_cons (pe_slice sl_tupA (pv 0) (po_some pe_int) po_none) pa_nil)) (pe_lst pa_nil)))))), ?_⟩
    obtain ⟨k, r, n, rfl, e1, hn, hs⟩ := isStm_shape hs
    obtain ⟨a, xs, rfl, hS, hA⟩ := dp_tup hd
    have hS := Evl.ex_t xF hS
    cases hA with
    | @cons v0 xr _ _ h0 hA =>
    obtain rfl := dp_str h0
    refine ⟨_, rfl, a, _, _, _, rfl, rfl, hS, at0, rfl, _, rfl, ite_of (fun h1 => ?_) (fun h1 => ?_)⟩
    · have hk : k = "seq" := V.str.inj (of_decide_eq_true h1)
      subst hk
      have n2 := seq_two e1
      have nn : ¬ (("seq" : Str) ∈ kNamed) := by decide +kernel
      have nj : ¬ (("seq" : Str) ∈ kJumps) := by decide +kernel
      rw [if_neg nn, if_neg nj, if_neg (fun z => z rfl)] at hs
      cases hA with
      | nil => simp at hn; omega
      | @cons v1 xr d1 dr g1 hA =>
      obtain ⟨ps, rfl⟩ : ∃ ps, d1 = .tuple ps := by cases d1 <;> first | exact ⟨_, rfl⟩ | cases hs
      obtain ⟨b, ys, rfl, gS, gA⟩ := dp_tup g1
      have gS := Evl.ex_t xF gS
      refine ⟨_, rfl, a, _, _, _, rfl, rfl, hS, at1, _, _, rfl, rfl, _, rfl, ?_⟩
      refine sl_any (lo := none) gS fun p H1 x1 s1 => ?_
      refine ⟨p, _, rfl, .inr s1, fun l hl => q l _ _ (fresh_up x1 hl) (exu x1 hl) upd_same ?_⟩
      rw [show ((400 : Int) + 1) = ((401 : Nat) : Int) from rfl, cut_to]
      exact dpA_take 401 gA
    have hk : ¬ k = "seq" := fun e => by
      have z : decide (V.str k = V.str "seq") = true := decide_eq_true (by rw [e])
      rw [z] at h1
      cases h1
    refine ⟨_, rfl, a, _, _, _, rfl, rfl, hS, at0, He.ga K "NAMED", _, rfl, .inr (t_NAMED T _), rfl, flat_strs kNamed, _, rfl, ite_of (fun h2 => ?_) (fun h2 => ?_)⟩
    · have h2 : inV (.str k) (kNamed.map V.str) = true := h2
      rw [inV_strs] at h2
      have hm := of_decide_eq_true h2
      refine ⟨_, rfl, _, rfl, ?_⟩
      dsimp only [tNoPart]
      refine sl_any (hi := none) hS fun p H1 x1 s1 => ?_
      refine ⟨p, _, rfl, .inr s1, fun l hl => q l _ _ (fresh_up x1 hl) (exu x1 hl) upd_same ?_⟩
      rw [show (2 : Int) = ((2 : Nat) : Int) from rfl, cut_from]
      show DpAll K F0 (xr.drop 1) (partsD (.tuple (.str k :: r)))
      rw [show partsD (.tuple (.str k :: r)) = r.drop 1 from by simp only [partsD, if_neg hk, if_pos hm]]
      exact dpA_drop 1 hA
    have h2 : inV (.str k) (kNamed.map V.str) = false := h2
    rw [inV_strs] at h2
    have hm : ¬ k ∈ kNamed := of_decide_eq_false h2
    refine ⟨_, rfl, a, _, _, _, rfl, rfl, hS, at0, sz (by decide), fun p0 hp0 => ⟨p0, _, rfl, .inr (Evl.st_of upd_same), rfl, flat_strs ["try", "final"], _, rfl, ite_of (fun h3 => ?_) (fun h3 => ?_)⟩⟩
    · have h3 : inV (.str k) ((["try", "final"] : List Str).map V.str) = true := h3
      rw [inV_strs] at h3
      have ht : k = "try" ∨ k = "final" := by simpa using of_decide_eq_true h3
      have x0 : Ex H (upd H p0 (.tup [.str "try", .str "final"])) := exu (Evl.Ex.refl H) hp0
      refine ⟨_, rfl, _, rfl, ?_⟩
      dsimp only [tNoPart]
      refine sl_any (hi := none) (Evl.ex_t x0 hS) fun p H1 x1 s1 => ?_
      have x2 := x0.trans x1
      refine ⟨p, _, rfl, .inr s1, fun l hl => q l _ _ (fresh_up x2 hl) (exu x2 hl) upd_same ?_⟩
      rw [show (1 : Int) = ((1 : Nat) : Int) from rfl, cut_from]
      show DpAll K F0 xr (partsD (.tuple (.str k :: r)))
      rw [show partsD (.tuple (.str k :: r)) = r from by simp only [partsD, if_neg hk, if_neg hm, if_pos ht]]
      exact hA
    · have h3 : inV (.str k) ((["try", "final"] : List Str).map V.str) = false := h3
      rw [inV_strs] at h3
      have ht : ¬ (k = "try" ∨ k = "final") := by simpa using of_decide_eq_false h3
      have x0 : Ex H (upd H p0 (.tup [.str "try", .str "final"])) := exu (Evl.Ex.refl H) hp0
      refine ⟨sz (by decide), fun l hl => q l _ _ (fresh_up x0 hl) (exu x0 hl) upd_same ?_⟩
      rw [show partsD (.tuple (.str k :: r)) = [] from by simp only [partsD, if_neg hk, if_neg hm, if_neg ht]]
      exact .nil
end
end Fc
set_option maxRecDepth 100000
set_option maxHeartbeats 4000000
namespace Fc
open PySem PySem.Spec PyProof.Rows L2 FcR
open Evl (Ex)
def fl_Code (v0 v1 v2 v3 v4 : V) : List (Str × V) := [("statements", v0), ("kinds", v1), ("labels", v2), ("parents", v3), ("children", v4)]
theorem fl_Code_statements (v0 v1 v2 v3 v4 : V) : (fl_Code v0 v1 v2 v3 v4).lookup ("statements" : Str) = some v0 := by kernel_rfl
theorem fl_Code_kinds (v0 v1 v2 v3 v4 : V) : (fl_Code v0 v1 v2 v3 v4).lookup ("kinds" : Str) = some v1 := by kernel_rfl
theorem fl_Code_labels (v0 v1 v2 v3 v4 : V) : (fl_Code v0 v1 v2 v3 v4).lookup ("labels" : Str) = some v2 := by kernel_rfl
theorem fl_Code_parents (v0 v1 v2 v3 v4 : V) : (fl_Code v0 v1 v2 v3 v4).lookup ("parents" : Str) = some v3 := by kernel_rfl
theorem fl_Code_children (v0 v1 v2 v3 v4 : V) : (fl_Code v0 v1 v2 v3 v4).lookup ("children" : Str) = some v4 := by kernel_rfl
theorem fm_Code_check (v0 v1 v2 v3 v4 : V) : (fl_Code v0 v1 v2 v3 v4).lookup ("check" : Str) = none := by kernel_rfl
theorem fm_Code_keep (v0 v1 v2 v3 v4 : V) : (fl_Code v0 v1 v2 v3 v4).lookup ("keep" : Str) = none := by kernel_rfl
theorem fm_Code_check_number (v0 v1 v2 v3 v4 : V) : (fl_Code v0 v1 v2 v3 v4).lookup ("check_number" : Str) = none := by kernel_rfl
theorem fm_Code_kind (v0 v1 v2 v3 v4 : V) : (fl_Code v0 v1 v2 v3 v4).lookup ("kind" : Str) = none := by kernel_rfl
theorem fm_Code_is_place (v0 v1 v2 v3 v4 : V) : (fl_Code v0 v1 v2 v3 v4).lookup ("is_place" : Str) = none := by kernel_rfl
theorem fm_Code_places (v0 v1 v2 v3 v4 : V) : (fl_Code v0 v1 v2 v3 v4).lookup ("places" : Str) = none := by kernel_rfl
theorem fi_Code_0 (v0 : V) : putF "statements" v0 ([] : List (Str × V)) = ([(("statements" : Str), v0)] : List (Str × V)) := by kernel_rfl
theorem fi_Code_1 (v0 v1 : V) : putF "kinds" v1 ([(("statements" : Str), v0)] : List (Str × V)) = ([(("statements" : Str), v0), (("kinds" : Str), v1)] : List (Str × V)) := by kernel_rfl
theorem fi_Code_2 (v0 v1 v2 : V) : putF "labels" v2 ([(("statements" : Str), v0), (("kinds" : Str), v1)] : List (Str × V)) = ([(("statements" : Str), v0), (("kinds" : Str), v1), (("labels" : Str), v2)] : List (Str × V)) := by kernel_rfl
theorem fi_Code_3 (v0 v1 v2 v3 : V) : putF "parents" v3 ([(("statements" : Str), v0), (("kinds" : Str), v1), (("labels" : Str), v2)] : List (Str × V)) = ([(("statements" : Str), v0), (("kinds" : Str), v1), (("labels" : Str), v2), (("parents" : Str), v3)] : List (Str × V)) := by kernel_rfl
theorem fi_Code_4 (v0 v1 v2 v3 v4 : V) : putF "children" v4 ([(("statements" : Str), v0), (("kinds" : Str), v1), (("labels" : Str), v2), (("parents" : Str), v3)] : List (Str × V)) = ([(("statements" : Str), v0), (("kinds" : Str), v1), (("labels" : Str), v2), (("parents" : Str), v3), (("children" : Str), v4)] : List (Str × V)) := by kernel_rfl
end Fc
set_option maxRecDepth 100000
set_option maxHeartbeats 4000000
namespace Fc
open PySem PySem.Spec PyProof.Rows L2 FcR
open Evl (Ex)
structure Row where
  d : PyData
  par : Option Nat
  ch : List Nat
def kindD : PyData → Str
  | .tuple (.str k :: _) => k
  | _ => ""
def kLab : List Str := kNamed ++ kJumps
def labD : PyData → V
  | .tuple (.str k :: r) => if k ∈ kLab then (match r with
      | .str x :: _ => .str x
      | .int n :: _ => .int n
      | _ => .non) else .non
  | _ => .non
def parV : Option Nat → V
  | none => .non
  | some i => .int (i : Int)
def intsV (l : List Nat) : List V := l.map fun n : Nat => V.int (n : Int)
/-- where a code's lists stand -/
structure CAd where
  p : Addr
  dx : Addr
  a1 : Addr
  a2 : Addr
  a3 : Addr
  a4 : Addr
  a5 : Addr
  cs : List Addr
def CAd.all (A : CAd) : List Addr := A.p :: A.a1 :: A.a2 :: A.a3 :: A.a4 :: A.a5 :: A.cs
def cFs (A : CAd) : List (Str × V) := fl_Code (.ref A.a1) (.ref A.a2) (.ref A.a3) (.ref A.a4) (.ref A.a5)
/-- a code's lists as they stand in H -/
structure CL (K : PySem.W.Frag) (H : Hp) (A : CAd) (L1 L2 L3 L4 : List V) (Cs : List (List V)) : Prop where
  ob : H A.p = some (.ins (He.ga K "Code") A.dx (cFs A))
  h1 : H A.a1 = some (.lst L1)
  h2 : H A.a2 = some (.lst L2)
  h3 : H A.a3 = some (.lst L3)
  h4 : H A.a4 = some (.lst L4)
  h5 : H A.a5 = some (.lst (A.cs.map V.ref))
  cl : A.cs.length = Cs.length
  cc : ∀ (i : Nat) (c : Addr) (x : List V), A.cs[i]? = some c → Cs[i]? = some x → H c = some (.lst x)
  nd : A.all.Nodup
section
variable {K : PySem.W.Frag} {F H H' : Hp} {A : CAd} {L1 L2 L3 L4 : List V} {Cs : List (List V)}
theorem CL.ex (x : CL K H A L1 L2 L3 L4 Cs) (e : Ex H H') : CL K H' A L1 L2 L3 L4 Cs :=
  ⟨e _ _ x.ob, e _ _ x.h1, e _ _ x.h2, e _ _ x.h3, e _ _ x.h4, e _ _ x.h5, x.cl, fun i c y h1 h2 => e _ _ (x.cc i c y h1 h2), x.nd⟩
theorem CL.ne (x : CL K H A L1 L2 L3 L4 Cs) :
    (A.p ≠ A.a1 ∧ A.p ≠ A.a2 ∧ A.p ≠ A.a3 ∧ A.p ≠ A.a4 ∧ A.p ≠ A.a5 ∧ A.p ∉ A.cs) ∧ (A.a1 ≠ A.a2 ∧ A.a1 ≠ A.a3 ∧ A.a1 ≠ A.a4 ∧ A.a1 ≠ A.a5 ∧ A.a1 ∉ A.cs) ∧
    (A.a2 ≠ A.a3 ∧ A.a2 ≠ A.a4 ∧ A.a2 ≠ A.a5 ∧ A.a2 ∉ A.cs) ∧ (A.a3 ≠ A.a4 ∧ A.a3 ≠ A.a5 ∧ A.a3 ∉ A.cs) ∧ (A.a4 ≠ A.a5 ∧ A.a4 ∉ A.cs) ∧ A.a5 ∉ A.cs ∧ A.cs.Nodup := by
  have z := x.nd
  simp only [CAd.all, List.nodup_cons, List.mem_cons, not_or] at z
  exact ⟨z.1, z.2.1, z.2.2.1, z.2.2.2.1, z.2.2.2.2.1, z.2.2.2.2.2⟩
theorem CL.there (x : CL K H A L1 L2 L3 L4 Cs) {b : Addr} (hb : b ∈ A.all) : ∃ o, H b = some o := by
  simp only [CAd.all, List.mem_cons] at hb
  rcases hb with rfl | rfl | rfl | rfl | rfl | rfl | hb
  · exact ⟨_, x.ob⟩
  · exact ⟨_, x.h1⟩
  · exact ⟨_, x.h2⟩
  · exact ⟨_, x.h3⟩
  · exact ⟨_, x.h4⟩
  · exact ⟨_, x.h5⟩
  · obtain ⟨i, hi⟩ := List.mem_iff_getElem?.mp hb
    have l : i < Cs.length := by rw [← x.cl]; exact (List.getElem?_eq_some_iff.mp hi).1
    exact ⟨_, x.cc i b _ hi (List.getElem?_eq_getElem l)⟩
theorem CL.fresh (x : CL K H A L1 L2 L3 L4 Cs) {q : Addr} (h : H q = none) : q ∉ A.all := fun z => by
  obtain ⟨o, e⟩ := x.there z
  rw [h] at e
  cases e
theorem CL.off (x : CL K H A L1 L2 L3 L4 Cs) {q : Addr} {o : HO} (h : q ∉ A.all) : CL K (upd H q o) A L1 L2 L3 L4 Cs := by
  have n : ∀ {b : Addr}, b ∈ A.all → b ≠ q := fun hb e => h (e ▸ hb)
  have mc : ∀ {c : Addr}, c ∈ A.cs → c ∈ A.all := fun hc => by simp [CAd.all, hc]
  exact ⟨by rw [upd_ne (n (by simp [CAd.all]))]; exact x.ob, by rw [upd_ne (n (by simp [CAd.all]))]; exact x.h1, by rw [upd_ne (n (by simp [CAd.all]))]; exact x.h2, by rw [upd_ne (n (by simp [CAd.all]))]; exact x.h3,
    by rw [upd_ne (n (by simp [CAd.all]))]; exact x.h4, by rw [upd_ne (n (by simp [CAd.all]))]; exact x.h5, x.cl, fun i c y h1 h2 => by rw [upd_ne (n (mc (List.mem_of_getElem? h1)))]; exact x.cc i c y h1 h2, x.nd⟩
theorem nin {c b : Addr} {l : List Addr} (h : b ∉ l) (hc : c ∈ l) : c ≠ b := fun e => h (e ▸ hc)
theorem CL.s1 (x : CL K H A L1 L2 L3 L4 Cs) (y : List V) : CL K (upd H A.a1 (.lst y)) A y L2 L3 L4 Cs := by
  obtain ⟨⟨n1, n2, n3, n4, n5, n6⟩, ⟨m12, m13, m14, m15, m1⟩, ⟨m23, m24, m25, m2⟩, ⟨m34, m35, m3⟩, ⟨m45, m4⟩, m5, m6⟩ := x.ne
  exact ⟨by rw [upd_ne n1]; exact x.ob, upd_same, by rw [upd_ne m12.symm]; exact x.h2, by rw [upd_ne m13.symm]; exact x.h3, by rw [upd_ne m14.symm]; exact x.h4, by rw [upd_ne m15.symm]; exact x.h5, x.cl,
    fun i c z g1 g2 => by rw [upd_ne (nin m1 (List.mem_of_getElem? g1))]; exact x.cc i c z g1 g2, x.nd⟩
theorem CL.s2 (x : CL K H A L1 L2 L3 L4 Cs) (y : List V) : CL K (upd H A.a2 (.lst y)) A L1 y L3 L4 Cs := by
  obtain ⟨⟨n1, n2, n3, n4, n5, n6⟩, ⟨m12, m13, m14, m15, m1⟩, ⟨m23, m24, m25, m2⟩, ⟨m34, m35, m3⟩, ⟨m45, m4⟩, m5, m6⟩ := x.ne
  exact ⟨by rw [upd_ne n2]; exact x.ob, by rw [upd_ne m12]; exact x.h1, upd_same, by rw [upd_ne m23.symm]; exact x.h3, by rw [upd_ne m24.symm]; exact x.h4, by rw [upd_ne m25.symm]; exact x.h5, x.cl,
    fun i c z g1 g2 => by rw [upd_ne (nin m2 (List.mem_of_getElem? g1))]; exact x.cc i c z g1 g2, x.nd⟩
theorem CL.s3 (x : CL K H A L1 L2 L3 L4 Cs) (y : List V) : CL K (upd H A.a3 (.lst y)) A L1 L2 y L4 Cs := by
  obtain ⟨⟨n1, n2, n3, n4, n5, n6⟩, ⟨m12, m13, m14, m15, m1⟩, ⟨m23, m24, m25, m2⟩, ⟨m34, m35, m3⟩, ⟨m45, m4⟩, m5, m6⟩ := x.ne
  exact ⟨by rw [upd_ne n3]; exact x.ob, by rw [upd_ne m13]; exact x.h1, by rw [upd_ne m23]; exact x.h2, upd_same, by rw [upd_ne m34.symm]; exact x.h4, by rw [upd_ne m35.symm]; exact x.h5, x.cl,
    fun i c z g1 g2 => by rw [upd_ne (nin m3 (List.mem_of_getElem? g1))]; exact x.cc i c z g1 g2, x.nd⟩
theorem CL.s4 (x : CL K H A L1 L2 L3 L4 Cs) (y : List V) : CL K (upd H A.a4 (.lst y)) A L1 L2 L3 y Cs := by
  obtain ⟨⟨n1, n2, n3, n4, n5, n6⟩, ⟨m12, m13, m14, m15, m1⟩, ⟨m23, m24, m25, m2⟩, ⟨m34, m35, m3⟩, ⟨m45, m4⟩, m5, m6⟩ := x.ne
  exact ⟨by rw [upd_ne n4]; exact x.ob, by rw [upd_ne m14]; exact x.h1, by rw [upd_ne m24]; exact x.h2, by rw [upd_ne m34]; exact x.h3, upd_same, by rw [upd_ne m45.symm]; exact x.h5, x.cl,
    fun i c z g1 g2 => by rw [upd_ne (nin m4 (List.mem_of_getElem? g1))]; exact x.cc i c z g1 g2, x.nd⟩
theorem nd_get {α : Type} {l : List α} (h : l.Nodup) {i j : Nat} {x : α} (hi : l[i]? = some x) (hj : l[j]? = some x) : i = j := by
  obtain ⟨h1, e1⟩ := List.getElem?_eq_some_iff.mp hi
  obtain ⟨h2, e2⟩ := List.getElem?_eq_some_iff.mp hj
  exact (List.getElem_inj h).mp (e1.trans e2.symm)
theorem CL.child (x : CL K H A L1 L2 L3 L4 Cs) {i : Nat} {c : Addr} (hc : A.cs[i]? = some c) (y : List V) : CL K (upd H c (.lst y)) A L1 L2 L3 L4 (Cs.set i y) := by
  obtain ⟨⟨n1, n2, n3, n4, n5, n6⟩, ⟨m12, m13, m14, m15, m1⟩, ⟨m23, m24, m25, m2⟩, ⟨m34, m35, m3⟩, ⟨m45, m4⟩, m5, m6⟩ := x.ne
  have hm : c ∈ A.cs := List.mem_of_getElem? hc
  refine ⟨by rw [upd_ne (nin n6 hm).symm]; exact x.ob, by rw [upd_ne (nin m1 hm).symm]; exact x.h1, by rw [upd_ne (nin m2 hm).symm]; exact x.h2, by rw [upd_ne (nin m3 hm).symm]; exact x.h3, by rw [upd_ne (nin m4 hm).symm]; exact x.h4,
    by rw [upd_ne (nin m5 hm).symm]; exact x.h5, by rw [List.length_set]; exact x.cl, fun j c' z g1 g2 => ?_, x.nd⟩
  by_cases e : i = j
  · subst e
    rw [hc] at g1
    cases g1
    have l : i < Cs.length := by rw [← x.cl]; exact (List.getElem?_eq_some_iff.mp hc).1
    rw [List.getElem?_set_self l] at g2
    cases g2
    exact upd_same
  · rw [List.getElem?_set_ne e] at g2
    have nc : c' ≠ c := fun q => e (nd_get m6 hc (by rw [← q]; exact g1))
    rw [upd_ne nc]
    exact x.cc j c' z g1 g2
theorem CL.push (x : CL K H A L1 L2 L3 L4 Cs) {c : Addr} (hc : H c = none) : CL K (upd (upd H c (.lst [])) A.a5 (.lst (A.cs.map V.ref ++ [.ref c]))) { A with cs := A.cs ++ [c] } L1 L2 L3 L4 (Cs ++ [[]]) := by
  obtain ⟨⟨n1, n2, n3, n4, n5, n6⟩, ⟨m12, m13, m14, m15, m1⟩, ⟨m23, m24, m25, m2⟩, ⟨m34, m35, m3⟩, ⟨m45, m4⟩, m5, m6⟩ := x.ne
  have f := x.fresh hc
  have y := x.off (o := .lst []) f
  simp only [CAd.all, List.mem_cons, not_or] at f
  obtain ⟨f0, f1, f2, f3, f4, f5, f6⟩ := f
  refine ⟨by rw [upd_ne n5]; exact y.ob, by rw [upd_ne m15]; exact y.h1, by rw [upd_ne m25]; exact y.h2, by rw [upd_ne m35]; exact y.h3, by rw [upd_ne m45]; exact y.h4, ?_, by simp [x.cl], fun i c' z g1 g2 => ?_, ?_⟩
  · show upd _ A.a5 _ A.a5 = some (HO.lst ((A.cs ++ [c]).map V.ref))
    rw [upd_same, List.map_append] <;> rfl
  · have g1 : (A.cs ++ [c])[i]? = some c' := g1
    rcases Nat.lt_or_ge i A.cs.length with l | l
    · rw [List.getElem?_append_left l] at g1
      rw [List.getElem?_append_left (by rw [← x.cl]; exact l)] at g2
      rw [upd_ne (nin m5 (List.mem_of_getElem? g1))]
      exact y.cc i c' z g1 g2
    · rw [List.getElem?_append_right l] at g1
      rw [List.getElem?_append_right (by rw [← x.cl]; exact l)] at g2
      have e1 : i - A.cs.length = 0 := by
        have := (List.getElem?_eq_some_iff.mp g1).1
        simp at this
        omega
      rw [e1] at g1
      rw [← x.cl, e1] at g2
      cases g1
      cases g2
      rw [upd_ne f5]
      exact upd_same
  · show (A.p :: A.a1 :: A.a2 :: A.a3 :: A.a4 :: A.a5 :: (A.cs ++ [c])).Nodup
    simp only [List.nodup_cons, List.mem_cons, List.mem_append, List.mem_singleton, not_or, List.not_mem_nil, or_false]
    refine ⟨⟨n1, n2, n3, n4, n5, n6, fun e => f0 e.symm⟩, ⟨m12, m13, m14, m15, m1, fun e => f1 e.symm⟩, ⟨m23, m24, m25, m2, fun e => f2 e.symm⟩, ⟨m34, m35, m3, fun e => f3 e.symm⟩, ⟨m45, m4, fun e => f4 e.symm⟩, ⟨m5, fun e => f5 e.symm⟩, ?_⟩
    exact List.nodup_append.mpr ⟨m6, List.nodup_cons.mpr ⟨List.not_mem_nil, List.nodup_nil⟩, fun a ha b hb => by rw [List.mem_singleton.mp hb]; exact fun e => f6 (e ▸ ha)⟩
end
/-- a code at A with these rows, as it stands in H; its statements by F -/
def CodeH (K : PySem.W.Frag) (F H : Hp) (A : CAd) (rows : List Row) : Prop :=
  ∃ vs, CL K H A vs (rows.map fun r => V.str (kindD r.d)) (rows.map fun r => labD r.d) (rows.map fun r => parV r.par) (rows.map fun r => intsV r.ch) ∧ DpAll K F vs (rows.map Row.d)
def addCh (rows : List Row) (i n : Nat) : List Row := rows.modify i fun r => { r with ch := r.ch ++ [n] }
def addRow (rows : List Row) (d : PyData) (par : Option Nat) : List Row := (match par with
  | none => rows
  | some i => addCh rows i rows.length) ++ [⟨d, par, []⟩]
def sp_Code_check (K : PySem.W.Frag) : Sp := fun vs H Q _ => ∃ (v0 v : V) (d : PyData) (n deep loops blocks : Int), vs = [v0, v, .int n, .int deep, .int loops, .int blocks] ∧ Dp K H v d ∧ PyData.canLay0 d = true ∧ szD d ∧ n < 400 ∧ deep ≤ 100 ∧ blocks ≤ 25 ∧ isStm d loops = true ∧
  ∀ H', Ex H H' → Q .non H'
section
variable {P : Program} {w : World} {h : Heap} {K : PySem.W.Frag} {mg : Str → Option Value} {base : Heap}
abbrev N_Code_check : List Str := ["self", "value", "number", "deep", "loops", "blocks"]
theorem sc_Code_check : FnScope N_Code_check ["self", "value", "number", "deep", "loops", "blocks"] (defScope sd_Code_check) := ⟨rfl, rfl, rfl, by decide +kernel, rfl, by decide +kernel, by decide +kernel⟩
theorem ok_Code_check (T : Tx w h K mg) : Ok P w K mg base 4 ("Code", some "check") ["self", "value", "number", "deep", "loops", "blocks"] (sp_Code_check K) := by
  obtain ⟨fd, F⟩ := F_Code_check T
  refine ⟨fd, ?_, F.bindsN (fun _ _ _ _ _ _ us hl => match us, hl with | [_, _, _, _, _, _], _ => rfl), F.kp⟩
  obtain ⟨fd_is_statement, G_is_statement, bi_is_statement, kp_is_statement⟩ := ok_is_statement (P := P) (base := base) T
  obtain ⟨tm_MOST_BLOCKS, m_MOST_BLOCKS⟩ := i_MOST_BLOCKS T
  obtain ⟨tm_MOST_DEEP, m_MOST_DEEP⟩ := i_MOST_DEEP T
  obtain ⟨tm_MOST_STATEMENTS, m_MOST_STATEMENTS⟩ := i_MOST_STATEMENTS T
  refine F.ok sc_Code_check (fun vs H Q E h => ?_) (fun cdv A outer s H vs Q E hr h => ?_)
  · obtain ⟨v0, v, d, n, deep, loops, blocks, rfl, hd, hc, hz, l1, l2, l3, hs, q⟩ := h
    rfl
  · obtain ⟨v0, v, d, n, deep, loops, blocks, rfl, hd, hc, hz, l1, l2, l3, hs, q⟩ := h
    refine ⟨_, PSs.nox (pss_cons (ps_if (pt_cmpR op_ge (pv 2) (pe_glob (v := .int 400) rfl m_MOST_STATEMENTS ⟨_, rfl⟩) (nomark _)) (pss_one ps_never) pss_nil) (pss_cons (ps_if (pt_cmpR op_gt (pv 3) (pe_glob (v := .int 100) rfl m_MOST_DEEP ⟨_, rfl⟩) (nomark _)) (pss_one ps_never) pss_nil) (pss_cons (ps_if (pt_cmpR op_gt (pv 5) (pe_glob (v := .int 25) rfl m_MOST_BLOCKS ⟨_, rfl⟩) (nomark _)) (pss_one ps_never) pss_nil) (pss_one (ps_if (pt_not (pt_val (pe_call G_is_statement (hr.mono (by decide)) rfl (g_is_statement T) kp_is_statement bi_is_statement .nil passF (pa_cons (pv 1) (pa_cons (pv 4) pa_nil))))) (pss_one ps_never) pss_nil))))), ?_⟩
    refine ⟨_, rfl, _, _, rfl, rfl, _, rfl, itF (decide_eq_false (by omega)) ?_⟩
    refine ⟨_, rfl, _, _, rfl, rfl, _, rfl, itF (decide_eq_false (by omega)) ?_⟩
    refine ⟨_, rfl, _, _, rfl, rfl, _, rfl, itF (decide_eq_false (by omega)) ?_⟩
    refine ⟨_, rfl, _, rfl, v, d, loops, rfl, hd, hc, hz, fun H' x => ⟨_, rfl, itF (by rw [hs] <;> rfl) (q H' x)⟩⟩
end
end Fc
set_option maxRecDepth 100000
set_option maxHeartbeats 4000000
namespace Fc
open PySem PySem.Spec PyProof.Rows L2 FcR
open Evl (Ex)
abbrev Itm := Nat ⊕ Str
abbrev TRow := Nat × List Itm
def itV : Itm → V
  | .inl n => .int (n : Int)
  | .inr s => .str s
def itD : Itm → PyData
  | .inl n => .int (n : Int)
  | .inr s => .str s
def rowV (r : TRow) : List V := .int (r.1 : Int) :: r.2.map itV
def rowD (r : TRow) : PyData := .tuple (.int (r.1 : Int) :: r.2.map itD)
def RowAt (K : PySem.W.Frag) (H : Hp) (t : Addr) (r : TRow) : Prop := SqT K H t (rowV r)
abbrev RowsAt (K : PySem.W.Frag) (H : Hp) (ts : List Addr) (rs : List TRow) : Prop := Paired (RowAt K H) ts rs
def renI (f : Nat → Nat) : Itm → Itm
  | .inl n => .inl (f n)
  | .inr s => .inr s
def renR (f : Nat → Nat) (r : TRow) : TRow := (r.1, r.2.map (renI f))
def isN : Itm → Bool
  | .inl _ => true
  | .inr _ => false
/-- the rows that are reached, in the order in which they first occur -/
def addI (L : List Nat) : Itm → List Nat
  | .inl n => if n ∈ L then L else L ++ [n]
  | .inr _ => L
def addN (L : List Nat) (is : List Itm) : List Nat := is.foldl addI L
def ordN (g : Nat → TRow) (s : Nat) : Nat → List Nat
  | 0 => [s]
  | k + 1 => match (ordN g s k)[k]? with
    | some n => addN (ordN g s k) (g n).2
    | none => ordN g s k
/-- numbers for things, by their first occurrence -/
def addK {κ : Type} [DecidableEq κ] (L : List κ) (k : κ) : List κ := if k ∈ L then L else L ++ [k]
def dedK {κ : Type} [DecidableEq κ] (ks : List κ) : List κ := ks.foldl addK []
def ixK {κ : Type} [DecidableEq κ] (L : List κ) (k : κ) : Nat := L.idxOf k
def numK {κ : Type} [DecidableEq κ] (ks : List κ) : List Nat := ks.map fun k => ixK (dedK ks) k
theorem addI_pre (L : List Nat) (i : Itm) : L <+: addI L i := by
  cases i with
  | inl n =>
    show L <+: (if n ∈ L then L else L ++ [n])
    split
    · exact List.prefix_refl _
    · exact ⟨[n], rfl⟩
  | inr s => exact List.prefix_refl _
theorem addN_pre : ∀ (is : List Itm) (L : List Nat), L <+: addN L is
  | [], _ => List.prefix_refl _
  | i :: is, L => (addI_pre L i).trans (addN_pre is (addI L i))
theorem addI_nd {L : List Nat} (h : L.Nodup) (i : Itm) : (addI L i).Nodup := by
  cases i with
  | inl n =>
    show (if n ∈ L then L else L ++ [n]).Nodup
    split
    · exact h
    · rename_i z
      exact List.nodup_append.mpr ⟨h, List.nodup_cons.mpr ⟨List.not_mem_nil, List.nodup_nil⟩, fun a ha b hb e => z (by rw [List.mem_singleton.mp hb] at e; rw [← e]; exact ha)⟩
  | inr s => exact h
theorem addN_nd : ∀ (is : List Itm) {L : List Nat}, L.Nodup → (addN L is).Nodup
  | [], _, h => h
  | i :: is, L, h => addN_nd is (addI_nd h i)
theorem addI_in {L : List Nat} {i : Itm} {x : Nat} (h : x ∈ addI L i) : x ∈ L ∨ i = .inl x := by
  cases i with
  | inl n =>
    have h : x ∈ (if n ∈ L then L else L ++ [n]) := h
    split at h
    · exact .inl h
    · rcases List.mem_append.mp h with h | h
      · exact .inl h
      · rw [List.mem_singleton.mp h]; exact .inr rfl
  | inr s => exact .inl h
theorem addN_in : ∀ {is : List Itm} {L : List Nat} {x : Nat}, x ∈ addN L is → x ∈ L ∨ .inl x ∈ is
  | [], _, _, h => .inl h
  | i :: is, L, x, h => by
    rcases addN_in (is := is) (L := addI L i) h with h | h
    · rcases addI_in h with h | h
      · exact .inl h
      · rw [h]; exact .inr List.mem_cons_self
    · exact .inr (List.mem_cons_of_mem _ h)
theorem addI_mem (L : List Nat) (n : Nat) : n ∈ addI L (.inl n) := by
  show n ∈ (if n ∈ L then L else L ++ [n])
  split
  · assumption
  · simp
theorem addN_mem : ∀ {is : List Itm} {L : List Nat} {n : Nat}, .inl n ∈ is → n ∈ addN L is
  | i :: is, L, n, h => by
    rcases List.mem_cons.mp h with h | h
    · subst h
      exact (addN_pre is (addI L (.inl n))).subset (addI_mem L n)
    · exact addN_mem (is := is) (L := addI L i) h
/-- a table of n rows whose items are right -/
def TOk (n : Nat) (g : Nat → TRow) : Prop := ∀ a, a < n → ∀ b, Sum.inl b ∈ (g a).2 → b < n
theorem ordN_ok {n : Nat} {g : Nat → TRow} (T : TOk n g) {s : Nat} (hs : s < n) : ∀ k, (ordN g s k).Nodup ∧ (∀ x ∈ ordN g s k, x < n) ∧ ordN g s k ≠ [] ∧ [s] <+: ordN g s k
  | 0 => ⟨List.nodup_cons.mpr ⟨List.not_mem_nil, List.nodup_nil⟩, fun x hx => by rw [List.mem_singleton.mp hx]; exact hs, (fun z => nomatch z), List.prefix_refl _⟩
  | k + 1 => by
    obtain ⟨h1, h2, h3, h4⟩ := ordN_ok T hs k
    unfold ordN
    split
    · rename_i m hm
      refine ⟨addN_nd _ h1, fun x hx => ?_, fun z => ?_, h4.trans (addN_pre _ _)⟩
      · rcases addN_in hx with h | h
        · exact h2 x h
        · exact T m (h2 m (List.mem_of_getElem? hm)) x h
      · have := (addN_pre (g m).2 (ordN g s k)).subset
        rw [z] at this
        exact h3 (List.eq_nil_iff_forall_not_mem.mpr fun x hx => nomatch this hx)
    · exact ⟨h1, h2, h3, h4⟩
theorem nd_lt : ∀ {n : Nat} {l : List Nat}, l.Nodup → (∀ x ∈ l, x < n) → l.length ≤ n := fun {n l} h1 h2 => by
  have : ∀ (n : Nat) (l : List Nat), l.Nodup → (∀ x ∈ l, x < n) → l.length ≤ n := by
    intro n
    induction n with
    | zero =>
      intro l _ h
      cases l with
      | nil => exact Nat.le_refl _
      | cons x l => have := h x List.mem_cons_self; omega
    | succ n ih =>
      intro l h1 h2
      by_cases z : n ∈ l
      · have := ih (l.erase n) (h1.erase _) fun x hx => by
          have hm := List.mem_of_mem_erase hx
          have hne : x ≠ n := fun e => by rw [e] at hx; exact (List.Nodup.not_mem_erase h1) hx
          have := h2 x hm
          omega
        rw [List.length_erase_of_mem z] at this
        omega
      · have := ih l h1 fun x hx => by
          have hne : x ≠ n := fun e => z (by rw [← e]; exact hx)
          have := h2 x hx
          omega
        omega
  exact this n l h1 h2
theorem ordN_up {g : Nat → TRow} {s k : Nat} (h : (ordN g s k).length ≤ k) : ordN g s (k + 1) = ordN g s k := by
  show (match (ordN g s k)[k]? with
    | some n => addN (ordN g s k) (g n).2
    | none => ordN g s k) = _
  rw [List.getElem?_eq_none h]
theorem ordN_stay {g : Nat → TRow} {s k : Nat} (h : (ordN g s k).length ≤ k) : ∀ j, k ≤ j → ordN g s j = ordN g s k := by
  intro j hj
  induction j with
  | zero => rw [show k = 0 by omega]
  | succ j ih =>
    by_cases z : k = j + 1
    · rw [z]
    · have e := ih (by omega)
      rw [ordN_up (by rw [e]; omega), e]
theorem ordN_pre (g : Nat → TRow) (s : Nat) : ∀ (k j : Nat), k ≤ j → ordN g s k <+: ordN g s j := by
  intro k j h
  induction j with
  | zero => rw [show k = 0 by omega]; exact List.prefix_refl _
  | succ j ih =>
    by_cases z : k = j + 1
    · rw [z]; exact List.prefix_refl _
    · refine (ih (by omega)).trans ?_
      show _ <+: (match (ordN g s j)[j]? with
        | some n => addN (ordN g s j) (g n).2
        | none => ordN g s j)
      split
      · exact addN_pre _ _
      · exact List.prefix_refl _
/-- the table of the rows that are reached -/
def ordT (g : Nat → TRow) (s n : Nat) : List TRow := (ordN g s n).map fun a => renR (fun b => (ordN g s n).idxOf b) (g a)
theorem dp_it {K : PySem.W.Frag} {H : Hp} : ∀ y : Itm, Dp K H (itV y) (itD y)
  | .inl _ => .int _
  | .inr _ => .str _
theorem dp_its {K : PySem.W.Frag} {H : Hp} : ∀ ys : List Itm, DpAll K H (ys.map itV) (ys.map itD)
  | [] => .nil
  | y :: ys => .cons (dp_it y) (dp_its ys)
theorem dp_row {K : PySem.W.Frag} {H : Hp} {t : Addr} {r : TRow} (h : RowAt K H t r) : Dp K H (.ref t) (rowD r) := .tup h (.cons (.int _) (dp_its r.2))
theorem ordN_cl {g : Nat → TRow} {s k : Nat} (h : (ordN g s k).length ≤ k) : ∀ a ∈ ordN g s k, ∀ b : Nat, Sum.inl b ∈ (g a).2 → b ∈ ordN g s k := fun a ha b hb => by
  obtain ⟨i, hi⟩ := List.getElem?_of_mem ha
  have il : i < (ordN g s k).length := (List.getElem?_eq_some_iff.mp hi).1
  have i2 : i < (ordN g s i).length := by
    by_cases z : i < (ordN g s i).length
    · exact z
    · exfalso
      have := ordN_stay (g := g) (s := s) (k := i) (by omega) k (by omega)
      rw [this] at il
      exact z il
  obtain ⟨t, ht⟩ := ordN_pre g s i k (by omega)
  have e : (ordN g s i)[i]? = some a := by
    rw [← hi, ← ht, List.getElem?_append_left i2]
  have n1 : ordN g s (i + 1) = addN (ordN g s i) (g a).2 := by
    show (match (ordN g s i)[i]? with
      | some n => addN (ordN g s i) (g n).2
      | none => ordN g s i) = _
    rw [e]
  refine (ordN_pre g s (i + 1) k (by omega)).subset ?_
  rw [n1]
  exact addN_mem hb
theorem row_set {K : PySem.W.Frag} {H : Hp} {t D : Addr} {d : List V} {o : HO} {xs : List V} (h : SqT K H t xs) (e : H D = some (.lst d)) : SqT K (upd H D o) t xs := by
  rcases h with h | h
  · refine .inl ?_
    rcases h with h | ⟨ob, h⟩
    · exact .inl (by rw [upd_ne (fun z => by rw [z, e] at h; cases h)]; exact h)
    · exact .inr ⟨ob, by rw [upd_ne (fun z => by rw [z, e] at h; cases h)]; exact h⟩
  · exact .inr h
theorem rowsAt_ex {K : PySem.W.Frag} {H H' : Hp} (e : Ex H H') {ts : List Addr} {rs : List TRow} (h : RowsAt K H ts rs) : RowsAt K H' ts rs := L2.Paired.mapP h fun _ _ r => Evl.ex_t e r
theorem rowsAt_set {K : PySem.W.Frag} {H : Hp} {D : Addr} {d : List V} {o : HO} (e : H D = some (.lst d)) {ts : List Addr} {rs : List TRow} (h : RowsAt K H ts rs) : RowsAt K (upd H D o) ts rs := L2.Paired.mapP h fun _ _ r => row_set r e
theorem rowsAt_len {K : PySem.W.Frag} {H : Hp} : ∀ {ts : List Addr} {rs : List TRow}, RowsAt K H ts rs → ts.length = rs.length
  | _, _, .nil => rfl
  | _, _, .cons _ t => congrArg (· + 1) (rowsAt_len t)
theorem rowsAt_snoc {K : PySem.W.Frag} {H : Hp} {t : Addr} {r : TRow} : ∀ {ts : List Addr} {rs : List TRow}, RowsAt K H ts rs → RowAt K H t r → RowsAt K H (ts ++ [t]) (rs ++ [r])
  | _, _, .nil, h => .cons h .nil
  | _, _, .cons r t, h => .cons r (rowsAt_snoc t h)
def itK : Itm → Key
  | .inl n => .inl (n : Int)
  | .inr s => .inr s
def rowK (r : TRow) : List Key := .inl (r.1 : Int) :: r.2.map itK
def keyM (ms : List Nat) (m : Nat) (r : TRow) : List Key := .inl (m : Int) :: rowK (renR (fun b => ms.getD b 0) r)
def keysM (rs : List TRow) (ms : List Nat) : List (List Key) := (ms.zip rs).map fun p => keyM ms p.1 p.2
def clsN (rs : List TRow) : Nat → List Nat
  | 0 => rs.map (·.1)
  | k + 1 => numK (keysM rs (clsN rs k))
def ndist (ms : List Nat) : Nat := (dedK ms).length
/-- where the classes stop -/
structure StopK (rs : List TRow) (k : Nat) : Prop where
  le : ndist (clsN rs (k + 1)) ≤ ndist (clsN rs k)
  fst : ∀ i, i < k → ndist (clsN rs i) < ndist (clsN rs (i + 1))
theorem StopK.det {rs : List TRow} {k k' : Nat} (a : StopK rs k) (b : StopK rs k') : k = k' := by
  rcases Nat.lt_trichotomy k k' with h | h | h
  · have := b.fst k h; have := a.le; omega
  · exact h
  · have := a.fst k' h; have := b.le; omega
theorem clsN_len (rs : List TRow) : ∀ k, (clsN rs k).length = rs.length
  | 0 => List.length_map ..
  | k + 1 => by
    show (numK (keysM rs (clsN rs k))).length = _
    unfold numK keysM
    rw [List.length_map, List.length_map, List.length_zip, clsN_len rs k, Nat.min_self]
section
variable {κ : Type} [DecidableEq κ]
theorem addK_nd {L : List κ} (h : L.Nodup) (k : κ) : (addK L k).Nodup := by
  unfold addK
  split
  · exact h
  · rename_i z
    exact List.nodup_append.mpr ⟨h, List.nodup_cons.mpr ⟨List.not_mem_nil, List.nodup_nil⟩, fun a ha b hb e => z (by rw [List.mem_singleton.mp hb] at e; rw [← e]; exact ha)⟩
theorem fold_nd : ∀ (ks : List κ) {L : List κ}, L.Nodup → (ks.foldl addK L).Nodup
  | [], _, h => h
  | k :: ks, L, h => fold_nd ks (addK_nd h k)
theorem addK_pre (L : List κ) (k : κ) : L <+: addK L k := by
  unfold addK
  split
  · exact List.prefix_refl _
  · exact ⟨[k], rfl⟩
theorem fold_pre : ∀ (ks L : List κ), L <+: ks.foldl addK L
  | [], _ => List.prefix_refl _
  | k :: ks, L => (addK_pre L k).trans (fold_pre ks (addK L k))
theorem addK_mem {L : List κ} {k x : κ} : x ∈ addK L k ↔ x ∈ L ∨ x = k := by
  unfold addK
  split
  · rename_i z
    exact ⟨.inl, fun h => h.elim id fun e => by rw [e]; exact z⟩
  · simp
theorem fold_mem : ∀ {ks L : List κ} {x : κ}, x ∈ ks.foldl addK L ↔ x ∈ L ∨ x ∈ ks
  | [], L, x => by simp
  | k :: ks, L, x => by
    rw [List.foldl_cons, fold_mem (ks := ks), addK_mem, List.mem_cons]
    constructor
    · rintro ((h | h) | h)
      · exact .inl h
      · exact .inr (.inl h)
      · exact .inr (.inr h)
    · rintro (h | h | h)
      · exact .inl (.inl h)
      · exact .inl (.inr h)
      · exact .inr h
theorem dedK_nd (ks : List κ) : (dedK ks).Nodup := fold_nd ks List.nodup_nil
theorem dedK_mem {ks : List κ} {x : κ} : x ∈ dedK ks ↔ x ∈ ks := by
  unfold dedK
  rw [fold_mem]
  simp
theorem dedK_snoc (ks : List κ) (k : κ) : dedK (ks ++ [k]) = addK (dedK ks) k := by
  unfold dedK
  rw [List.foldl_append] <;> rfl
theorem nodup_lenK : ∀ {l l' : List κ}, l.Nodup → (∀ x ∈ l, x ∈ l') → l.length ≤ l'.length
  | [], _, _, _ => Nat.zero_le _
  | x :: l, l', h, hs => by
    obtain ⟨h1, h2⟩ := List.nodup_cons.mp h
    have hx := hs x List.mem_cons_self
    have := nodup_lenK (l := l) (l' := l'.erase x) h2 fun y hy => (List.mem_erase_of_ne (fun z : y = x => h1 (by rw [← z]; exact hy))).mpr (hs y (List.mem_cons_of_mem _ hy))
    rw [List.length_erase_of_mem hx] at this
    have := List.length_pos_of_mem hx
    rw [List.length_cons]
    omega
theorem dedK_le (ks : List κ) : (dedK ks).length ≤ ks.length := nodup_lenK (dedK_nd ks) fun x hx => dedK_mem.mp hx
/-- the numbers so far -/
theorem num_pre {ks ms : List κ} {k : κ} (h : k ∈ dedK ks) : ixK (dedK (ks ++ ms)) k = ixK (dedK ks) k := by
  obtain ⟨t, ht⟩ : dedK ks <+: dedK (ks ++ ms) := by
    unfold dedK
    rw [List.foldl_append]
    exact fold_pre _ _
  unfold ixK
  rw [← ht, List.idxOf_append, if_pos h]
end
theorem set_len {ms : List Nat} {ks : List Int} (nd : ks.Nodup) (h : ∀ k : Int, k ∈ ks ↔ k ∈ ms.map fun n : Nat => (n : Int)) : ks.length = ndist ms := by
  have e : (dedK ms).length = ((dedK ms).map fun n : Nat => (n : Int)).length := (List.length_map ..).symm
  have nd2 : ((dedK ms).map fun n : Nat => (n : Int)).Nodup := by
    have := dedK_nd ms
    refine List.Pairwise.map _ (fun a b hab z => hab ?_) this
    omega
  have hm : ∀ x : Int, x ∈ ((dedK ms).map fun n : Nat => (n : Int)) ↔ x ∈ ms.map fun n : Nat => (n : Int) := fun x => by
    constructor
    · intro hx
      obtain ⟨n, hn, rfl⟩ := List.mem_map.mp hx
      exact List.mem_map.mpr ⟨n, dedK_mem.mp hn, rfl⟩
    · intro hx
      obtain ⟨n, hn, rfl⟩ := List.mem_map.mp hx
      exact List.mem_map.mpr ⟨n, dedK_mem.mpr hn, rfl⟩
  have a := nodup_lenK nd fun x hx => (hm x).mpr ((h x).mp hx)
  have b := nodup_lenK nd2 fun x hx => (h x).mpr ((hm x).mp hx)
  unfold ndist
  omega
end Fc
set_option maxRecDepth 100000
set_option maxHeartbeats 4000000
namespace Fc
open PySem PySem.Spec PyProof.Rows L2 FcR
open Evl (Ex)
theorem map_modify_same {α β : Type} (f : α → β) (g : α → α) (h : ∀ x, f (g x) = f x) (l : List α) (i : Nat) : (l.modify i g).map f = l.map f := by
  apply List.ext_getElem?
  intro j
  rw [List.getElem?_map, List.getElem?_map, List.getElem?_modify]
  cases l[j]? with
  | none => rfl
  | some x => by_cases e : i = j <;> simp [e, h]
def noteCh (n : Nat) (r : Row) : Row := { r with ch := r.ch ++ [n] }
theorem addCh_eq (rows : List Row) (i n : Nat) : addCh rows i n = rows.modify i (noteCh n) := rfl
theorem addCh_len (rows : List Row) (i n : Nat) : (addCh rows i n).length = rows.length := by simp [addCh]
theorem addCh_map {β : Type} (f : Row → β) (rows : List Row) (i n : Nat) (h : ∀ r, f (noteCh n r) = f r) : (addCh rows i n).map f = rows.map f := map_modify_same f (noteCh n) h rows i
theorem addCh_ch (rows : List Row) (i n : Nat) (r : Row) (h : rows[i]? = some r) : (addCh rows i n).map (fun r => intsV r.ch) = (rows.map fun r => intsV r.ch).set i (intsV r.ch ++ [.int (n : Int)]) := by
  apply List.ext_getElem?
  intro j
  rw [addCh_eq, List.getElem?_map, List.getElem?_modify, List.getElem?_set, List.getElem?_map]
  have li : i < rows.length := (List.getElem?_eq_some_iff.mp h).1
  by_cases e : i = j
  · subst e
    rw [h]
    simp [noteCh, intsV, li]
  · cases rows[j]? <;> simp [e]
def stepRows (rows : List Row) (par : Option Nat) : List Row := match par with
  | none => rows
  | some i => addCh rows i rows.length
theorem stepRows_len (rows : List Row) (par : Option Nat) : (stepRows rows par).length = rows.length := by
  cases par with
  | none => rfl
  | some i => exact addCh_len _ _ _
def sp_Code_keep (K : PySem.W.Frag) : Sp := fun vs H Q _ => ∃ (F : Hp) (A : CAd) (rows : List Row) (v : V) (d : PyData) (loops : Int) (par : Option Nat), vs = [.ref A.p, v, parV par] ∧ Ex F H ∧ CodeH K F H A rows ∧ (∀ b ∈ A.all, F b = none) ∧ Dp K F v d ∧ isStm d loops = true ∧
  rows.length < 1000 ∧ (∀ i, par = some i → ∃ r, rows[i]? = some r ∧ r.ch.length < 1000) ∧
  ∀ c H', H c = none → CodeH K F H' { A with cs := A.cs ++ [c] } (addRow rows d par) → (∀ b o, H b = some o → b ∉ A.all → H' b = some o) → Q .non H'
theorem stm_lab {k : Str} {r : List PyData} {loops : Int} (h : isStm (.tuple (.str k :: r)) loops = true) (hk : k ∈ kLab) : (∃ x r', r = .str x :: r') ∨ ∃ n r', r = .int n :: r' := by
  obtain ⟨k', r', n, e, e1, hn, hs⟩ := isStm_shape h
  cases e
  rcases List.mem_append.mp hk with hk | hk
  · rw [if_pos hk] at hs
    cases r with
    | nil => cases hs
    | cons d r' => cases d with
      | str x => exact .inl ⟨x, r', rfl⟩
      | _ => cases hs
  · by_cases h2 : k ∈ kNamed
    · rw [if_pos h2] at hs
      cases r with
      | nil => cases hs
      | cons d r' => cases d with
        | str x => exact .inl ⟨x, r', rfl⟩
        | _ => cases hs
    · rw [if_neg h2, if_pos hk] at hs
      cases r with
      | nil => cases hs
      | cons d r' => cases d with
        | int x => exact .inr ⟨x, r', rfl⟩
        | _ => cases hs
theorem in_all1 (A : CAd) : A.a1 ∈ A.all := by simp [CAd.all]
theorem in_all2 (A : CAd) : A.a2 ∈ A.all := by simp [CAd.all]
theorem in_all3 (A : CAd) : A.a3 ∈ A.all := by simp [CAd.all]
theorem in_all4 (A : CAd) : A.a4 ∈ A.all := by simp [CAd.all]
theorem in_all5 (A : CAd) : A.a5 ∈ A.all := by simp [CAd.all]
theorem in_allc {A : CAd} {c : Addr} (h : c ∈ A.cs) : c ∈ A.all := by simp [CAd.all, h]
section
variable {P : Program} {w : World} {h : Heap} {K : PySem.W.Frag} {mg : Str → Option Value} {base : Heap}
abbrev N_Code_keep : List Str := ["self", "statement", "parent"]
theorem sc_Code_keep : FnScope N_Code_keep ["self", "statement", "parent"] (defScope sd_Code_keep) := ⟨rfl, rfl, rfl, by decide +kernel, rfl, by decide +kernel, by decide +kernel⟩
theorem ok_Code_keep (T : Tx w h K mg) : Ok P w K mg base 1 ("Code", some "keep") ["self", "statement", "parent"] (sp_Code_keep K) := by
  obtain ⟨fd, F⟩ := F_Code_keep T
  refine ⟨fd, ?_, F.bindsN (fun _ _ _ _ _ _ us hl => match us, hl with | [_, _, _], _ => rfl), F.kp⟩
  refine F.ok sc_Code_keep (fun vs H Q E h => ?_) (fun cdv A outer s H vs Q E hr h => ?_)
  · obtain ⟨F0, A, rows, v, d, loops, par, rfl, xF, ⟨L1, C, dL⟩, nw, hd, hs, hl, hpar, q⟩ := h
    rfl
  · obtain ⟨F0, A, rows, v, d, loops, par, rfl, xF, ⟨L1, C, dL⟩, nw, hd, hs, hl, hpar, q⟩ := h
    refine ⟨_, PSs.nox (Evl.pss_cut (ps_if (pt_cmpR op_notN (pv 2) pe_non (nomark _)) (pss_one (ps_expr (pe_bm PySem.F.plainAttrs_list PySem.F.slot_list_append PySem.F.type_list_append mt_append (pe_ix ix_list (pe_fld (pv 0) rfl) (pv 2) (fun _ _ => rfl)) (pa_cons (pe_callB call_len_seq rfl (fr_len T) b_len (pa_cons (pe_fld (pv 0) rfl) pa_nil)) pa_nil)))) pss_nil) (pss_cons (ps_expr (pe_bm PySem.F.plainAttrs_list PySem.F.slot_list_append PySem.F.type_list_append mt_append (pe_fld (pv 0) rfl) (pa_cons (pv 1) pa_nil))) (pss_cons (ps_expr (pe_bm PySem.F.plainAttrs_list PySem.F.slot_list_append PySem.F.type_list_append mt_append (pe_fld (pv 0) rfl) (pa_cons (pe_ix ix_tup (pv 1) pe_int (fun _ _ => rfl)) pa_nil))) (Evl.pss_cut (ps_expr (pe_bm PySem.F.plainAttrs_list PySem.F.slot_list_append PySem.F.type_list_append mt_append (pe_fld (pv 0) rfl) (pa_cons (pe_ifExp (pt_cmpR op_in_seq (pe_ix ix_tup (pv 1) pe_int (fun _ _ => rfl)) (pe_op op_catT (pe_glob (v := .ref (He.ga K "NAMED")) rfl (g_NAMED T) rfl) (pe_glob (v := .ref (He.ga K "JUMPS")) rfl (g_JUMPS T) rfl)) (by rfl)) (pe_ix ix_tup (pv 1) pe_int (fun _ _ => rfl)) pe_non) pa_nil))) (pss_cons (ps_expr (pe_bm PySem.F.plainAttrs_list PySem.F.slot_list_append PySem.F.type_list_append mt_append (pe_fld (pv 0) rfl) (pa_cons (pv 2) pa_nil))) (pss_one (ps_expr (pe_bm PySem.F.plainAttrs_list PySem.F.slot_list_append PySem.F.type_list_append mt_append (pe_fld (pv 0) rfl) (pa_cons (pe_lst pa_nil) pa_nil))))))))), ?_⟩
    obtain ⟨k, r, n, rfl, _, _, _⟩ := isStm_shape hs
    obtain ⟨a, xs, rfl, hS, hA⟩ := dp_tup hd
    cases hA with
    | @cons v0 xr _ _ h0 hA =>
    obtain rfl := dp_str h0
    -- the parent's list of parts
    refine ⟨fun σ' H' => σ' = L2.start N_Code_keep [.ref A.p, .ref a, parV par] ∧ CL K H' A L1 (rows.map fun r => V.str (kindD r.d)) (rows.map fun r => labD r.d) (rows.map fun r => parV r.par) ((stepRows rows par).map fun r => intsV r.ch) ∧ Ex F0 H' ∧ (∀ b o, H b = some o → b ∉ A.all → H' b = some o) ∧ (∀ b, H' b = none → H b = none), ?_, ?_⟩
    · refine ⟨_, rfl, rfl, _, rfl, ite_of (fun h1 => ?_) (fun h1 => ?_)⟩
      · cases par with
        | none => cases h1
        | some i =>
        obtain ⟨ri, e1, e2⟩ := hpar i rfl
        have li : i < A.cs.length := by rw [C.cl, List.length_map]; exact (List.getElem?_eq_some_iff.mp e1).1
        have hci : A.cs[i]? = some A.cs[i] := List.getElem?_eq_getElem li
        have hcm : A.cs[i] ∈ A.cs := List.getElem_mem li
        have hcc := C.cc i _ _ hci (show (rows.map fun r => intsV r.ch)[i]? = some (intsV ri.ch) from by rw [List.getElem?_map, e1] <;> rfl)
        refine ⟨_, rfl, A.p, _, _, _, _, rfl, C.ob, c_Code T, na_Code_children T, fl_Code_children _ _ _ _ _, _, rfl, A.a5, _, _, .ref A.cs[i], rfl, rfl, Evl.sq_of C.h5, atI_nat (by rw [List.getElem?_map, hci] <;> rfl), Or.inl ⟨rfl, _, Evl.sq_of hcc⟩, ?_⟩
        refine ⟨_, rfl, A.p, _, _, _, _, rfl, C.ob, c_Code T, na_Code_kinds T, fl_Code_kinds _ _ _ _ _, A.a2, _, rfl, .inl (Evl.sq_of C.h2), A.cs[i], _, _, rfl, rfl, hcc, szl (by rw [intsV, List.length_map]; omega), ?_⟩
        refine ⟨rfl, ?_, exm xF (nw _ (in_allc hcm)), fun b o e hb => by rw [upd_ne (fun z => hb (by rw [z]; exact in_allc hcm))]; exact e, fun b e => ?_⟩
        · have y := C.child hci (intsV ri.ch ++ [.int ((rows.map fun r => V.str (kindD r.d)).length : Int)])
          have e3 : (stepRows rows (some i)).map (fun r => intsV r.ch) = (rows.map fun r => intsV r.ch).set i (intsV ri.ch ++ [.int ((rows.map fun r => V.str (kindD r.d)).length : Int)]) := by
            rw [List.length_map]
            exact addCh_ch rows i rows.length ri e1
          rw [e3]
          exact y
        · by_cases z : b = A.cs[i]
          · rw [z, upd_same] at e
            cases e
          · rw [upd_ne z] at e
            exact e
      · cases par with
        | some i => cases h1
        | none => exact ⟨rfl, C, xF, fun b o e _ => e, fun b e => e⟩
    rintro σ' H1 ⟨rfl, C1, xF1, kp1, fr1⟩
    have es : (stepRows rows par).map (fun r => V.str (kindD r.d)) = rows.map (fun r => V.str (kindD r.d)) := by cases par with
      | none => rfl
      | some i => exact addCh_map _ rows i _ fun _ => rfl
    have el : (stepRows rows par).map (fun r => labD r.d) = rows.map (fun r => labD r.d) := by cases par with
      | none => rfl
      | some i => exact addCh_map _ rows i _ fun _ => rfl
    have ep : (stepRows rows par).map (fun r => parV r.par) = rows.map (fun r => parV r.par) := by cases par with
      | none => rfl
      | some i => exact addCh_map _ rows i _ fun _ => rfl
    have ed : (stepRows rows par).map Row.d = rows.map Row.d := by cases par with
      | none => rfl
      | some i => exact addCh_map _ rows i _ fun _ => rfl
    have l1 : L1.length = rows.length := by rw [dpA_len dL, List.length_map]
    -- self.statements.append(statement)
    refine ⟨_, rfl, A.p, _, _, _, _, rfl, C1.ob, c_Code T, na_Code_statements T, fl_Code_statements _ _ _ _ _, Or.inl ⟨rfl, _, Evl.sq_of C1.h1⟩, _, rfl, A.a1, _, _, rfl, rfl, C1.h1, szl (by omega), ?_⟩
    have C2 := C1.s1 (L1 ++ [.ref a])
    have xF2 := exm (o := .lst (L1 ++ [.ref a])) xF1 (nw _ (in_all1 A))
    -- self.kinds.append(statement[0])
    refine ⟨_, rfl, A.p, _, _, _, _, rfl, C2.ob, c_Code T, na_Code_kinds T, fl_Code_kinds _ _ _ _ _, Or.inl ⟨rfl, _, Evl.sq_of C2.h2⟩, _, rfl, a, _, _, _, rfl, rfl, Evl.ex_t xF2 hS, at0, A.a2, _, _, rfl, rfl, C2.h2, szl (by rw [List.length_map]; omega), ?_⟩
    have C3 := C2.s2 (rows.map (fun r => V.str (kindD r.d)) ++ [.str k])
    have xF3 := exm (o := .lst (rows.map (fun r => V.str (kindD r.d)) ++ [.str k])) xF2 (nw _ (in_all2 A))
    -- self.labels.append(..)
    refine ⟨fun σ' H' => σ' = L2.start N_Code_keep [.ref A.p, .ref a, parV par] ∧ CL K H' A (L1 ++ [.ref a]) (rows.map (fun r => V.str (kindD r.d)) ++ [.str k]) (rows.map (fun r => labD r.d) ++ [labD (.tuple (.str k :: r))]) (rows.map fun r => parV r.par) ((stepRows rows par).map fun r => intsV r.ch) ∧ Ex F0 H' ∧ (∀ b o, H b = some o → b ∉ A.all → H' b = some o) ∧ (∀ b, H' b = none → H b = none), ?_, ?_⟩
    · refine ⟨_, rfl, A.p, _, _, _, _, rfl, C3.ob, c_Code T, na_Code_labels T, fl_Code_labels _ _ _ _ _, Or.inl ⟨rfl, _, Evl.sq_of C3.h3⟩, _, rfl, a, _, _, _, rfl, rfl, Evl.ex_t xF3 hS, at0, He.ga K "NAMED", He.ga K "JUMPS", _, _, rfl, rfl, t_NAMED T _, t_JUMPS T _, (by simp), sz (by decide), (fun z => by cases z), fun _ p0 hp0 => ?_⟩
      have C4 := C3.off (o := .tup (kLab.map V.str)) (C3.fresh hp0)
      have xF4 : Ex F0 _ := exu (o := .tup (kLab.map V.str)) xF3 hp0
      have fin : ∀ (o1 o2 o4 : HO) (H5 : Hp), H5 = upd (upd (upd (upd H1 A.a1 o1) A.a2 o2) p0 (.tup (kLab.map V.str))) A.a3 o4 → (∀ b o, H b = some o → b ∉ A.all → H5 b = some o) ∧ (∀ b, H5 b = none → H b = none) := by
        intro o1 o2 o4 H5 e5
        subst e5
        have back : ∀ {Hx : Hp} {q b : Addr} {o : HO}, upd Hx q o b = none → Hx b = none := fun {Hx q b o} e => by
          by_cases z : b = q
          · rw [z, upd_same] at e; cases e
          · rw [upd_ne z] at e; exact e
        refine ⟨fun b o e hb => ?_, fun b e => fr1 b (back (back (back (back e))))⟩
        have e1 := kp1 b o e hb
        have np : b ≠ p0 := fun z => by
          have y : H1 p0 = none := by
            have y1 := back (back hp0)
            exact y1
          rw [z, y] at e1
          cases e1
        rw [upd_ne (fun z => hb (by rw [z]; exact in_all3 A)), upd_ne np, upd_ne (fun z => hb (by rw [z]; exact in_all2 A)), upd_ne (fun z => hb (by rw [z]; exact in_all1 A))]
        exact e1
      have tail : ∀ u, u = labD (.tuple (.str k :: r)) → rAppend (.ref A.a3) [u] (upd (upd (upd H1 A.a1 (.lst (L1 ++ [.ref a]))) A.a2 (.lst (rows.map (fun r => V.str (kindD r.d)) ++ [.str k]))) p0 (.tup (kLab.map V.str))) (fun _ H' => L2.start N_Code_keep [.ref A.p, .ref a, parV par] = L2.start N_Code_keep [.ref A.p, .ref a, parV par] ∧ CL K H' A (L1 ++ [.ref a]) (rows.map (fun r => V.str (kindD r.d)) ++ [.str k]) (rows.map (fun r => labD r.d) ++ [labD (.tuple (.str k :: r))]) (rows.map fun r => parV r.par) ((stepRows rows par).map fun r => intsV r.ch) ∧ Ex F0 H' ∧ (∀ b o, H b = some o → b ∉ A.all → H' b = some o) ∧ (∀ b, H' b = none → H b = none)) := by
        rintro u rfl
        obtain ⟨f1, f2⟩ := fin (.lst (L1 ++ [.ref a])) (.lst (rows.map (fun r => V.str (kindD r.d)) ++ [.str k])) (.lst (rows.map (fun r => labD r.d) ++ [labD (.tuple (.str k :: r))])) _ rfl
        exact ⟨A.a3, _, _, rfl, rfl, C4.h3, szl (by rw [List.length_map]; omega), rfl, C4.s3 _, exm xF4 (nw _ (in_all3 A)), f1, f2⟩
      refine ⟨p0, kLab.map V.str, rfl, .inr (Evl.st_of upd_same), rfl, flat_strs kLab, _, rfl, ite_of (fun h2 => ?_) (fun h2 => ?_)⟩
      · have h2 : inV (.str k) (kLab.map V.str) = true := h2
        rw [inV_strs] at h2
        have hm := of_decide_eq_true h2
        rcases stm_lab hs hm with ⟨x, r', rfl⟩ | ⟨x, r', rfl⟩
        · cases hA with
          | @cons v1 xr' _ _ g1 hA =>
          obtain rfl := dp_str g1
          refine ⟨_, rfl, a, _, _, _, rfl, rfl, Evl.ex_t xF4 hS, at1, tail _ ?_⟩
          simp only [labD, if_pos hm]
        · cases hA with
          | @cons v1 xr' _ _ g1 hA =>
          obtain rfl := dp_int g1
          refine ⟨_, rfl, a, _, _, _, rfl, rfl, Evl.ex_t xF4 hS, at1, tail _ ?_⟩
          simp only [labD, if_pos hm]
      · have h2 : inV (.str k) (kLab.map V.str) = false := h2
        rw [inV_strs] at h2
        have hm : ¬ k ∈ kLab := of_decide_eq_false h2
        refine tail _ ?_
        simp only [labD, if_neg hm]
    rintro σ' H5 ⟨rfl, C5, xF5, kp5, fr5⟩
    -- self.parents.append(parent)
    refine ⟨_, rfl, A.p, _, _, _, _, rfl, C5.ob, c_Code T, na_Code_parents T, fl_Code_parents _ _ _ _ _, Or.inl ⟨rfl, _, Evl.sq_of C5.h4⟩, _, rfl, A.a4, _, _, rfl, rfl, C5.h4, szl (by rw [List.length_map]; omega), ?_⟩
    have C6 := C5.s4 (rows.map (fun r => parV r.par) ++ [parV par])
    -- self.children.append([])
    refine ⟨_, rfl, A.p, _, _, _, _, rfl, C6.ob, c_Code T, na_Code_children T, fl_Code_children _ _ _ _ _, Or.inl ⟨rfl, _, Evl.sq_of C6.h5⟩, sz (by decide), fun c hc => ?_⟩
    have nc5 : A.a5 ≠ c := fun z => C6.fresh hc (by rw [← z]; exact in_all5 A)
    refine ⟨A.a5, _, _, rfl, rfl, by rw [upd_ne nc5]; exact C6.h5, szl (by rw [List.length_map, C6.cl, List.length_map, stepRows_len]; omega), ?_⟩
    have C7 := C6.push hc
    have nc4 : c ≠ A.a4 := fun z => C6.fresh hc (by rw [z]; exact in_all4 A)
    have hcH : H c = none := fr5 c (by rw [upd_ne nc4] at hc; exact hc)
    have ea : addRow rows (.tuple (.str k :: r)) par = stepRows rows par ++ [⟨.tuple (.str k :: r), par, []⟩] := by cases par <;> rfl
    refine q c _ hcH ⟨L1 ++ [.ref a], ?_, ?_⟩ fun b o e hb => ?_
    · rw [ea, List.map_append, List.map_append, List.map_append, List.map_append, es, el, ep]
      exact C7
    · rw [ea, List.map_append, ed]
      exact dpA_app dL (.cons hd .nil)
    · have e5 := kp5 b o e hb
      have ncb : b ≠ c := fun z => by rw [z, hcH] at e; cases e
      rw [upd_ne (fun z => hb (by rw [z]; exact in_all5 A)), upd_ne ncb, upd_ne (fun z => hb (by rw [z]; exact in_all4 A))]
      exact e5
end
end Fc
set_option maxRecDepth 100000
set_option maxHeartbeats 4000000
namespace Fc
open PySem PySem.Spec PyProof.Rows L2 FcR
open Evl (Ex)
structure WIt where
  d : PyData
  par : Option Nat
  deep : Nat
  loops : Nat
  blocks : Nat
def okIt (it : WIt) (n : Nat) : Prop := n < 400 ∧ it.deep ≤ 100 ∧ it.blocks ≤ 25 ∧ isStm it.d (it.loops : Int) = true
def newIt (it : WIt) (n : Nat) (at_ : Nat) (part : PyData) : WIt :=
  ⟨part, some n, it.deep + 1, it.loops + (if kindD it.d = "while" then 1 else 0), it.blocks + (if kindD it.d = "final" ∧ at_ = 1 then 1 else 0)⟩
def newIts (it : WIt) (n : Nat) : List WIt := (partsD it.d).mapIdx fun i p => newIt it n i p
inductive Builds : Nat → List WIt → List Row → List Row → Prop
  | done (rows : List Row) : Builds 0 [] rows rows
  | step {n : Nat} {it : WIt} {st : List WIt} {rows fin : List Row} (ok : okIt it rows.length) (h : Builds n (newIts it rows.length ++ st) (addRow rows it.d it.par) fin) : Builds (n + 1) (it :: st) rows fin
theorem Builds.len {m : Nat} {st : List WIt} {rows fin : List Row} (b : Builds m st rows fin) : st.length ≤ m := by
  induction b with
  | done => exact Nat.le_refl _
  | step ok h ih =>
    rw [List.length_append] at ih
    rw [List.length_cons]
    omega
def wV (v : V) (it : WIt) : List V := [v, parV it.par, .int (it.deep : Int), .int (it.loops : Int), .int (it.blocks : Int)]
def parD : Option Nat → PyData
  | none => .none
  | some i => .int (i : Int)
def wD (it : WIt) : PyData := .tuple [it.d, parD it.par, .int (it.deep : Int), .int (it.loops : Int), .int (it.blocks : Int)]
/-- tuples at ts, the items st -/
inductive WAt (K : PySem.W.Frag) (F : Hp) : List Addr → List WIt → Prop
  | nil : WAt K F [] []
  | cons {t : Addr} {ts : List Addr} {it : WIt} {st : List WIt} {v : V} (h : F t = some (.tup (wV v it))) (hd : Dp K F v it.d) (r : WAt K F ts st) : WAt K F (t :: ts) (it :: st)
theorem WAt.ex {K : PySem.W.Frag} {F F' : Hp} (e : Ex F F') : ∀ {ts : List Addr} {st : List WIt}, WAt K F ts st → WAt K F' ts st
  | _, _, .nil => .nil
  | _, _, .cons h hd r => .cons (e _ _ h) (dp_ex e hd) (WAt.ex e r)
theorem WAt.len {K : PySem.W.Frag} {F : Hp} : ∀ {ts : List Addr} {st : List WIt}, WAt K F ts st → ts.length = st.length
  | _, _, .nil => rfl
  | _, _, .cons _ _ r => congrArg Nat.succ (WAt.len r)
theorem dp_par {K : PySem.W.Frag} {F : Hp} (o : Option Nat) : Dp K F (parV o) (parD o) := by
  cases o with
  | none => exact .non
  | some i => exact .int _
theorem WAt.dp {K : PySem.W.Frag} {F : Hp} : ∀ {ts : List Addr} {st : List WIt}, WAt K F ts st → DpAll K F (ts.map V.ref) (st.map wD)
  | _, _, .nil => .nil
  | _, _, .cons h hd r => .cons (.tup (Evl.st_of h) (.cons hd (.cons (dp_par _) (.cons (.int _) (.cons (.int _) (.cons (.int _) .nil)))))) (WAt.dp r)
theorem dpA_rev {K : PySem.W.Frag} {F : Hp} : ∀ {ds : List PyData} {vs : List V}, DpAll K F vs ds → DpAll K F vs.reverse ds.reverse
  | _, _, .nil => .nil
  | _, _, .cons h a => by
    rw [List.reverse_cons, List.reverse_cons]
    exact dpA_app (dpA_rev a) (.cons h .nil)
theorem canAll {l : List PyData} (h : ∀ d ∈ l, PyData.canLay0 d = true) : PyData.canLayAll0 l = true := by
  induction l with
  | nil => rfl
  | cons a l ih =>
    show (PyData.canLay0 a && PyData.canLayAll0 l) = true
    rw [h a List.mem_cons_self, ih fun d hd => h d (List.mem_cons_of_mem _ hd)] <;> rfl
theorem can_wD {it : WIt} (h : PyData.canLay0 it.d = true) : PyData.canLay0 (wD it) = true := by
  show (PyData.canLay0 it.d && (PyData.canLay0 (parD it.par) && (PyData.canLay0 (.int _) && (PyData.canLay0 (.int _) && (PyData.canLay0 (.int _) && PyData.canLayAll0 []))))) = true
  rw [h]
  cases it.par <;> rfl
theorem eqv_lnil (ds : List PyData) : PyData.eqv (.list ds) (.list []) = ds.isEmpty := by
  cases ds <;> simp [PyData.eqv, PyData.eqvAll]
theorem min_lnil (d : PyData) : min d.depth (PyData.list []).depth ≤ 200 := Nat.le_trans (Nat.min_le_right _ _) (by decide)
def sp_Code___init__ (K : PySem.W.Frag) : Sp := fun vs H Q _ => ∃ (F : Hp) (p dx : Addr) (v : V) (d : PyData) (G : PyData → Prop) (N : Nat) (fin : List Row), vs = [.ref p, v] ∧ H p = some (.ins (He.ga K "Code") dx []) ∧ Ex F H ∧ F p = none ∧ Dp K F v d ∧
  (∀ e, G e → PyData.canLay0 e = true ∧ szD e ∧ ∀ x ∈ partsD e, G x) ∧ G d ∧ Builds N [⟨d, none, 1, 0, 0⟩] [] fin ∧
  ∀ A F' H', A.p = p → Gr (fun b => b = p) F H F' H' → CodeH K F' F' A fin → Q .non H'
theorem nn_of {H : Hp} {a b : Addr} {o : HO} (h : H a = none) (h' : H b = some o) : b ≠ a := ne_of_none h' h
theorem up_none {H : Hp} {a b : Addr} {o : HO} (h : upd H a o b = none) : b ≠ a ∧ H b = none := by
  by_cases z : b = a
  · rw [z, upd_same] at h; cases h
  · rw [upd_ne z] at h; exact ⟨z, h⟩
/-- between two turns of the loop -/
structure InW (K : PySem.W.Frag) (F0 H : Hp) (p wq : Addr) (Gd : PyData → Prop) (st : List WIt) (rows : List Row) (A : CAd) (ts : List Addr) (F' H' : Hp) : Prop where
  ap : A.p = p
  code : CodeH K F' H' A rows
  na : ∀ b ∈ A.all, F' b = none
  wa : wq ∉ A.all
  fw : F' wq = none
  wl : H' wq = some (.lst (ts.map V.ref).reverse)
  wi : WAt K F' ts st
  ff : Ex F0 F'
  fh : Ex F' H'
  nw : ∀ b, H b ≠ none → F0 b = none → F' b = none
  kp : ∀ b o, H b = some o → b ≠ p → H' b = some o
  nh : ∀ b ∈ A.all, b = p ∨ H b = none
  hw : H wq = none
  it : ∀ i ∈ st, Gd i.d ∧ ∀ j, i.par = some j → j < rows.length
  ch : ∀ r ∈ rows, r.ch.length ≤ rows.length
theorem InW.fresh {K : PySem.W.Frag} {F0 H F' H' : Hp} {p wq : Addr} {Gd : PyData → Prop} {st : List WIt} {rows : List Row} {A : CAd} {ts : List Addr} (x : InW K F0 H p wq Gd st rows A ts F' H') {c : Addr} (h : H' c = none) : H c = none ∧ F' c = none ∧ c ∉ A.all ∧ c ≠ wq := by
  obtain ⟨vs, C, _⟩ := x.code
  have n : c ∉ A.all := C.fresh h
  have np : c ≠ p := fun z => n (by rw [z, ← x.ap]; simp [CAd.all])
  refine ⟨?_, ?_, n, fun z => by rw [z, x.wl] at h; cases h⟩
  · cases e : H c with
    | none => rfl
    | some o => rw [x.kp c o e np] at h; cases h
  · cases e : F' c with
    | none => rfl
    | some o => rw [x.fh c o e] at h; cases h
section
variable {K : PySem.W.Frag} {F0 H F' H' F2 H2 : Hp} {p wq : Addr} {Gd : PyData → Prop} {st : List WIt} {rows : List Row} {A : CAd} {ts : List Addr}
theorem CodeH.ex {F F2 H H2 : Hp} (c : CodeH K F H A rows) (e1 : Ex F F2) (e2 : Ex H H2) : CodeH K F2 H2 A rows := by
  obtain ⟨vs, C, dL⟩ := c
  exact ⟨vs, C.ex e2, dpA_ex e1 dL⟩
theorem InW.tr (x : InW K F0 H p wq Gd st rows A ts F' H') {b : Addr} (hb : b ∈ A.all) : H' b ≠ none := fun z => by
  obtain ⟨vs, C, _⟩ := x.code
  exact C.fresh z hb
theorem InW.there (x : InW K F0 H p wq Gd st rows A ts F' H') {b : Addr} (hb : H b ≠ none) : H' b ≠ none := by
  by_cases z : b = p
  · exact x.tr (by rw [z, ← x.ap]; simp [CAd.all])
  · intro y
    cases e : H b with
    | none => exact hb e
    | some o => rw [x.kp b o e z] at y; cases y
theorem InW.ext (x : InW K F0 H p wq Gd st rows A ts F' H') (e1 : Ex F' F2) (e2 : Ex F2 H2) (e3 : Ex H' H2) (e4 : ∀ b, H' b ≠ none → F' b = none → F2 b = none) : InW K F0 H p wq Gd st rows A ts F2 H2 :=
  ⟨x.ap, x.code.ex e1 e3, fun b hb => e4 b (x.tr hb) (x.na b hb), x.wa, e4 wq (by rw [x.wl]; exact fun z => nomatch z) x.fw, e3 _ _ x.wl, x.wi.ex e1, x.ff.trans e1, e2, fun b h1 h2 => e4 b (x.there h1) (x.nw b h1 h2), fun b o e hb => e3 b o (x.kp b o e hb), x.nh, x.hw, x.it, x.ch⟩
theorem InW.new (x : InW K F0 H p wq Gd st rows A ts F' H') {q : Addr} {o : HO} (h : H' q = none) : InW K F0 H p wq Gd st rows A ts F' (upd H' q o) :=
  x.ext (Evl.Ex.refl _) (exu x.fh h) (exu (Evl.Ex.refl _) h) fun _ _ e => e
theorem InW.pop {it : WIt} {t : Addr} (x : InW K F0 H p wq Gd (it :: st) rows A (t :: ts) F' H') : InW K F0 H p wq Gd st rows A ts F' (upd H' wq (.lst (ts.map V.ref).reverse)) := by
  obtain ⟨vs, C, dL⟩ := x.code
  refine ⟨x.ap, ⟨vs, C.off x.wa, dL⟩, x.na, x.wa, x.fw, upd_same, ?_, x.ff, exm x.fh x.fw, x.nw, fun b o e hb => ?_, x.nh, x.hw, fun i hi => x.it i (List.mem_cons_of_mem _ hi), x.ch⟩
  · cases x.wi with
    | cons _ _ r => exact r
  · rw [upd_ne (nn_of x.hw e)]
    exact x.kp b o e hb
theorem addRow_len (rows : List Row) (d : PyData) (par : Option Nat) : (addRow rows d par).length = rows.length + 1 := by
  cases par with
  | none => simp [addRow]
  | some i => simp [addRow, addCh]
theorem Builds.bd {m : Nat} {st : List WIt} {rows fin : List Row} (b : Builds m st rows fin) : m = 0 ∨ rows.length + m ≤ 400 := by
  induction b with
  | done => exact .inl rfl
  | step ok h ih =>
    rw [addRow_len] at ih
    have := ok.1
    omega
theorem addRow_ch {rows : List Row} {d : PyData} {par : Option Nat} (h : ∀ r ∈ rows, r.ch.length ≤ rows.length) : ∀ r ∈ addRow rows d par, r.ch.length ≤ (addRow rows d par).length := by
  rw [addRow_len]
  intro r hr
  rcases List.mem_append.mp hr with hr | hr
  · cases par with
    | none =>
      have := h r hr
      omega
    | some i =>
      have hr : r ∈ addCh rows i rows.length := hr
      obtain ⟨j, hj⟩ := List.mem_iff_getElem?.mp hr
      rw [addCh_eq, List.getElem?_modify] at hj
      cases e : rows[j]? with
      | none => rw [e] at hj; simp at hj
      | some r0 =>
        rw [e] at hj
        have h0 := h r0 (List.mem_of_getElem? e)
        by_cases z : i = j
        · simp [z] at hj
          rw [← hj]
          simp [noteCh]
          omega
        · simp [z] at hj
          rw [← hj]
          omega
  · rw [List.mem_singleton.mp hr]
    simp
theorem InW.kept (x : InW K F0 H p wq Gd st rows A ts F' H') {c : Addr} {d : PyData} {par : Option Nat} (hc : H' c = none) (cd : CodeH K F' H2 { A with cs := A.cs ++ [c] } (addRow rows d par)) (kp : ∀ b o, H' b = some o → b ∉ A.all → H2 b = some o) :
    InW K F0 H p wq Gd st (addRow rows d par) { A with cs := A.cs ++ [c] } ts F' H2 := by
  obtain ⟨f1, f2, f3, f4⟩ := x.fresh hc
  have mem : ∀ b, b ∈ ({ A with cs := A.cs ++ [c] } : CAd).all → b ∈ A.all ∨ b = c := fun b hb => by
    simp only [CAd.all, List.mem_cons, List.mem_append, List.not_mem_nil, or_false] at hb ⊢
    rcases hb with h | h | h | h | h | h | h | h <;> simp [h]
  refine ⟨x.ap, cd, fun b hb => ?_, fun hb => ?_, x.fw, kp _ _ x.wl x.wa, x.wi, x.ff, fun b o e => kp b o (x.fh b o e) (fun z => by rw [x.na b z] at e; cases e), x.nw, fun b o e hb => ?_, fun b hb => ?_, x.hw, fun i hi => ⟨(x.it i hi).1, fun j e => ?_⟩, addRow_ch x.ch⟩
  · rcases mem b hb with h | h
    · exact x.na b h
    · rw [h]; exact f2
  · rcases mem wq hb with h | h
    · exact x.wa h
    · exact f4 h.symm
  · refine kp b o (x.kp b o e hb) fun z => ?_
    rcases x.nh b z with y | y
    · exact hb y
    · rw [y] at e; cases e
  · rcases mem b hb with h | h
    · exact x.nh b h
    · rw [h]; exact .inr f1
  · rw [addRow_len]
    have := (x.it i hi).2 j e
    omega
theorem InW.push {it : WIt} {t : Addr} {v : V} (x : InW K F0 H p wq Gd st rows A ts F' H') (ht : H' t = none) (hd : Dp K F' v it.d) (hit : Gd it.d ∧ ∀ j, it.par = some j → j < rows.length) :
    InW K F0 H p wq Gd (it :: st) rows A (t :: ts) (upd F' t (.tup (wV v it))) (upd (upd H' t (.tup (wV v it))) wq (.lst (((t :: ts).map V.ref).reverse))) := by
  obtain ⟨f1, f2, f3, f4⟩ := x.fresh ht
  have x1 := x.ext (F2 := upd F' t (.tup (wV v it))) (H2 := upd H' t (.tup (wV v it))) (exu (Evl.Ex.refl _) f2) (fun b o e => by
      by_cases z : b = t
      · rw [z, upd_same] at e ⊢; exact e
      · rw [upd_ne z] at e ⊢; exact x.fh b o e) (exu (Evl.Ex.refl _) ht) (fun b h1 h2 => by rw [upd_ne (fun z => h1 (by rw [z]; exact ht))]; exact h2)
  obtain ⟨vs, C, dL⟩ := x1.code
  refine ⟨x.ap, ⟨vs, C.off x.wa, dL⟩, x1.na, x.wa, x1.fw, upd_same, .cons upd_same (dp_ex (exu (Evl.Ex.refl _) f2) hd) x1.wi, x1.ff, exm x1.fh x1.fw, x1.nw, fun b o e hb => ?_, x.nh, x.hw, fun i hi => ?_, x.ch⟩
  · rw [upd_ne (nn_of x.hw e)]
    exact x1.kp b o e hb
  · rcases List.mem_cons.mp hi with rfl | hi
    · exact hit
    · exact x.it i hi
end
theorem newIts_len (it : WIt) (n : Nat) : (newIts it n).length = (partsD it.d).length := by simp [newIts]
theorem newIts_get {it : WIt} {n j : Nat} {d : PyData} (h : (partsD it.d)[j]? = some d) : (newIts it n)[j]? = some (newIt it n j d) := by
  unfold newIts
  rw [List.getElem?_mapIdx, h] <;> rfl
theorem wV_new (v : V) (it : WIt) (n j : Nat) (d : PyData) : wV v (newIt it n j d) = [v, .int (n : Int), .int ((it.deep : Int) + 1), .int ((it.loops : Int) + (if decide (V.str (kindD it.d) = V.str "while") = true then 1 else 0)),
    .int ((it.blocks : Int) + (if kindD it.d = "final" ∧ j = 1 then 1 else 0))] := by
  have e1 : ((it.deep + 1 : Nat) : Int) = (it.deep : Int) + 1 := by omega
  have e2 : ((it.loops + (if kindD it.d = "while" then 1 else 0) : Nat) : Int) = (it.loops : Int) + (if decide (V.str (kindD it.d) = V.str "while") = true then 1 else 0) := by
    by_cases z : kindD it.d = "while"
    · rw [if_pos z, if_pos (decide_eq_true (by rw [z]))] <;> omega
    · rw [if_neg z, if_neg (fun y => z (V.str.inj (of_decide_eq_true y)))] <;> omega
  have e3 : ((it.blocks + (if kindD it.d = "final" ∧ j = 1 then 1 else 0) : Nat) : Int) = (it.blocks : Int) + (if kindD it.d = "final" ∧ j = 1 then 1 else 0) := by
    by_cases z : kindD it.d = "final" ∧ j = 1
    · rw [if_pos z, if_pos z] <;> omega
    · rw [if_neg z, if_neg z] <;> omega
  show [v, V.int (n : Int), V.int ((it.deep + 1 : Nat) : Int), V.int ((it.loops + (if kindD it.d = "while" then 1 else 0) : Nat) : Int), V.int ((it.blocks + (if kindD it.d = "final" ∧ j = 1 then 1 else 0) : Nat) : Int)] = _
  rw [e1, e2, e3]
section
variable {P : Program} {w : World} {h : Heap} {K : PySem.W.Frag} {mg : Str → Option Value} {base : Heap}
abbrev N_Code___init__ : List Str := ["self", "statement", "waiting", "value", "parent", "deep", "loops", "blocks", "number", "at", "part", "inside"]
theorem sc_Code___init__ : FnScope N_Code___init__ ["self", "statement"] (defScope sd_Code___init__) := ⟨rfl, rfl, rfl, by decide +kernel, rfl, by decide +kernel, by decide +kernel⟩
theorem okF_Code___init__ (T : Tx w h K mg) : ∃ fd, FnOk P w K mg base (CX P w) 6 (He.fAd K ("Code", some "__init__")) fd ["self", "statement"] (sp_Code___init__ K) ∧ Binds K fd ["self", "statement"] [] ∧ PySem.W.keepIn K (.ref (He.fAd K ("Code", some "__init__"))) = true ∧ FunD K "__init__" "Code.__init__" (defArgs sd_Code___init__) (defBody sd_Code___init__) (defScope sd_Code___init__) [] [] (He.fAd K ("Code", some "__init__")) fd := by
  obtain ⟨fd, F⟩ := F_Code___init__ T
  refine ⟨fd, ?_, F.bindsN (fun _ _ _ _ _ _ us hl => match us, hl with | [_, _], _ => rfl), F.kp, F⟩
  obtain ⟨fd_parts_in, G_parts_in, bi_parts_in, kp_parts_in⟩ := ok_parts_in (P := P) (base := base) T
  obtain ⟨fd_Code_check, G_Code_check, bi_Code_check, kp_Code_check⟩ := ok_Code_check (P := P) (base := base) T
  obtain ⟨fd_Code_keep, G_Code_keep, bi_Code_keep, kp_Code_keep⟩ := ok_Code_keep (P := P) (base := base) T
  refine F.ok sc_Code___init__ (fun vs H Q E h => ?_) (fun cdv A outer s H vs Q E hr h => ?_)
  · obtain ⟨F0, p, dx, v, d, Gd, N, fin, rfl, hp, xF, Fp, hd, hG, hGd, hB, q⟩ := h
    rfl
  · obtain ⟨F0, p, dx, v, d, Gd, N, fin, rfl, hp, xF, Fp, hd, hG, hGd, hB, q⟩ := h
    refine ⟨_, PSs.nox (Evl.pss_cut (ps_asg (pe_tup (pa_cons (pe_lst pa_nil) (pa_cons (pe_lst pa_nil) (pa_cons (pe_lst pa_nil) pa_nil)))) (pg_tup rfl (pgs_cons (FcR.pg_fld (pv 0)) (pgs_cons (FcR.pg_fld (pv 0)) (pgs_cons (FcR.pg_fld (pv 0)) pgs_nil))))) (Evl.pss_cut (ps_asg (pe_tup (pa_cons (pe_lst pa_nil) (pa_cons (pe_lst pa_nil) pa_nil))) (pg_tup rfl (pgs_cons (FcR.pg_fld (pv 0)) (pgs_cons (FcR.pg_fld (pv 0)) pgs_nil)))) (pss_cons (ps_set (i := 2) sc_Code___init__.nd rfl (Or.inl rfl) (pe_lst (pa_cons (pe_tup (pa_cons (pv 1) (pa_cons pe_non (pa_cons pe_int (pa_cons pe_int (pa_cons pe_int pa_nil)))))) pa_nil))) (pss_one (ps_while PassesOwn.never (pt_cmpR (op_neM hr) (pv 2) (pe_lst pa_nil) (nomark _)) (pss_cons (ps_asg (pe_bm0 PySem.F.plainAttrs_list PySem.F.slot_list_pop PySem.F.type_list_pop mt_pop (pv 2)) (pg_tup rfl (pgs_cons (pg_name (i := 3) sc_Code___init__.nd rfl (Or.inl rfl)) (pgs_cons (pg_name (i := 4) sc_Code___init__.nd rfl (Or.inl rfl)) (pgs_cons (pg_name (i := 5) sc_Code___init__.nd rfl (Or.inl rfl)) (pgs_cons (pg_name (i := 6) sc_Code___init__.nd rfl (Or.inl rfl)) (pgs_cons (pg_name (i := 7) sc_Code___init__.nd rfl (Or.inl rfl)) pgs_nil))))))) (pss_cons (ps_set (i := 8) sc_Code___init__.nd rfl (Or.inl rfl) (pe_callB call_len_seq rfl (fr_len T) b_len (pa_cons (pe_fld (pv 0) rfl) pa_nil))) (pss_cons (ps_expr (pe_meth (pv 0) (c_Code T) (me_Code_check T) G_Code_check (hr.mono (by decide)) bi_Code_check .nil passF (pa_cons (pv 3) (pa_cons (pv 8) (pa_cons (pv 5) (pa_cons (pv 6) (pa_cons (pv 7) pa_nil))))))) (pss_cons (ps_expr (pe_meth (pv 0) (c_Code T) (me_Code_keep T) G_Code_keep (hr.mono (by decide)) bi_Code_keep .nil passF (pa_cons (pv 3) (pa_cons (pv 4) pa_nil)))) (pss_one (ps_for PassesOwn.never rfl (pi_reversed rfl (fr_reversed T) (pa_cons (FcR.pe_listEnum rfl (pe_call G_parts_in (hr.mono (by decide)) rfl (g_parts_in T) kp_parts_in bi_parts_in .nil passF (pa_cons (pv 3) pa_nil)) rfl (fr_list T) b_list rfl (fr_enumerate T) b_enumerate) pa_nil)) (pg_tup rfl (pgs_cons (pg_name (i := 9) sc_Code___init__.nd rfl (Or.inl rfl)) (pgs_cons (pg_name (i := 10) sc_Code___init__.nd rfl (Or.inl rfl)) pgs_nil))) (Evl.pss_cut (ps_set (i := 11) sc_Code___init__.nd rfl (Or.inl rfl) (pe_op op_add (pv 7) (pe_callTy call_int1 rfl (fr_int T) b_int (pa_cons (pe_and (pe_cmpR op_eq (pe_ix ix_tup (pv 3) pe_int (fun _ _ => rfl)) pe_str (nomark _)) (pe_one (pe_cmpR op_eq (pv 9) pe_int (nomark _)))) pa_nil)))) (pss_one (ps_expr (pe_bm PySem.F.plainAttrs_list PySem.F.slot_list_append PySem.F.type_list_append mt_append (pv 2) (pa_cons (pe_tup (pa_cons (pv 10) (pa_cons (pv 8) (pa_cons (pe_op op_add (pv 5) pe_int) (pa_cons (pe_op op_add (pv 6) (pe_callTy call_int1 rfl (fr_int T) b_int (pa_cons (pe_cmpR op_eq (pe_ix ix_tup (pv 3) pe_int (fun _ _ => rfl)) pe_str (nomark _)) pa_nil))) (pa_cons (pv 11) pa_nil)))))) pa_nil)))))))))))))))), ?_⟩
    refine ⟨fun σ' H' => σ' = L2.start N_Code___init__ [.ref p, v] ∧ ∃ q1 q2 q3, H q1 = none ∧ H q2 = none ∧ H q3 = none ∧ q2 ≠ q1 ∧ q3 ≠ q1 ∧ q3 ≠ q2 ∧ H' q1 = some (.lst []) ∧ H' q2 = some (.lst []) ∧ H' q3 = some (.lst []) ∧
      H' p = some (.ins (He.ga K "Code") dx [("statements", .ref q1), ("kinds", .ref q2), ("labels", .ref q3)]) ∧ (∀ b o, H b = some o → b ≠ p → H' b = some o) ∧ (∀ b, H' b = none → H b = none), ?_, ?_⟩
    · refine ⟨sz (by simp), fun q1 f1 => ⟨sz (by simp), fun q2 f2 => ⟨sz (by simp), fun q3 f3 => ⟨sz (by simp), fun t1 g1 => ?_⟩⟩⟩⟩
      obtain ⟨n2a, f2⟩ := up_none f2
      obtain ⟨n3b, f3⟩ := up_none f3
      obtain ⟨n3a, f3⟩ := up_none f3
      obtain ⟨n1c, g1⟩ := up_none g1
      obtain ⟨n1b, g1⟩ := up_none g1
      obtain ⟨n1a, g1⟩ := up_none g1
      have p1 := nn_of f1 hp
      have p2 := nn_of f2 hp
      have p3 := nn_of f3 hp
      have p4 := nn_of g1 hp
      refine ⟨t1, _, rfl, Evl.st_of upd_same, rfl, _, _, rfl, _, rfl, p, _, dx, _, rfl, (by rw [upd_ne p4, upd_ne p3, upd_ne p2, upd_ne p1]; exact hp), c_Code T, na_Code_statements T, (by simp), ?_⟩
      rw [fi_Code_0]
      refine ⟨_, _, rfl, _, rfl, p, _, dx, _, rfl, upd_same, c_Code T, na_Code_kinds T, (by simp), ?_⟩
      rw [fi_Code_1, upd_upd]
      refine ⟨_, _, rfl, _, rfl, p, _, dx, _, rfl, upd_same, c_Code T, na_Code_labels T, (by simp), rfl, ?_⟩
      rw [fi_Code_2, upd_upd]
      refine ⟨rfl, q1, q2, q3, f1, f2, f3, n2a, n3a, n3b, ?_, ?_, ?_, upd_same, fun b o e hb => ?_, fun b e => ?_⟩
      · rw [upd_ne p1.symm, upd_ne n1a.symm, upd_ne n3a.symm, upd_ne n2a.symm, upd_same]
      · rw [upd_ne p2.symm, upd_ne n1b.symm, upd_ne n3b.symm, upd_same]
      · rw [upd_ne p3.symm, upd_ne n1c.symm, upd_same]
      · rw [upd_ne hb, upd_ne (nn_of g1 e), upd_ne (nn_of f3 e), upd_ne (nn_of f2 e), upd_ne (nn_of f1 e)]
        exact e
      · exact (up_none (up_none (up_none (up_none (up_none e).2).2).2).2).2
    rintro σ' H1 ⟨rfl, q1, q2, q3, f1, f2, f3, n21, n31, n32, h1, h2, h3, hp1, kp1, fr1⟩
    -- self.parents, self.children = ([], [])
    refine ⟨fun σ' H' => σ' = L2.start N_Code___init__ [.ref p, v] ∧ ∃ A : CAd, A.p = p ∧ A.dx = dx ∧ A.cs = [] ∧ CL K H' A [] [] [] [] [] ∧ (∀ b ∈ A.all, b = p ∨ H b = none) ∧ (∀ b o, H b = some o → b ≠ p → H' b = some o) ∧ (∀ b, H' b = none → H b = none), ?_, ?_⟩
    · refine ⟨sz (by simp), fun q4 f4 => ⟨sz (by simp), fun q5 f5 => ⟨sz (by simp), fun t2 g2 => ?_⟩⟩⟩
      obtain ⟨n54, f5⟩ := up_none f5
      obtain ⟨m5, g2⟩ := up_none g2
      obtain ⟨m4, g2⟩ := up_none g2
      have p4 := nn_of f4 hp1
      have p5 := nn_of f5 hp1
      have pt := nn_of g2 hp1
      refine ⟨t2, _, rfl, Evl.st_of upd_same, rfl, _, _, rfl, _, rfl, p, _, dx, _, rfl, (by rw [upd_ne pt, upd_ne p5, upd_ne p4]; exact hp1), c_Code T, na_Code_parents T, (by simp), ?_⟩
      rw [fi_Code_3]
      refine ⟨_, _, rfl, _, rfl, p, _, dx, _, rfl, upd_same, c_Code T, na_Code_children T, (by simp), rfl, ?_⟩
      rw [fi_Code_4, upd_upd]
      have a1 := nn_of f4 h1
      have a2 := nn_of f4 h2
      have a3 := nn_of f4 h3
      have b1 := nn_of f5 h1
      have b2 := nn_of f5 h2
      have b3 := nn_of f5 h3
      have c1 := nn_of g2 h1
      have c2 := nn_of g2 h2
      have c3 := nn_of g2 h3
      have pn1 : p ≠ q1 := nn_of f1 hp
      have pn2 : p ≠ q2 := nn_of f2 hp
      have pn3 : p ≠ q3 := nn_of f3 hp
      refine ⟨rfl, ⟨p, dx, q1, q2, q3, q4, q5, []⟩, rfl, rfl, rfl, ⟨upd_same, ?_, ?_, ?_, ?_, ?_, rfl, fun i c x e => by simp at e, ?_⟩, ?_, fun b o e hb => ?_, fun b e => ?_⟩
      · show upd _ p _ q1 = _
        rw [upd_ne pn1.symm, upd_ne c1, upd_ne b1, upd_ne a1]
        exact h1
      · show upd _ p _ q2 = _
        rw [upd_ne pn2.symm, upd_ne c2, upd_ne b2, upd_ne a2]
        exact h2
      · show upd _ p _ q3 = _
        rw [upd_ne pn3.symm, upd_ne c3, upd_ne b3, upd_ne a3]
        exact h3
      · show upd _ p _ q4 = _
        rw [upd_ne p4.symm, upd_ne m4.symm, upd_ne n54.symm, upd_same]
      · show upd _ p _ q5 = _
        rw [upd_ne p5.symm, upd_ne m5.symm, upd_same] <;> rfl
      · show [p, q1, q2, q3, q4, q5].Nodup
        simp only [List.nodup_cons, List.mem_cons, List.not_mem_nil, or_false, not_or, List.nodup_nil, and_true, not_false_eq_true]
        exact ⟨⟨pn1, pn2, pn3, p4, p5⟩, ⟨n21.symm, n31.symm, a1, b1⟩, ⟨n32.symm, a2, b2⟩, ⟨a3, b3⟩, n54.symm⟩
      · intro b hb
        have hb : b ∈ [p, q1, q2, q3, q4, q5] := hb
        simp only [List.mem_cons, List.not_mem_nil, or_false] at hb
        rcases hb with rfl | rfl | rfl | rfl | rfl | rfl
        · exact .inl rfl
        · exact .inr f1
        · exact .inr f2
        · exact .inr f3
        · exact .inr (fr1 _ f4)
        · exact .inr (fr1 _ f5)
      · have e1 := kp1 b o e hb
        rw [upd_ne hb, upd_ne (nn_of g2 e1), upd_ne (nn_of f5 e1), upd_ne (nn_of f4 e1)]
        exact e1
      · exact fr1 _ (up_none (up_none (up_none (up_none e).2).2).2).2
    rintro σ' H2 ⟨rfl, A, rfl, rfl, ac, C, nA, kp2, fr2⟩
    -- waiting = [(statement, None, 1, 0, 0)]
    refine ⟨_, rfl, sz (by simp), fun t3 g3 => ⟨sz (by simp), fun wq gw => ?_⟩⟩
    obtain ⟨nwt, gw⟩ := up_none gw
    have gt : H2 t3 = none := g3
    have ft : F0 t3 = none := Evl.fresh_back xF (fr2 t3 gt)
    have v0 : InW K F0 H A.p wq Gd [⟨d, none, 1, 0, 0⟩] [] A [t3] (upd F0 t3 (.tup [v, .non, .int 1, .int 0, .int 0])) (upd (upd H2 t3 (.tup [v, .non, .int 1, .int 0, .int 0])) wq (.lst [.ref t3])) := by
      have C1 := (C.off (o := .tup [v, .non, .int 1, .int 0, .int 0]) (C.fresh gt))
      have nwA : wq ∉ A.all := C.fresh gw
      have C2 := C1.off (o := .lst [.ref t3]) nwA
      have xx : Ex F0 (upd F0 t3 (.tup [v, .non, .int 1, .int 0, .int 0])) := exu (Evl.Ex.refl F0) ft
      have fA : ∀ b ∈ A.all, F0 b = none := fun b hb => by
        rcases nA b hb with rfl | e
        · exact Fp
        · exact Evl.fresh_back xF e
      have ntA : t3 ∉ A.all := C.fresh gt
      refine ⟨rfl, ⟨[], C2, .nil⟩, fun b hb => ?_, nwA, ?_, upd_same, .cons upd_same (dp_ex xx hd) .nil, xx, fun b o e => ?_, fun b e1 e2 => ?_, fun b o e hb => ?_, nA, fr2 wq gw, fun i hi => ?_, fun r hr => by cases hr⟩
      · rw [upd_ne (fun z => ntA (by rw [← z]; exact hb))]
        exact fA b hb
      · rw [upd_ne nwt]
        exact Evl.fresh_back xF (fr2 wq gw)
      · by_cases z : b = t3
        · rw [z, upd_same] at e
          cases e
          rw [z, upd_ne nwt.symm, upd_same]
        · rw [upd_ne z] at e
          have e2 := xF b o e
          have nb : b ≠ A.p := fun y => by rw [y, Fp] at e; cases e
          rw [upd_ne (nn_of (fr2 wq gw) e2), upd_ne z]
          exact kp2 b o e2 nb
      · rw [upd_ne (fun z => e1 (by rw [z]; exact fr2 t3 gt))]
        exact e2
      · rw [upd_ne (nn_of (fr2 wq gw) e), upd_ne (nn_of (fr2 t3 gt) e)]
        exact kp2 b o e hb
      · rw [List.mem_singleton.mp hi]
        exact ⟨hGd, fun j e => by cases e⟩
    refine ⟨fun m σ' H' => ∃ st rows B ts F' o3 o4 o5 o6 o7 o8 o9 o10 o11, Builds m st rows fin ∧ σ' = [some (.ref A.p), some v, some (.ref wq), o3, o4, o5, o6, o7, o8, o9, o10, o11] ∧ InW K F0 H A.p wq Gd st rows B ts F' H', ⟨N, _, _, _, _, _, _, _, _, _, _, _, _, _, _, hB, rfl, v0⟩, ?_⟩
    rintro m σ' H3 ⟨st, rows, B, ts, F3, o3, o4, o5, o6, o7, o8, o9, o10, o11, bd, rfl, I3⟩
    -- waiting != []
    have hcan : PyData.canLay0 (.list (st.map wD).reverse) = true := canAll fun e he => by
      obtain ⟨i, hi, rfl⟩ := List.mem_map.mp (List.mem_reverse.mp he)
      exact can_wD (hG _ (I3.it i hi).1).1
    refine ⟨_, rfl, sz (by simp), fun p4 g4 => ?_⟩
    obtain ⟨r1, r2, r3, r4⟩ := I3.fresh g4
    have hdl : Dp K (upd H3 p4 (.lst [])) (.ref wq) (.list (st.map wD).reverse) := .lst (Evl.sq_of (by rw [upd_ne r4.symm]; exact I3.wl)) (dpA_rev (dpA_ex (exu I3.fh g4) I3.wi.dp))
    refine ⟨_, _, hdl, .lst (Evl.sq_of upd_same) .nil, hcan, rfl, min_lnil _, _, rfl, ite_of (fun h4 => ?_) (fun h4 => ?_)⟩
    · cases bd with
      | done => simp [PyData.eqv, PyData.eqvAll] at h4
      | @step n it st' _ _ ok bd =>
      cases hts : I3.wi with
      | @cons t ts' _ _ v1 ht hv1 hr =>
      have I4 := (I3.new (o := .lst []) g4).pop
      refine ⟨fun σ' H' => ∃ st rows B ts F' o3 o4 o5 o6 o7 o8 o9 o10 o11, Builds n st rows fin ∧ σ' = [some (.ref A.p), some v, some (.ref wq), o3, o4, o5, o6, o7, o8, o9, o10, o11] ∧ InW K F0 H A.p wq Gd st rows B ts F' H', fun σ' H' w => ⟨n, Nat.lt_succ_self _, w⟩, ?_⟩
      -- value, parent, deep, loops, blocks = waiting.pop()
      have wl4 : upd H3 p4 (.lst []) wq = some (.lst ((ts'.map V.ref).reverse ++ [.ref t])) := by
        rw [upd_ne r4.symm, I3.wl] <;> simp
      refine ⟨_, rfl, Or.inl ⟨rfl, _, Evl.sq_of wl4⟩, wq, _, .ref t, rfl, rfl, wl4, by simp, ?_⟩
      rw [List.dropLast_concat]
      refine ⟨t, wV v1 it, rfl, Evl.st_of (I4.fh _ _ ht), rfl, _, _, rfl, _, _, rfl, _, _, rfl, _, _, rfl, _, _, rfl, rfl, ?_⟩
      -- number = len(self.kinds)
      obtain ⟨L1, C4, dL4⟩ := id I4.code
      have ob4 : ∀ {H' : Hp} {L1 L2 L3 L4 : List V} {Cs : List (List V)}, CL K H' B L1 L2 L3 L4 Cs → H' A.p = some (.ins (He.ga K "Code") B.dx (cFs B)) := fun C => by rw [← I3.ap]; exact C.ob
      refine ⟨_, rfl, A.p, _, _, _, _, rfl, ob4 C4, c_Code T, na_Code_kinds T, fl_Code_kinds _ _ _ _ _, B.a2, _, rfl, .inl (Evl.sq_of C4.h2), ?_⟩
      have hgi := hG _ (I3.it it List.mem_cons_self).1
      obtain ⟨k1, k2, k3, k4⟩ := id ok
      have ln : (rows.map fun r => V.str (kindD r.d)).length = rows.length := List.length_map _
      -- self.check(..)
      refine ⟨_, rfl, A.p, _, _, rfl, ob4 C4, fm_Code_check _ _ _ _ _, _, rfl, _, rfl, _, rfl, _, rfl, _, rfl, .ref A.p, v1, it.d, _, _, _, _, rfl, dp_ex I4.fh hv1, hgi.1, hgi.2.1, (by rw [ln]; omega), (by omega), (by omega), k4, fun H5 x5 => ?_⟩
      have I5 := I4.ext (Evl.Ex.refl _) (I4.fh.trans x5) x5 fun _ _ e => e
      obtain ⟨L1', C5, dL5⟩ := id I5.code
      -- self.keep(value, parent)
      refine ⟨_, rfl, A.p, _, _, rfl, ob4 C5, fm_Code_keep _ _ _ _ _, _, rfl, _, rfl, F3, B, rows, v1, it.d, _, it.par, (by rw [← I3.ap] <;> rfl), I5.fh, I5.code, I5.na, hv1, k4, (by omega), fun i e => ?_, fun c H6 hc6 cd6 kp6 => ?_⟩
      · have li := (I3.it it List.mem_cons_self).2 i e
        refine ⟨rows[i], List.getElem?_eq_getElem li, ?_⟩
        have := I3.ch rows[i] (List.getElem_mem li)
        omega
      have I6 := I5.kept hc6 cd6 kp6
      -- for at, part in reversed(list(enumerate(parts_in(value))))
      refine ⟨_, rfl, F3, v1, it.d, _, rfl, I6.fh, hv1, k4, fun pp H7 xs fp7 x7 hl7 dA7 => ?_⟩
      have I7 := I6.ext (Evl.Ex.refl _) (I6.fh.trans x7) x7 fun _ _ e => e
      refine ⟨pp, xs, rfl, Evl.sq_of hl7, fun H8 pe te k8 fpe fte npe nd8 lte hpe hte => ?_⟩
      have L8 : ∀ b ∈ pe :: te, H7 b = none := fun b hb => by
        rcases List.mem_cons.mp hb with e | hb
        · rw [e]; exact fpe
        · exact fte b hb
      have I8 : InW K F0 H A.p wq Gd st' (addRow rows it.d it.par) { B with cs := B.cs ++ [c] } ts' (frz F3 H8 (pe :: te)) H8 :=
        I7.ext (frz_ex fun b hb => (I7.fresh (L8 b hb)).2.1) (frz_le (I7.fh.trans k8)) k8 fun b h1 h2 => by rw [frz_out (fun z => h1 (L8 b z))]; exact h2
      have lx : xs.length = (partsD it.d).length := dpA_len dA7
      have x38 : Ex F3 (frz F3 H8 (pe :: te)) := frz_ex fun b hb => (I7.fresh (L8 b hb)).2.1
      obtain ⟨kk, rr, _, ek, _, _, _⟩ := isStm_shape k4
      obtain ⟨va, vxs, rfl, vS, vA⟩ := dp_tup (ek ▸ hv1)
      cases vA with
      | @cons vk vxr _ _ vk0 vA =>
      obtain rfl := dp_str vk0
      have ekd : kindD it.d = kk := by rw [ek] <;> rfl
      refine ⟨pe, _, rfl, Evl.sq_of hpe, for_it walk_rev (fun i σ' H' => ∃ ts'' F'' o9 o10 o11, σ' = [some (.ref A.p), some v, some (.ref wq), some (.ref va), some (parV it.par), some (.int (it.deep : Int)), some (.int (it.loops : Int)), some (.int (it.blocks : Int)), some (.int ((rows.map fun r => V.str (kindD r.d)).length : Int)), o9, o10, o11] ∧
        InW K F0 H A.p wq Gd ((newIts it rows.length).drop (te.length - i) ++ st') (addRow rows it.d it.par) { B with cs := B.cs ++ [c] } ts'' F'' H' ∧ Ex (frz F3 H8 (pe :: te)) F'') ?_ ?_ ?_ ?_⟩
      · refine ⟨ts', _, o9, o10, o11, rfl, ?_, Evl.Ex.refl _⟩
        rw [Nat.sub_zero, List.drop_eq_nil_of_le (by rw [newIts_len, lte, lx]; exact Nat.le_refl _)]
        exact I8
      · rintro i σ' H' _ ⟨ts'', F'', _, _, _, _, I9, x9⟩
        exact Evl.sq_of (I9.fh _ _ (x9 _ _ (by rw [frz_in List.mem_cons_self]; exact hpe)))
      · rintro i x σ' H9x H9 hi ⟨ts'', F'', u9, u10, u11, rfl, I9, x9⟩ ⟨rfl, hx⟩
        rw [List.length_map] at hi hx
        have lj : te.length - 1 - i < te.length := by omega
        have htj : te[te.length - 1 - i]? = some te[te.length - 1 - i] := List.getElem?_eq_getElem lj
        rw [List.getElem?_map, htj] at hx
        cases hx
        have lxj : te.length - 1 - i < xs.length := by rw [← lte]; exact lj
        have hxj : xs[te.length - 1 - i]? = some xs[te.length - 1 - i] := List.getElem?_eq_getElem lxj
        have lpj : te.length - 1 - i < (partsD it.d).length := by rw [← lx]; exact lxj
        have hpj : (partsD it.d)[te.length - 1 - i]? = some (partsD it.d)[te.length - 1 - i] := List.getElem?_eq_getElem lpj
        obtain ⟨u, hu, hdu⟩ := dpA_get dA7 hpj
        rw [hxj] at hu
        cases hu
        have htu := hte _ _ _ htj hxj
        have htF : H9 te[te.length - 1 - i] = some (.tup [.int ((te.length - 1 - i : Nat) : Int), xs[te.length - 1 - i]]) := I9.fh _ _ (x9 _ _ (by rw [frz_in (List.mem_cons_of_mem _ (List.getElem_mem lj))]; exact htu))
        have vS9 : SqT K H9 va (V.str kk :: vxr) := Evl.ex_t ((x38.trans x9).trans I9.fh) vS
        refine ⟨_, _, rfl, Evl.st_of htF, rfl, _, _, rfl, _, _, rfl, rfl, ?_⟩
        -- inside = ..
        refine ⟨fun σ' H' => H' = H9 ∧ σ' = [some (.ref A.p), some v, some (.ref wq), some (.ref va), some (parV it.par), some (.int (it.deep : Int)), some (.int (it.loops : Int)), some (.int (it.blocks : Int)), some (.int ((rows.map fun r => V.str (kindD r.d)).length : Int)), some (.int ((te.length - 1 - i : Nat) : Int)), some xs[te.length - 1 - i], some (.int ((it.blocks : Int) + (if kindD it.d = "final" ∧ te.length - 1 - i = 1 then 1 else 0)))], ?_, ?_⟩
        · refine ⟨_, rfl, _, rfl, va, _, _, _, rfl, rfl, vS9, at0, rfl, _, rfl, ite_of (fun h5 => ?_) (fun h5 => ?_)⟩
          · have e5 : kk = "final" := V.str.inj (of_decide_eq_true h5)
            refine ⟨_, rfl, rfl, .inr ⟨_, rfl, _, _, rfl, rfl, rfl, ?_⟩⟩
            by_cases z : te.length - 1 - i = 1
            · rw [if_pos (show kindD it.d = "final" ∧ te.length - 1 - i = 1 from ⟨by rw [ekd, e5], z⟩), if_pos (decide_eq_true (by rw [z] <;> rfl))] <;> rfl
            · rw [if_neg (show ¬ (kindD it.d = "final" ∧ te.length - 1 - i = 1) from fun y => z y.2), if_neg (fun y => z (by have := V.int.inj (of_decide_eq_true y); omega))] <;> rfl
          · have e5 : ¬ kk = "final" := fun e => by
              have y : decide (V.str kk = V.str "final") = true := decide_eq_true (by rw [e])
              rw [y] at h5
              cases h5
            refine .inr ⟨_, rfl, _, _, rfl, rfl, rfl, ?_⟩
            rw [if_neg (show ¬ (kindD it.d = "final" ∧ te.length - 1 - i = 1) from fun y => e5 (by rw [← ekd]; exact y.1))] <;> rfl
        rintro σ' H' ⟨rfl, rfl⟩
        -- waiting.append(..)
        refine ⟨_, rfl, Or.inl ⟨rfl, _, Evl.sq_of I9.wl⟩, _, rfl, _, rfl, _, rfl, _, _, rfl, rfl, _, rfl, _, rfl, va, _, _, _, rfl, rfl, vS9, at0, rfl, .inr ⟨_, rfl, _, _, rfl, rfl, _, rfl, sz (by simp), fun tn htn => ?_⟩⟩
        obtain ⟨z1, z2, z3, z4⟩ := I9.fresh htn
        refine ⟨wq, _, _, rfl, rfl, (by rw [upd_ne z4.symm]; exact I9.wl), szl ?_, ?_⟩
        · have b1 := bd.len
          have b2 := bd.bd
          rw [List.length_append] at b1
          rw [List.length_reverse, List.length_map, I9.wi.len, List.length_append, List.length_drop]
          omega
        have I10 := I9.push (it := newIt it rows.length (te.length - 1 - i) (partsD it.d)[te.length - 1 - i]) (v := xs[te.length - 1 - i]) htn (dp_ex (x38.trans x9) hdu) ⟨hgi.2.2 _ (List.getElem_mem lpj), fun j e => by cases e; rw [addRow_len]; omega⟩
        have e6 : (newIts it rows.length).drop (te.length - (i + 1)) = newIt it rows.length (te.length - 1 - i) (partsD it.d)[te.length - 1 - i] :: (newIts it rows.length).drop (te.length - i) := by
          have e7 : te.length - (i + 1) = te.length - 1 - i := by omega
          have l7 : te.length - 1 - i < (newIts it rows.length).length := by rw [newIts_len]; exact lpj
          have g7 : (newIts it rows.length)[te.length - 1 - i] = newIt it rows.length (te.length - 1 - i) (partsD it.d)[te.length - 1 - i] := by
            have y := newIts_get (n := rows.length) hpj
            rw [List.getElem?_eq_getElem l7] at y
            exact Option.some.inj y
          rw [e7, List.drop_eq_getElem_cons l7, g7]
          congr 2
          omega
        refine ⟨tn :: ts'', upd F'' tn (.tup (wV xs[te.length - 1 - i] (newIt it rows.length (te.length - 1 - i) (partsD it.d)[te.length - 1 - i]))), _, _, _, rfl, ?_, x9.trans (exu (Evl.Ex.refl _) z2)⟩
        rw [e6, List.cons_append]
        have eH : upd (upd H' tn (.tup (wV xs[te.length - 1 - i] (newIt it rows.length (te.length - 1 - i) (partsD it.d)[te.length - 1 - i])))) wq (.lst (((tn :: ts'').map V.ref).reverse)) =
            upd (upd H' tn (.tup [xs[te.length - 1 - i], .int ((rows.map fun r => V.str (kindD r.d)).length : Int), .int ((it.deep : Int) + 1), .int ((it.loops : Int) + (if decide (V.str kk = V.str "while") = true then 1 else 0)), .int ((it.blocks : Int) + (if kindD it.d = "final" ∧ te.length - 1 - i = 1 then 1 else 0))])) wq (.lst ((ts''.map V.ref).reverse ++ [.ref tn])) := by
          rw [wV_new, ln, ekd, List.map_cons, List.reverse_cons]
        rw [eH] at I10
        exact I10
      · rintro σ' H9 ⟨ts'', F'', u9, u10, u11, rfl, I9, x9⟩
        rw [List.length_map, Nat.sub_self, List.drop_zero] at I9
        exact ⟨_, _, _, _, _, _, _, _, _, _, _, _, _, _, bd, rfl, I9⟩
    · rw [eqv_lnil] at h4
      cases bd with
      | step ok bd => simp at h4
      | done =>
      have I5 := I3.new (o := .lst []) g4
      obtain ⟨vs, C5, dL5⟩ := id I5.code
      have xf : Ex F3 (frz F3 (upd H3 p4 (.lst [])) B.all) := frz_ex I5.na
      refine q B (frz F3 (upd H3 p4 (.lst [])) B.all) _ I5.ap ⟨I5.ff.trans xf, frz_le I5.fh, fun b h1 h2 h3 => ?_, fun b o e hb => I5.kp b o e hb⟩ ⟨vs, ?_, dpA_ex xf dL5⟩
      · rw [frz_out (fun z => by
          rcases I5.nh b z with y | y
          · exact h3 y
          · exact h1 y)]
        exact I5.nw b h1 h2
      · have at_ : ∀ {b : Addr} {o : HO}, b ∈ B.all → upd H3 p4 (.lst []) b = some o → frz F3 (upd H3 p4 (.lst [])) B.all b = some o := fun hb e => by rw [frz_in hb]; exact e
        exact ⟨at_ (by simp [CAd.all]) C5.ob, at_ (in_all1 B) C5.h1, at_ (in_all2 B) C5.h2, at_ (in_all3 B) C5.h3, at_ (in_all4 B) C5.h4, at_ (in_all5 B) C5.h5, C5.cl, fun i c x h1 h2 => at_ (in_allc (List.mem_of_getElem? h1)) (C5.cc i c x h1 h2), C5.nd⟩
theorem ok_Code___init__ (T : Tx w h K mg) : Ok P w K mg base 6 ("Code", some "__init__") ["self", "statement"] (sp_Code___init__ K) := by
  obtain ⟨fd, a, b, c, _⟩ := okF_Code___init__ (P := P) (base := base) T
  exact ⟨fd, a, b, c⟩
end
theorem make_of {H H2 : Hp} {q dx C : Addr} {fs : List (Str × V)} (e : upd (upd H dx (.own q)) q (.ins C dx fs) = H2) (nq : H q = none) (nd : H dx = none) : Ex H H2 ∧ H2 q = some (.ins C dx fs) := by
  subst e
  refine ⟨fun b o hb => ?_, upd_same⟩
  rw [upd_ne (ne_of_none hb nq), upd_ne (ne_of_none hb nd)]
  exact hb
end Fc
set_option maxRecDepth 100000
set_option maxHeartbeats 4000000
namespace FcM
inductive Way where
  | nrm
  | ret
  | rai
  | brk (k : Nat)
  | cnt (k : Nat)
  deriving DecidableEq
inductive Node where
  | do_
  | call
  | ret
  | rai
  | brk (k : Nat)
  | cnt (k : Nat)
  | iff (a b : Nat)
  | whl (a : Nat)
  | seq (l : List Nat)
  | tr (a b : Nat)
  | fin (a b : Nat)
def Node.ch : Node → List Nat
  | .iff a b => [a, b]
  | .whl a => [a]
  | .seq l => l
  | .tr a b => [a, b]
  | .fin a b => [a, b]
  | _ => []
structure Tab where
  len : Nat
  nd : Nat → Node
  pr : Nat → Option Nat
structure Tab.WF (t : Tab) (lp : Nat → Nat) : Prop where
  ne : 0 < t.len
  root : t.pr 0 = none
  lp0 : lp 0 = 0
  dn : ∀ n, n < t.len → ∀ c ∈ (t.nd n).ch, n < c ∧ c < t.len ∧ t.pr c = some n ∧ lp c = lp n + (match t.nd n with | .whl _ => 1 | _ => 0)
  nd : ∀ n, n < t.len → (t.nd n).ch.Nodup
  pu : ∀ n p, n < t.len → t.pr n = some p → p < t.len
  sq : ∀ n l, n < t.len → t.nd n = .seq l → l ≠ []
  bk : ∀ n k, n < t.len → t.nd n = .brk k → 1 ≤ k ∧ k ≤ lp n
  ct : ∀ n k, n < t.len → t.nd n = .cnt k → 1 ≤ k ∧ k ≤ lp n
inductive Ent (t : Tab) : Nat → Nat → Nat → Prop
  | here {n : Nat} (h : ∀ l, t.nd n ≠ .seq l) (h2 : ∀ a b, t.nd n ≠ .tr a b) (h3 : ∀ a b, t.nd n ≠ .fin a b) : Ent t 0 n n
  | seq {k n c e : Nat} {l : List Nat} (h : t.nd n = .seq (c :: l)) (r : Ent t k c e) : Ent t (k + 1) n e
  | tr {k n a b e : Nat} (h : t.nd n = .tr a b) (r : Ent t k a e) : Ent t (k + 1) n e
  | fin {k n a b e : Nat} (h : t.nd n = .fin a b) (r : Ent t k a e) : Ent t (k + 1) n e
/-- the height of a part -/
inductive Hg (t : Tab) : Nat → Nat → Prop
  | mk {h n : Nat} (r : ∀ c ∈ (t.nd n).ch, Hg t h c) : Hg t (h + 1) n
def decW : Way → Way
  | .brk k => if k = 1 then .nrm else .brk (k - 1)
  | .cnt k => .cnt (k - 1)
  | w => w
def again (w : Way) : Bool := decide (w = .nrm) || decide (w = .cnt 1)
abbrev Pd := List (Nat × Way)
/-- a part is left in a way: the walker's next place, or the end -/
inductive Lv (t : Tab) : Nat → Way → Pd → Nat ⊕ Way → Pd → Prop
  | top {n : Nat} {w : Way} {P : Pd} (h : t.pr n = none) : Lv t n w P (.inr w) P
  | seqN {n p m k e : Nat} {l l1 l2 : List Nat} {P : Pd} (h : t.pr n = some p) (hd : t.nd p = .seq l) (hl : l = l1 ++ n :: m :: l2) (he : Ent t k m e) : Lv t n .nrm P (.inl e) P
  | seqU {n p : Nat} {w : Way} {l : List Nat} {P P' : Pd} {r : Nat ⊕ Way} (h : t.pr n = some p) (hd : t.nd p = .seq l) (hw : w ≠ .nrm ∨ l.getLast? = some n) (up : Lv t p w P r P') : Lv t n w P r P'
  | whlA {n p : Nat} {w : Way} {P : Pd} (h : t.pr n = some p) (hd : t.nd p = .whl n) (hw : again w = true) : Lv t n w P (.inl p) P
  | whlU {n p : Nat} {w : Way} {P P' : Pd} {r : Nat ⊕ Way} (h : t.pr n = some p) (hd : t.nd p = .whl n) (hw : again w = false) (up : Lv t p (decW w) P r P') : Lv t n w P r P'
  | tryH {n p b k e : Nat} {P : Pd} (h : t.pr n = some p) (hd : t.nd p = .tr n b) (he : Ent t k b e) : Lv t n .rai P (.inl e) P
  | tryU {n p a b : Nat} {w : Way} {P P' : Pd} {r : Nat ⊕ Way} (h : t.pr n = some p) (hd : t.nd p = .tr a b) (hw : w ≠ .rai ∨ n ≠ a) (up : Lv t p w P r P') : Lv t n w P r P'
  | iffU {n p a b : Nat} {w : Way} {P P' : Pd} {r : Nat ⊕ Way} (h : t.pr n = some p) (hd : t.nd p = .iff a b) (up : Lv t p w P r P') : Lv t n w P r P'
  | finB {n p b k e : Nat} {w : Way} {P : Pd} (h : t.pr n = some p) (hd : t.nd p = .fin n b) (he : Ent t k b e) : Lv t n w P (.inl e) (P ++ [(p, w)])
  | finE {n p a : Nat} {P : Pd} (h : t.pr n = some p) (hd : t.nd p = .fin a n) (hn : n ≠ a) : Lv t n .nrm P (.inl p) P
  | finO {n p a : Nat} {w : Way} {P P' : Pd} {x : Nat × Way} {r : Nat ⊕ Way} (h : t.pr n = some p) (hd : t.nd p = .fin a n) (hn : n ≠ a) (hw : w ≠ .nrm) (up : Lv t p w P r P') : Lv t n w (P ++ [x]) r P'
structure Cfg where
  at_ : Nat ⊕ Way
  pd : Pd
  us : Nat
  vs : List Nat
def asks : Node → Bool
  | .call => true
  | .iff _ _ => true
  | .whl _ => true
  | _ => false
/-- the way of a place that does not ask -/
def wayN : Node → Way
  | .ret => .ret
  | .rai => .rai
  | .brk k => .brk k
  | .cnt k => .cnt k
  | _ => .nrm
def quiet : Node → Prop
  | .do_ => True
  | .ret => True
  | .rai => True
  | .brk _ => True
  | .cnt _ => True
  | _ => False
/-- what a place does with an answer: where the walker stands then -/
inductive Dp1 (t : Tab) (s : Nat) (x : Bool) : Pd → Nat ⊕ Way → Pd → Prop
  | iff {a b k e : Nat} {P : Pd} (h : t.nd s = .iff a b) (he : Ent t k (if x then b else a) e) : Dp1 t s x P (.inl e) P
  | whlT {a k e : Nat} {P : Pd} (h : t.nd s = .whl a) (hx : x = true) (he : Ent t k a e) : Dp1 t s x P (.inl e) P
  | whlF {a : Nat} {P P' : Pd} {r : Nat ⊕ Way} (h : t.nd s = .whl a) (hx : x = false) (l : Lv t s .nrm P r P') : Dp1 t s x P r P'
  | call {P P' : Pd} {r : Nat ⊕ Way} (h : t.nd s = .call) (l : Lv t s (if x then .rai else .nrm) P r P') : Dp1 t s x P r P'
  | fin {a b q : Nat} {w : Way} {P P' : Pd} {r : Nat ⊕ Way} (h : t.nd s = .fin a b) (l : Lv t s w P r P') : Dp1 t s x (P ++ [(q, w)]) r P'
  | quiet {P P' : Pd} {r : Nat ⊕ Way} (h : quiet (t.nd s)) (l : Lv t s (wayN (t.nd s)) P r P') : Dp1 t s x P r P'
inductive Step (t : Tab) (bits : List Bool) : Cfg → Cfg → Prop
  | ask {s : Nat} {x : Bool} {P P' : Pd} {u : Nat} {v : List Nat} {r : Nat ⊕ Way} (h : asks (t.nd s) = true) (hu : bits[u]? = some x) (d : Dp1 t s x P r P') : Step t bits ⟨.inl s, P, u, v⟩ ⟨r, P', u + 1, v ++ [s]⟩
  | on {s : Nat} {P P' : Pd} {u : Nat} {v : List Nat} {r : Nat ⊕ Way} (h : asks (t.nd s) = false) (d : Dp1 t s false P r P') : Step t bits ⟨.inl s, P, u, v⟩ ⟨r, P', u, v ++ [s]⟩
inductive Stop (t : Tab) (bits : List Bool) : Cfg → Prop
  | fin {w : Way} {P : Pd} {u : Nat} {v : List Nat} : Stop t bits ⟨.inr w, P, u, v⟩
  | wait {s : Nat} {P : Pd} {u : Nat} {v : List Nat} (h : asks (t.nd s) = true) (hu : bits[u]? = none) : Stop t bits ⟨.inl s, P, u, v⟩
inductive Re (t : Tab) (bits : List Bool) (B : Nat) : Nat → Cfg → Cfg → Prop
  | stop {c : Cfg} (h : Stop t bits c) (hb : c.pd.length ≤ B) : Re t bits B 0 c c
  | step {n : Nat} {c d e : Cfg} (h : Step t bits c d) (hb : c.pd.length ≤ B) (r : Re t bits B n d e) : Re t bits B (n + 1) c e
abbrev Wt := (Nat × Pd) ⊕ Way
abbrev Rs := Wt × Nat × List Nat
def loopF (bits : List Bool) (n : Nat) (P : Pd) (body : Nat → List Nat → Rs) : Nat → Nat → List Nat → Rs
  | 0, u, v => (.inl (n, P), u, v)
  | f + 1, u, v => match bits[u]? with
    | none => (.inl (n, P), u, v)
    | some false => (.inr .nrm, u + 1, v ++ [n])
    | some true => match body (u + 1) (v ++ [n]) with
      | (.inl x, u', v') => (.inl x, u', v')
      | (.inr w, u', v') => if again w = true then loopF bits n P body f u' v' else (.inr (decW w), u', v')
def seqF (go : Nat → Nat → List Nat → Rs) : List Nat → Rs → Rs
  | [], r => r
  | c :: cs, (w, u, v) => if w = .inr .nrm then seqF go cs (go c u v) else seqF go cs (w, u, v)
def finF (n : Nat) (w : Way) : Rs → Rs
  | (.inl x, u, v) => (.inl x, u, v)
  | (.inr w2, u, v) => if w2 = .nrm then (.inr w, u, v ++ [n]) else (.inr w2, u, v)
def goF (t : Tab) (bits : List Bool) : Nat → Nat → Pd → Nat → List Nat → Rs
  | 0, n, P, u, v => (.inl (n, P), u, v)
  | h + 1, n, P, u, v => match t.nd n with
    | .whl a => loopF bits n P (goF t bits h a P) (bits.length + 1) u v
    | .fin a b => match goF t bits h a P u v with
      | (.inl x, u1, v1) => (.inl x, u1, v1)
      | (.inr w, u1, v1) => finF n w (goF t bits h b (P ++ [(n, w)]) u1 v1)
    | .call => match bits[u]? with
      | none => (.inl (n, P), u, v)
      | some x => (.inr (if x then .rai else .nrm), u + 1, v ++ [n])
    | .iff a b => match bits[u]? with
      | none => (.inl (n, P), u, v)
      | some x => goF t bits h (if x then b else a) P (u + 1) (v ++ [n])
    | .seq l => seqF (fun c => goF t bits h c P) l (.inr .nrm, u, v)
    | .tr a b => match goF t bits h a P u v with
      | (.inr .rai, u1, v1) => goF t bits h b P u1 v1
      | r => r
    | d => (.inr (wayN d), u, v ++ [n])
def WOk (l : Nat) : Way → Prop
  | .brk k => 1 ≤ k ∧ k ≤ l
  | .cnt k => 1 ≤ k ∧ k ≤ l
  | _ => True
section
variable {t : Tab} {lp : Nat → Nat} {bits : List Bool}
/-- behind leaving n in the way w the walker comes to cf -/
def After (t : Tab) (bits : List Bool) (B n : Nat) (w : Way) (P : Pd) (u : Nat) (v : List Nat) (cf : Cfg) : Prop := ∃ r P' N, Lv t n w P r P' ∧ Re t bits B N ⟨r, P', u, v⟩ cf
/-- from the entry of n the walker comes to cf -/
def From (t : Tab) (bits : List Bool) (B n : Nat) (P : Pd) (u : Nat) (v : List Nat) (cf : Cfg) : Prop := ∃ k e N, Ent t k n e ∧ Re t bits B N ⟨.inl e, P, u, v⟩ cf
/-- what the walker does of what the law reckons -/
def Good (t : Tab) (bits : List Bool) (B : Nat) (lp : Nat → Nat) (n : Nat) (P : Pd) (u : Nat) (v : List Nat) : Rs → Prop
  | (.inr w, u', v') => u ≤ u' ∧ u' ≤ bits.length ∧ WOk (lp n) w ∧ ∀ cf, After t bits B n w P u' v' cf → From t bits B n P u v cf
  | (.inl x, u', v') => u ≤ u' ∧ u' ≤ bits.length ∧ ∃ cf, From t bits B n P u v cf ∧ cf.vs = v' ∧ cf.us = u' ∧ cf.at_ = .inl x.1 ∧ cf.pd = x.2
end
end FcM
set_option maxRecDepth 100000
set_option maxHeartbeats 4000000
namespace FcM
section
variable {t : Tab} {lp : Nat → Nat} {bits : List Bool} {B : Nat}
theorem bit_lt {u : Nat} {x : Bool} (h : bits[u]? = some x) : u + 1 ≤ bits.length := (List.getElem?_eq_some_iff.mp h).1
theorem from_wait {n : Nat} {P : Pd} {u : Nat} {v : List Nat} (he : Ent t 0 n n) (ha : asks (t.nd n) = true) (hu : bits[u]? = none) (hB : P.length ≤ B) : From t bits B n P u v ⟨.inl n, P, u, v⟩ := ⟨0, n, 0, he, .stop (.wait ha hu) hB⟩
theorem Ent.self {k n e : Nat} (h : Ent t k n e) (h1 : ∀ l, t.nd n ≠ .seq l) (h2 : ∀ a b, t.nd n ≠ .tr a b) (h3 : ∀ a b, t.nd n ≠ .fin a b) : e = n := by
  cases h with
  | here => rfl
  | seq h _ => exact absurd h (h1 _)
  | tr h _ => exact absurd h (h2 _ _)
  | fin h _ => exact absurd h (h3 _ _)
theorem seqF_stop {go : Nat → Nat → List Nat → Rs} {w : Wt} {u : Nat} {v : List Nat} (hw : w ≠ .inr .nrm) : ∀ cs : List Nat, seqF go cs (w, u, v) = (w, u, v)
  | [] => rfl
  | c :: cs => by
    show (if w = .inr .nrm then _ else seqF go cs (w, u, v)) = _
    rw [if_neg hw, seqF_stop hw cs]
theorem dec_ok {l : Nat} {w : Way} (h : WOk (l + 1) w) (ha : again w = false) : WOk l (decW w) := by
  cases w with
  | nrm => trivial
  | ret => trivial
  | rai => trivial
  | brk k =>
    show WOk l (if k = 1 then .nrm else .brk (k - 1))
    by_cases hk : k = 1
    · rw [if_pos hk]; trivial
    · rw [if_neg hk]
      have h1 : 1 ≤ k ∧ k ≤ l + 1 := h
      show 1 ≤ k - 1 ∧ k - 1 ≤ l
      omega
  | cnt k =>
    have h1 : 1 ≤ k ∧ k ≤ l + 1 := h
    have hk : k ≠ 1 := fun z => by subst z; simp [again] at ha
    show 1 ≤ k - 1 ∧ k - 1 ≤ l
    omega
/-- the loop of a while at n with the part a -/
theorem loop_good (W : t.WF lp) {n a : Nat} (hn : n < t.len) (hd : t.nd n = .whl a) {body : Nat → List Nat → Rs} {P : Pd} (hB : P.length ≤ B) (hb : ∀ u v, u ≤ bits.length → Good t bits B lp a P u v (body u v)) :
    ∀ f u v, bits.length - u < f → u ≤ bits.length → Good t bits B lp n P u v (loopF bits n P body f u v) := by
  have he : Ent t 0 n n := .here (fun l => by rw [hd]; exact fun z => nomatch z) (fun a b => by rw [hd]; exact fun z => nomatch z) (fun a b => by rw [hd]; exact fun z => nomatch z)
  have ha : asks (t.nd n) = true := by rw [hd]; rfl
  obtain ⟨c1, c2, c3, c4⟩ := W.dn n hn a (by rw [hd]; exact List.mem_singleton.mpr rfl)
  rw [hd] at c4
  have c4 : lp a = lp n + 1 := c4
  intro f
  induction f with
  | zero => exact fun u v h => absurd h (Nat.not_lt_zero _)
  | succ f ih =>
    intro u v hf hu
    cases hx : bits[u]? with
    | none =>
      have e : loopF bits n P body (f + 1) u v = (.inl (n, P), u, v) := by simp only [loopF, hx]
      rw [e]
      exact ⟨Nat.le_refl _, hu, _, from_wait he ha hx hB, rfl, rfl, rfl, rfl⟩
    | some x =>
      have hl := bit_lt hx
      cases x with
      | false =>
        have e : loopF bits n P body (f + 1) u v = (.inr .nrm, u + 1, v ++ [n]) := by simp only [loopF, hx]
        rw [e]
        refine ⟨by omega, hl, trivial, fun cf h => ?_⟩
        obtain ⟨r, P', N, l, re⟩ := h
        exact ⟨0, n, N + 1, he, .step (.ask ha hx (.whlF hd rfl l)) hB re⟩
      | true =>
        have g := hb (u + 1) (v ++ [n]) hl
        have up : ∀ cf, From t bits B a P (u + 1) (v ++ [n]) cf → From t bits B n P u v cf := fun cf h => by
          obtain ⟨k, e, N, en, re⟩ := h
          exact ⟨0, n, N + 1, he, .step (.ask ha hx (.whlT hd rfl en)) hB re⟩
        rcases hr : body (u + 1) (v ++ [n]) with ⟨w, u', v'⟩
        rw [hr] at g
        cases w with
        | inl x =>
          have e : loopF bits n P body (f + 1) u v = (.inl x, u', v') := by simp only [loopF, hx, hr]
          rw [e]
          obtain ⟨g1, g2, cf, g3, g4⟩ := g
          exact ⟨by omega, g2, cf, up cf g3, g4⟩
        | inr w =>
          obtain ⟨g1, g2, g3, g4⟩ := g
          by_cases hw : again w = true
          · have e : loopF bits n P body (f + 1) u v = loopF bits n P body f u' v' := by simp only [loopF, hx, hr, hw, if_true]
            rw [e]
            have g := ih u' v' (by omega) g2
            have go : ∀ cf, From t bits B n P u' v' cf → From t bits B n P u v cf := fun cf h => by
              obtain ⟨k, e', N, en, re⟩ := h
              have z := en.self (fun l => by rw [hd]; exact fun z => nomatch z) (fun a b => by rw [hd]; exact fun z => nomatch z) (fun a b => by rw [hd]; exact fun z => nomatch z)
              subst z
              exact up cf (g4 cf ⟨_, _, _, .whlA c3 hd hw, re⟩)
            rcases hr2 : loopF bits n P body f u' v' with ⟨w2, u2, v2⟩
            rw [hr2] at g
            cases w2 with
            | inl x =>
              obtain ⟨k1, k2, cf, k3, k4⟩ := g
              exact ⟨by omega, k2, cf, go cf k3, k4⟩
            | inr w2 =>
              obtain ⟨k1, k2, k3, k4⟩ := g
              exact ⟨by omega, k2, k3, fun cf h => go cf (k4 cf h)⟩
          · have hw : again w = false := by simpa using hw
            have e : loopF bits n P body (f + 1) u v = (.inr (decW w), u', v') := by simp [loopF, hx, hr, hw]
            rw [e]
            refine ⟨by omega, g2, dec_ok (by rw [c4] at g3; exact g3) hw, fun cf h => ?_⟩
            obtain ⟨r, P', N, l, re⟩ := h
            exact up cf (g4 cf ⟨r, P', N, .whlU c3 hd hw l, re⟩)
theorem seq_good (W : t.WF lp) {n : Nat} {l : List Nat} (hn : n < t.len) (hd : t.nd n = .seq l) {go : Nat → Nat → List Nat → Rs} {P : Pd} (hb : ∀ c ∈ l, ∀ u v, u ≤ bits.length → Good t bits B lp c P u v (go c u v)) :
    ∀ (cs l1 : List Nat) (c u : Nat) (v : List Nat), l = l1 ++ c :: cs → u ≤ bits.length → (match seqF go (c :: cs) (.inr .nrm, u, v) with
      | (.inr w, u', v') => u ≤ u' ∧ u' ≤ bits.length ∧ WOk (lp n) w ∧ ∀ cf, After t bits B n w P u' v' cf → From t bits B c P u v cf
      | (.inl x, u', v') => u ≤ u' ∧ u' ≤ bits.length ∧ ∃ cf, From t bits B c P u v cf ∧ cf.vs = v' ∧ cf.us = u' ∧ cf.at_ = .inl x.1 ∧ cf.pd = x.2) := by
  intro cs
  induction cs with
  | nil =>
    intro l1 c u v hl hu
    have hc : c ∈ l := by rw [hl]; simp
    obtain ⟨c1, c2, c3, c4⟩ := W.dn n hn c (by rw [hd]; exact hc)
    rw [hd] at c4
    have c4 : lp c = lp n := c4
    have g := hb c hc u v hu
    have e : seqF go [c] (.inr .nrm, u, v) = go c u v := by simp [seqF]
    rw [e]
    rcases hr : go c u v with ⟨w, u', v'⟩
    rw [hr] at g
    cases w with
    | inl x => exact g
    | inr w =>
      obtain ⟨g1, g2, g3, g4⟩ := g
      refine ⟨g1, g2, by rw [← c4]; exact g3, fun cf h => ?_⟩
      obtain ⟨r, P', N, lv, re⟩ := h
      exact g4 cf ⟨r, P', N, .seqU c3 hd (.inr (by rw [hl]; simp)) lv, re⟩
  | cons m cs ih =>
    intro l1 c u v hl hu
    have hc : c ∈ l := by rw [hl]; simp
    obtain ⟨c1, c2, c3, c4⟩ := W.dn n hn c (by rw [hd]; exact hc)
    rw [hd] at c4
    have c4 : lp c = lp n := c4
    have g := hb c hc u v hu
    have e : seqF go (c :: m :: cs) (.inr .nrm, u, v) = seqF go (m :: cs) (go c u v) := by simp [seqF]
    rw [e]
    rcases hr : go c u v with ⟨w, u', v'⟩
    rw [hr] at g
    cases w with
    | inl x =>
      rw [seqF_stop (w := .inl x) (fun z => nomatch z)]
      exact g
    | inr w =>
      obtain ⟨g1, g2, g3, g4⟩ := g
      by_cases hw : w = .nrm
      · subst hw
        have i := ih (l1 ++ [c]) m u' v' (by rw [hl]; simp) g2
        rcases hr2 : seqF go (m :: cs) (.inr .nrm, u', v') with ⟨w2, u2, v2⟩
        rw [hr2] at i
        have go' : ∀ cf, From t bits B m P u' v' cf → From t bits B c P u v cf := fun cf h => by
          obtain ⟨k, e', N, en, re⟩ := h
          exact g4 cf ⟨_, _, _, .seqN c3 hd hl en, re⟩
        cases w2 with
        | inl x =>
          obtain ⟨k1, k2, cf, k3, k4⟩ := i
          exact ⟨by omega, k2, cf, go' cf k3, k4⟩
        | inr w2 =>
          obtain ⟨k1, k2, k3, k4⟩ := i
          exact ⟨by omega, k2, k3, fun cf h => go' cf (k4 cf h)⟩
      · rw [seqF_stop (fun z => hw (Sum.inr.inj z))]
        refine ⟨g1, g2, by rw [← c4]; exact g3, fun cf h => ?_⟩
        obtain ⟨r, P', N, lv, re⟩ := h
        exact g4 cf ⟨r, P', N, .seqU c3 hd (.inl hw) lv, re⟩
theorem quiet_good (W : t.WF lp) {n : Nat} (hn : n < t.len) (hq : quiet (t.nd n)) {P : Pd} {u : Nat} {v : List Nat} (hB : P.length ≤ B) (hu : u ≤ bits.length) : Good t bits B lp n P u v (.inr (wayN (t.nd n)), u, v ++ [n]) := by
  have he : Ent t 0 n n := .here (fun l e => by rw [e] at hq; exact hq) (fun a b e => by rw [e] at hq; exact hq) (fun a b e => by rw [e] at hq; exact hq)
  have ha : asks (t.nd n) = false := by
    cases e : t.nd n <;> rw [e] at hq <;> first | rfl | exact hq.elim
  refine ⟨Nat.le_refl _, hu, ?_, fun cf h => ?_⟩
  · cases e : t.nd n with
    | brk k => exact W.bk n k hn e
    | cnt k => exact W.ct n k hn e
    | do_ => trivial
    | ret => trivial
    | rai => trivial
    | call => trivial
    | iff a b => trivial
    | whl a => trivial
    | seq l => trivial
    | tr a b => trivial
    | fin a b => trivial
  · obtain ⟨r, P', N, lv, re⟩ := h
    exact ⟨0, n, N + 1, he, .step (.on ha (.quiet hq lv)) hB re⟩
theorem main (W : t.WF lp) : ∀ h n, Hg t h n → n < t.len → ∀ (P : Pd) (u : Nat) (v : List Nat), P.length + h ≤ B → u ≤ bits.length → Good t bits B lp n P u v (goF t bits h n P u v) := by
  intro h
  induction h with
  | zero => exact fun n hg => nomatch hg
  | succ h ih =>
    intro n hg hn P u v hPB hu
    have hB : P.length ≤ B := by omega
    have hP : P.length + h ≤ B := by omega
    cases hg with
    | mk hg =>
    have q : ∀ d, t.nd n = d → quiet d → goF t bits (h + 1) n P u v = (.inr (wayN d), u, v ++ [n]) → Good t bits B lp n P u v (goF t bits (h + 1) n P u v) := fun d e hq e2 => by
      rw [e2, ← e]
      exact quiet_good W hn (by rw [e]; exact hq) hB hu
    cases hd : t.nd n with
    | do_ => exact q _ hd trivial (by simp only [goF, hd])
    | ret => exact q _ hd trivial (by simp only [goF, hd])
    | rai => exact q _ hd trivial (by simp only [goF, hd])
    | brk k => exact q _ hd trivial (by simp only [goF, hd])
    | cnt k => exact q _ hd trivial (by simp only [goF, hd])
    | whl a =>
      have e : goF t bits (h + 1) n P u v = loopF bits n P (goF t bits h a P) (bits.length + 1) u v := by simp only [goF, hd]
      rw [e]
      have ma : a ∈ (t.nd n).ch := by rw [hd]; exact List.mem_singleton.mpr rfl
      obtain ⟨c1, c2, c3, c4⟩ := W.dn n hn a ma
      exact loop_good W hn hd hB (fun u v hu => ih a (hg a ma) c2 P u v hP hu) _ u v (by omega) hu
    | call =>
      have he : Ent t 0 n n := .here (fun l => by rw [hd]; exact fun z => nomatch z) (fun a b => by rw [hd]; exact fun z => nomatch z) (fun a b => by rw [hd]; exact fun z => nomatch z)
      have ha : asks (t.nd n) = true := by rw [hd]; rfl
      cases hx : bits[u]? with
      | none =>
        have e : goF t bits (h + 1) n P u v = (.inl (n, P), u, v) := by simp only [goF, hd, hx]
        rw [e]
        exact ⟨Nat.le_refl _, hu, _, from_wait he ha hx hB, rfl, rfl, rfl, rfl⟩
      | some x =>
        have e : goF t bits (h + 1) n P u v = (.inr (if x then .rai else .nrm), u + 1, v ++ [n]) := by simp only [goF, hd, hx]
        rw [e]
        refine ⟨by omega, bit_lt hx, by cases x <;> trivial, fun cf h => ?_⟩
        obtain ⟨r, P', N, lv, re⟩ := h
        exact ⟨0, n, N + 1, he, .step (.ask ha hx (.call hd lv)) hB re⟩
    | iff a b =>
      have he : Ent t 0 n n := .here (fun l => by rw [hd]; exact fun z => nomatch z) (fun a b => by rw [hd]; exact fun z => nomatch z) (fun a b => by rw [hd]; exact fun z => nomatch z)
      have ha : asks (t.nd n) = true := by rw [hd]; rfl
      cases hx : bits[u]? with
      | none =>
        have e : goF t bits (h + 1) n P u v = (.inl (n, P), u, v) := by simp only [goF, hd, hx]
        rw [e]
        exact ⟨Nat.le_refl _, hu, _, from_wait he ha hx hB, rfl, rfl, rfl, rfl⟩
      | some x =>
        have e : goF t bits (h + 1) n P u v = goF t bits h (if x then b else a) P (u + 1) (v ++ [n]) := by simp only [goF, hd, hx]
        rw [e]
        have mc : (if x then b else a) ∈ (t.nd n).ch := by rw [hd]; cases x <;> simp [Node.ch]
        obtain ⟨c1, c2, c3, c4⟩ := W.dn n hn _ mc
        rw [hd] at c4
        have c4 : lp (if x then b else a) = lp n := c4
        have g := ih _ (hg _ mc) c2 P (u + 1) (v ++ [n]) hP (bit_lt hx)
        have up : ∀ cf, From t bits B (if x then b else a) P (u + 1) (v ++ [n]) cf → From t bits B n P u v cf := fun cf h => by
          obtain ⟨k, e', N, en, re⟩ := h
          exact ⟨0, n, N + 1, he, .step (.ask ha hx (.iff hd en)) hB re⟩
        rcases hr : goF t bits h (if x then b else a) P (u + 1) (v ++ [n]) with ⟨w, u', v'⟩
        rw [hr] at g
        cases w with
        | inl x =>
          obtain ⟨g1, g2, cf, g3, g4⟩ := g
          exact ⟨by omega, g2, cf, up cf g3, g4⟩
        | inr w =>
          obtain ⟨g1, g2, g3, g4⟩ := g
          refine ⟨by omega, g2, by rw [← c4]; exact g3, fun cf h => ?_⟩
          obtain ⟨r, P', N, lv, re⟩ := h
          exact up cf (g4 cf ⟨r, P', N, .iffU c3 hd lv, re⟩)
    | seq l =>
      have e : goF t bits (h + 1) n P u v = seqF (fun c => goF t bits h c P) l (.inr .nrm, u, v) := by simp only [goF, hd]
      rw [e]
      have hne := W.sq n l hn hd
      obtain ⟨c, cs, rfl⟩ : ∃ c cs, l = c :: cs := by
        cases l with
        | nil => exact absurd rfl hne
        | cons c cs => exact ⟨c, cs, rfl⟩
      have mem : ∀ c' ∈ c :: cs, c' ∈ (t.nd n).ch := fun c' hc => by rw [hd]; exact hc
      have g := seq_good W hn hd (go := fun c => goF t bits h c P) (P := P) (fun c' hc u v hu => ih c' (hg c' (mem c' hc)) (W.dn n hn c' (mem c' hc)).2.1 P u v hP hu) cs [] c u v rfl hu
      have up : ∀ cf, From t bits B c P u v cf → From t bits B n P u v cf := fun cf h => by
        obtain ⟨k, e', N, en, re⟩ := h
        exact ⟨k + 1, e', N, .seq hd en, re⟩
      rcases hr : seqF (fun c => goF t bits h c P) (c :: cs) (.inr .nrm, u, v) with ⟨w, u', v'⟩
      rw [hr] at g
      cases w with
      | inl x =>
        obtain ⟨g1, g2, cf, g3, g4⟩ := g
        exact ⟨g1, g2, cf, up cf g3, g4⟩
      | inr w =>
        obtain ⟨g1, g2, g3, g4⟩ := g
        exact ⟨g1, g2, g3, fun cf h => up cf (g4 cf h)⟩
    | tr a b =>
      have ma : a ∈ (t.nd n).ch := by rw [hd]; simp [Node.ch]
      have mb : b ∈ (t.nd n).ch := by rw [hd]; simp [Node.ch]
      obtain ⟨c1, c2, c3, c4⟩ := W.dn n hn a ma
      obtain ⟨b1, b2, b3, b4⟩ := W.dn n hn b mb
      rw [hd] at c4 b4
      have c4 : lp a = lp n := c4
      have b4 : lp b = lp n := b4
      have nab : b ≠ a := by
        have z := W.nd n hn
        rw [hd] at z
        simp [Node.ch] at z
        exact fun y => z y.symm
      have g := ih a (hg a ma) c2 P u v hP hu
      have up : ∀ cf, From t bits B a P u v cf → From t bits B n P u v cf := fun cf h => by
        obtain ⟨k, e', N, en, re⟩ := h
        exact ⟨k + 1, e', N, .tr hd en, re⟩
      rcases hr : goF t bits h a P u v with ⟨w, u', v'⟩
      rw [hr] at g
      cases w with
      | inl x =>
        have e : goF t bits (h + 1) n P u v = (.inl x, u', v') := by simp only [goF, hd, hr]
        rw [e]
        obtain ⟨g1, g2, cf, g3, g4⟩ := g
        exact ⟨g1, g2, cf, up cf g3, g4⟩
      | inr w =>
        obtain ⟨g1, g2, g3, g4⟩ := g
        by_cases hw : w = .rai
        · subst hw
          have e : goF t bits (h + 1) n P u v = goF t bits h b P u' v' := by simp only [goF, hd, hr]
          rw [e]
          have i := ih b (hg b mb) b2 P u' v' hP g2
          have go' : ∀ cf, From t bits B b P u' v' cf → From t bits B n P u v cf := fun cf h => by
            obtain ⟨k, e', N, en, re⟩ := h
            exact up cf (g4 cf ⟨_, _, _, .tryH c3 hd en, re⟩)
          rcases hr2 : goF t bits h b P u' v' with ⟨w2, u2, v2⟩
          rw [hr2] at i
          cases w2 with
          | inl x =>
            obtain ⟨k1, k2, cf, k3, k4⟩ := i
            exact ⟨by omega, k2, cf, go' cf k3, k4⟩
          | inr w2 =>
            obtain ⟨k1, k2, k3, k4⟩ := i
            refine ⟨by omega, k2, by rw [← b4]; exact k3, fun cf h => ?_⟩
            obtain ⟨r, P', N, lv, re⟩ := h
            exact go' cf (k4 cf ⟨r, P', N, .tryU b3 hd (.inr nab) lv, re⟩)
        · have e : goF t bits (h + 1) n P u v = (.inr w, u', v') := by
            simp only [goF, hd, hr]
            cases w <;> first | rfl | exact absurd rfl hw
          rw [e]
          refine ⟨g1, g2, by rw [← c4]; exact g3, fun cf h => ?_⟩
          obtain ⟨r, P', N, lv, re⟩ := h
          exact up cf (g4 cf ⟨r, P', N, .tryU c3 hd (.inl hw) lv, re⟩)
    | fin a b =>
      have ma : a ∈ (t.nd n).ch := by rw [hd]; simp [Node.ch]
      have mb : b ∈ (t.nd n).ch := by rw [hd]; simp [Node.ch]
      obtain ⟨c1, c2, c3, c4⟩ := W.dn n hn a ma
      obtain ⟨b1, b2, b3, b4⟩ := W.dn n hn b mb
      rw [hd] at c4 b4
      have c4 : lp a = lp n := c4
      have b4 : lp b = lp n := b4
      have nab : b ≠ a := by
        have z := W.nd n hn
        rw [hd] at z
        simp [Node.ch] at z
        exact fun y => z y.symm
      have g := ih a (hg a ma) c2 P u v hP hu
      have up : ∀ cf, From t bits B a P u v cf → From t bits B n P u v cf := fun cf h => by
        obtain ⟨k, e', N, en, re⟩ := h
        exact ⟨k + 1, e', N, .fin hd en, re⟩
      rcases hr : goF t bits h a P u v with ⟨w, u', v'⟩
      rw [hr] at g
      cases w with
      | inl x =>
        have e : goF t bits (h + 1) n P u v = (.inl x, u', v') := by simp only [goF, hd, hr]
        rw [e]
        obtain ⟨g1, g2, cf, g3, g4⟩ := g
        exact ⟨g1, g2, cf, up cf g3, g4⟩
      | inr w =>
        obtain ⟨g1, g2, g3, g4⟩ := g
        have e : goF t bits (h + 1) n P u v = finF n w (goF t bits h b (P ++ [(n, w)]) u' v') := by simp only [goF, hd, hr]
        rw [e]
        have i := ih b (hg b mb) b2 (P ++ [(n, w)]) u' v' (by simp; omega) g2
        have go' : ∀ cf, From t bits B b (P ++ [(n, w)]) u' v' cf → From t bits B n P u v cf := fun cf h => by
          obtain ⟨k, e', N, en, re⟩ := h
          exact up cf (g4 cf ⟨_, _, _, .finB c3 hd en, re⟩)
        rcases hr2 : goF t bits h b (P ++ [(n, w)]) u' v' with ⟨w2, u2, v2⟩
        rw [hr2] at i
        cases w2 with
        | inl x =>
          obtain ⟨k1, k2, cf, k3, k4⟩ := i
          exact ⟨by omega, k2, cf, go' cf k3, k4⟩
        | inr w2 =>
          obtain ⟨k1, k2, k3, k4⟩ := i
          by_cases hw : w2 = .nrm
          · subst hw
            have e2 : finF n w (.inr .nrm, u2, v2) = (.inr w, u2, v2 ++ [n]) := by simp [finF]
            rw [e2]
            refine ⟨by omega, k2, by rw [← c4]; exact g3, fun cf h => ?_⟩
            obtain ⟨r, P', N, lv, re⟩ := h
            exact go' cf (k4 cf ⟨_, _, _, .finE b3 hd nab, .step (.on (by rw [hd]; rfl) (.fin hd lv)) (by simp; omega) re⟩)
          · have e2 : finF n w (.inr w2, u2, v2) = (.inr w2, u2, v2) := by simp [finF, hw]
            rw [e2]
            refine ⟨by omega, k2, by rw [← b4]; exact k3, fun cf h => ?_⟩
            obtain ⟨r, P', N, lv, re⟩ := h
            exact go' cf (k4 cf ⟨r, P', N, .finO b3 hd nab hw lv, re⟩)
theorem Re.vs {N : Nat} {c d : Cfg} (h : Re t bits B N c d) : c.vs.length ≤ d.vs.length := by
  induction h with
  | stop => exact Nat.le_refl _
  | step h hb r ih =>
    cases h with
    | ask _ _ _ => exact Nat.le_trans (by simp) ih
    | on _ _ => exact Nat.le_trans (by simp) ih
theorem Re.quiet {N s : Nat} {P : Pd} {u : Nat} {v : List Nat} {d : Cfg} (h : Re t bits B N ⟨.inl s, P, u, v⟩ d) (ha : asks (t.nd s) = false) : ∃ M r P', N = M + 1 ∧ Dp1 t s false P r P' ∧ Re t bits B M ⟨r, P', u, v ++ [s]⟩ d := by
  cases h with
  | stop h =>
    cases h with
    | wait h _ => rw [ha] at h; cases h
  | step h _ r =>
    cases h with
    | ask h _ _ => rw [ha] at h; cases h
    | on _ d => exact ⟨_, _, _, rfl, d, r⟩
theorem Re.asked {N s : Nat} {P : Pd} {u : Nat} {v : List Nat} {d : Cfg} {x : Bool} (h : Re t bits B N ⟨.inl s, P, u, v⟩ d) (ha : asks (t.nd s) = true) (hu : bits[u]? = some x) : ∃ M r P', N = M + 1 ∧ Dp1 t s x P r P' ∧ Re t bits B M ⟨r, P', u + 1, v ++ [s]⟩ d := by
  cases h with
  | stop h =>
    cases h with
    | wait _ h => rw [hu] at h; cases h
  | step h _ r =>
    cases h with
    | ask _ h d =>
      rw [hu] at h
      cases h
      exact ⟨_, _, _, rfl, d, r⟩
    | on h _ => rw [ha] at h; cases h
theorem Re.waits {N s : Nat} {P : Pd} {u : Nat} {v : List Nat} {d : Cfg} (h : Re t bits B N ⟨.inl s, P, u, v⟩ d) (ha : asks (t.nd s) = true) (hu : bits[u]? = none) : d = ⟨.inl s, P, u, v⟩ := by
  cases h with
  | stop h => rfl
  | step h _ r =>
    cases h with
    | ask _ h d => rw [hu] at h; cases h
    | on h _ => rw [ha] at h; cases h
end
end FcM
set_option maxRecDepth 100000
set_option maxHeartbeats 4000000
namespace Fc
open PySem PySem.Spec PyProof.Rows L2 FcR
open Evl (Ex)
open FcM (Way Node Tab)
inductive SV (l : Int) : PyData → Prop
  | do_ (x : Str) : SV l (.tuple [.str "do", .str x])
  | call (x : Str) : SV l (.tuple [.str "call", .str x])
  | iff (x : Str) (a b : PyData) : SV l (.tuple [.str "if", .str x, a, b])
  | whl (x : Str) (a : PyData) : SV l (.tuple [.str "while", .str x, a])
  | seq (p : PyData) (ps : List PyData) : SV l (.tuple [.str "seq", .tuple (p :: ps)])
  | brk (n : Int) (h1 : 1 ≤ n) (h2 : n ≤ l) : SV l (.tuple [.str "break", .int n])
  | cnt (n : Int) (h1 : 1 ≤ n) (h2 : n ≤ l) : SV l (.tuple [.str "continue", .int n])
  | ret : SV l (.tuple [.str "return"])
  | rai : SV l (.tuple [.str "raise"])
  | tr (a b : PyData) : SV l (.tuple [.str "try", a, b])
  | fin (a b : PyData) : SV l (.tuple [.str "final", a, b])
theorem lk_mem {l : List (Str × Int)} {k : Str} {n : Int} (h : l.lookup k = some n) : (k, n) ∈ l := by
  induction l with
  | nil => cases h
  | cons p l ih =>
    obtain ⟨a, b⟩ := p
    by_cases e : k == a
    · rw [List.lookup, e] at h
      cases h
      have z : k = a := by simpa using e
      rw [z]
      exact List.mem_cons_self
    · have e' : (k == a) = false := by simpa using e
      rw [List.lookup, e'] at h
      exact List.mem_cons_of_mem _ (ih h)
theorem isName_str {d : PyData} (h : isName d = true) : ∃ x, d = .str x := by
  cases d <;> first | exact ⟨_, rfl⟩ | cases h
theorem isNum_int {d : PyData} {a b : Int} (h : isNum a b d = true) : ∃ n, d = .int n ∧ a ≤ n ∧ n ≤ b := by
  cases d <;> first | (refine ⟨_, rfl, ?_⟩; simpa [isNum] using h) | cases h
theorem ne_tup {d : PyData} (h : nonEmptyT d = true) : ∃ p ps, d = .tuple (p :: ps) := by
  cases d with
  | tuple l => cases l with
    | nil => cases h
    | cons p ps => exact ⟨p, ps, rfl⟩
  | _ => cases h
theorem len_of {r : List PyData} {n : Int} {m : Nat} (h : (r.length : Int) + 1 = n) (e : n = (m : Int) + 1) : r.length = m := by omega
theorem sv_of {d : PyData} {l : Int} (h : isStm d l = true) : SV l d := by
  obtain ⟨k, r, n, rfl, hk, hl, h⟩ := isStm_shape h
  have hm := lk_mem hk
  simp only [kSizes, List.mem_cons, List.not_mem_nil, or_false, Prod.mk.injEq] at hm
  rcases hm with ⟨rfl, rfl⟩ | ⟨rfl, rfl⟩ | ⟨rfl, rfl⟩ | ⟨rfl, rfl⟩ | ⟨rfl, rfl⟩ | ⟨rfl, rfl⟩ | ⟨rfl, rfl⟩ | ⟨rfl, rfl⟩ | ⟨rfl, rfl⟩ | ⟨rfl, rfl⟩ | ⟨rfl, rfl⟩
  · rw [if_pos (by decide)] at h
    match r, len_of (m := 1) hl rfl, h with
    | [a], _, h => obtain ⟨x, rfl⟩ := isName_str h; exact .do_ x
  · rw [if_pos (by decide)] at h
    match r, len_of (m := 1) hl rfl, h with
    | [a], _, h => obtain ⟨x, rfl⟩ := isName_str h; exact .call x
  · rw [if_pos (by decide)] at h
    match r, len_of (m := 3) hl rfl, h with
    | [a, b, c], _, h => obtain ⟨x, rfl⟩ := isName_str h; exact .iff x b c
  · rw [if_pos (by decide)] at h
    match r, len_of (m := 2) hl rfl, h with
    | [a, b], _, h => obtain ⟨x, rfl⟩ := isName_str h; exact .whl x b
  · rw [if_neg (by decide), if_neg (by decide), if_neg (by decide)] at h
    match r, len_of (m := 1) hl rfl, h with
    | [a], _, h => obtain ⟨p, ps, rfl⟩ := ne_tup h; exact .seq p ps
  · rw [if_neg (by decide), if_pos (by decide)] at h
    match r, len_of (m := 1) hl rfl, h with
    | [a], _, h => obtain ⟨x, rfl, h1, h2⟩ := isNum_int h; exact .brk x h1 h2
  · rw [if_neg (by decide), if_pos (by decide)] at h
    match r, len_of (m := 1) hl rfl, h with
    | [a], _, h => obtain ⟨x, rfl, h1, h2⟩ := isNum_int h; exact .cnt x h1 h2
  · match r, len_of (m := 0) hl rfl with
    | [], _ => exact .ret
  · match r, len_of (m := 0) hl rfl with
    | [], _ => exact .rai
  · match r, len_of (m := 2) hl rfl with
    | [a, b], _ => exact .tr a b
  · match r, len_of (m := 2) hl rfl with
    | [a, b], _ => exact .fin a b
/-- the number of a jump -/
def numD : PyData → Nat
  | .tuple [_, .int n] => n.toNat
  | _ => 0
def ndOf (r : Row) : Node :=
  if kindD r.d = "do" then .do_ else if kindD r.d = "call" then .call else if kindD r.d = "return" then .ret else if kindD r.d = "raise" then .rai else
  if kindD r.d = "break" then .brk (numD r.d) else if kindD r.d = "continue" then .cnt (numD r.d) else if kindD r.d = "seq" then .seq r.ch else
  if kindD r.d = "while" then .whl (r.ch.getD 0 0) else if kindD r.d = "if" then .iff (r.ch.getD 0 0) (r.ch.getD 1 0) else
  if kindD r.d = "try" then .tr (r.ch.getD 0 0) (r.ch.getD 1 0) else .fin (r.ch.getD 0 0) (r.ch.getD 1 0)
def tabOf (rows : List Row) : Tab := ⟨rows.length, fun n => match rows[n]? with | some r => ndOf r | none => .do_, fun n => rows[n]?.bind Row.par⟩
def wl (d : PyData) : Nat := if kindD d = "while" then 1 else 0
/-- what is built so far -/
structure BI (st : List WIt) (rows : List Row) (ls : List Nat) : Prop where
  ll : ls.length = rows.length
  dn : ∀ (n : Nat) (r : Row) (l : Nat), rows[n]? = some r → ls[n]? = some l → ∀ c ∈ r.ch, n < c ∧ ∃ r' : Row, rows[c]? = some r' ∧ r'.par = some n ∧ ls[c]? = some (l + wl r.d)
  as : ∀ (n : Nat) (r : Row), rows[n]? = some r → r.ch.Pairwise (· < ·)
  pt : ∀ (n : Nat) (r : Row), rows[n]? = some r → (r.ch.map fun c => (rows[c]?.map Row.d).getD .none) ++ (st.filter fun i => decide (i.par = some n)).map WIt.d = partsD r.d
  sm : ∀ (n : Nat) (r : Row) (l : Nat), rows[n]? = some r → ls[n]? = some l → isStm r.d (l : Int) = true
  it : ∀ i ∈ st, (i.par = none → rows = [] ∧ i.loops = 0 ∧ st.length = 1) ∧ ∀ p : Nat, i.par = some p → ∃ (r : Row) (l : Nat), rows[p]? = some r ∧ ls[p]? = some l ∧ i.loops = l + wl r.d
  up : ∀ (n : Nat) (r : Row) (p : Nat), rows[n]? = some r → r.par = some p → p < n ∧ ∃ rp : Row, rows[p]? = some rp ∧ n ∈ rp.ch
  rt : ∀ r : Row, rows[0]? = some r → r.par = none
  l0 : ∀ l : Nat, ls[0]? = some l → l = 0
theorem addRow_get {rows : List Row} {d : PyData} {par : Option Nat} {n : Nat} {r : Row} (h : (addRow rows d par)[n]? = some r) :
    (n = rows.length ∧ r = ⟨d, par, []⟩) ∨ (∃ r0, rows[n]? = some r0 ∧ r.d = r0.d ∧ r.par = r0.par ∧ ((par = some n ∧ r.ch = r0.ch ++ [rows.length]) ∨ (par ≠ some n ∧ r = r0))) := by
  obtain ⟨bs, hb, hl, hg⟩ : ∃ bs : List Row, addRow rows d par = bs ++ [⟨d, par, []⟩] ∧ bs.length = rows.length ∧ ∀ (n : Nat) (r : Row), bs[n]? = some r → ∃ r0, rows[n]? = some r0 ∧ r.d = r0.d ∧ r.par = r0.par ∧ ((par = some n ∧ r.ch = r0.ch ++ [rows.length]) ∨ (par ≠ some n ∧ r = r0)) := by
    cases par with
    | none => exact ⟨rows, rfl, rfl, fun n r h => ⟨r, h, rfl, rfl, .inr ⟨(fun z => nomatch z), rfl⟩⟩⟩
    | some i =>
      refine ⟨addCh rows i rows.length, rfl, addCh_len _ _ _, fun n r h => ?_⟩
      rw [addCh_eq, List.getElem?_modify] at h
      cases e : rows[n]? with
      | none => rw [e] at h; simp at h
      | some r0 =>
        rw [e] at h
        by_cases z : i = n
        · subst z
          simp at h
          refine ⟨r0, rfl, ?_, ?_, .inl ⟨rfl, ?_⟩⟩ <;> rw [← h] <;> rfl
        · simp [z] at h
          exact ⟨r0, rfl, by rw [h], by rw [h], .inr ⟨fun y => z (Option.some.inj y), h.symm⟩⟩
  rw [hb] at h
  rcases Nat.lt_or_ge n rows.length with lt | ge
  · rw [List.getElem?_append_left (by rw [hl]; exact lt)] at h
    exact .inr (hg n r h)
  · rw [List.getElem?_append_right (by rw [hl]; exact ge), hl] at h
    have e : n - rows.length = 0 := by
      have := (List.getElem?_eq_some_iff.mp h).1
      simp at this
      omega
    rw [e] at h
    simp at h
    exact .inl ⟨by omega, h.symm⟩
theorem addRow_old {rows : List Row} {d : PyData} {par : Option Nat} {n : Nat} {r0 : Row} (h : rows[n]? = some r0) : ∃ r, (addRow rows d par)[n]? = some r ∧ r.d = r0.d ∧ r.par = r0.par := by
  have lt := (List.getElem?_eq_some_iff.mp h).1
  have lt2 : n < (addRow rows d par).length := by rw [addRow_len]; omega
  refine ⟨_, List.getElem?_eq_getElem lt2, ?_⟩
  rcases addRow_get (List.getElem?_eq_getElem lt2) with ⟨e, _⟩ | ⟨r1, h1, h2, h3, _⟩
  · omega
  · rw [h] at h1
    cases h1
    exact ⟨h2, h3⟩
theorem addRow_new {rows : List Row} {d : PyData} {par : Option Nat} : (addRow rows d par)[rows.length]? = some ⟨d, par, []⟩ := by
  have lt2 : rows.length < (addRow rows d par).length := by rw [addRow_len]; omega
  rw [List.getElem?_eq_getElem lt2]
  rcases addRow_get (List.getElem?_eq_getElem lt2) with ⟨_, e⟩ | ⟨r1, h1, _⟩
  · rw [e]
  · have := (List.getElem?_eq_some_iff.mp h1).1
    omega
theorem addRow_d {rows : List Row} {d : PyData} {par : Option Nat} {c : Nat} (hc : c < rows.length) : ((addRow rows d par)[c]?.map Row.d) = rows[c]?.map Row.d := by
  obtain ⟨r, h1, h2, _⟩ := addRow_old (d := d) (par := par) (List.getElem?_eq_getElem hc)
  rw [h1, List.getElem?_eq_getElem hc, Option.map_some, Option.map_some, h2]
theorem BI.step {it : WIt} {st : List WIt} {rows : List Row} {ls : List Nat} (b : BI (it :: st) rows ls) (ok : okIt it rows.length) : BI (newIts it rows.length ++ st) (addRow rows it.d it.par) (ls ++ [it.loops]) := by
  have lsl : ∀ {n l : Nat}, ls[n]? = some l → (ls ++ [it.loops])[n]? = some l := fun {n l} h => by
    rw [List.getElem?_append_left (List.getElem?_eq_some_iff.mp h).1]
    exact h
  have lsn : (ls ++ [it.loops])[rows.length]? = some it.loops := by rw [List.getElem?_append_right (by rw [b.ll]; exact Nat.le_refl _), b.ll, Nat.sub_self] <;> rfl
  have lso : ∀ {n l : Nat}, n < rows.length → (ls ++ [it.loops])[n]? = some l → ls[n]? = some l := fun {n l} hn h => by
    rw [List.getElem?_append_left (by rw [b.ll]; exact hn)] at h
    exact h
  obtain ⟨i1, i2⟩ := b.it it List.mem_cons_self
  have new_par : ∀ i ∈ newIts it rows.length, i.par = some rows.length ∧ i.loops = it.loops + wl it.d := fun i hi => by
    obtain ⟨j, hj, rfl⟩ := List.mem_mapIdx.mp hi
    exact ⟨rfl, rfl⟩
  refine ⟨by rw [List.length_append, addRow_len, b.ll] <;> rfl, fun n r l hr hl c hc => ?_, fun n r hr => ?_, fun n r hr => ?_, fun n r l hr hl => ?_, fun i hi => ?_, fun n r p hr hp => ?_, fun r hr => ?_, fun l hl => ?_⟩
  · rcases addRow_get hr with ⟨rfl, rfl⟩ | ⟨r0, h0, hd, hp, h⟩
    · cases hc
    · have lt := (List.getElem?_eq_some_iff.mp h0).1
      have hl0 := lso lt hl
      have old : ∀ c ∈ r0.ch, n < c ∧ ∃ r' : Row, (addRow rows it.d it.par)[c]? = some r' ∧ r'.par = some n ∧ (ls ++ [it.loops])[c]? = some (l + wl r.d) := fun c hc => by
        obtain ⟨x1, r', x2, x3, x4⟩ := b.dn n r0 l h0 hl0 c hc
        obtain ⟨r2, y1, y2, y3⟩ := addRow_old (d := it.d) (par := it.par) x2
        exact ⟨x1, r2, y1, y3.trans x3, by rw [hd]; exact lsl x4⟩
      rcases h with ⟨hp, hch⟩ | ⟨_, e⟩
      · rw [hch] at hc
        rcases List.mem_append.mp hc with hc | hc
        · exact old c hc
        · have e := List.mem_singleton.mp hc
          subst e
          refine ⟨lt, _, addRow_new, hp, ?_⟩
          obtain ⟨r1, l1, z1, z2, z3⟩ := i2 n hp
          rw [h0] at z1
          cases z1
          rw [hl0] at z2
          cases z2
          rw [lsn, z3, hd]
      · rw [e] at hc
        exact old c hc
  · rcases addRow_get hr with ⟨rfl, rfl⟩ | ⟨r0, h0, hd, hp, h⟩
    · exact .nil
    · rcases h with ⟨hp, hch⟩ | ⟨_, e⟩
      · rw [hch, List.pairwise_append]
        refine ⟨b.as n r0 h0, List.pairwise_singleton _ _, fun c hc y hy => ?_⟩
        rw [List.mem_singleton.mp hy]
        obtain ⟨l, hl⟩ : ∃ l, ls[n]? = some l := ⟨_, List.getElem?_eq_getElem (by rw [b.ll]; exact (List.getElem?_eq_some_iff.mp h0).1)⟩
        obtain ⟨_, r', x2, _⟩ := b.dn n r0 l h0 hl c hc
        exact (List.getElem?_eq_some_iff.mp x2).1
      · rw [e]
        exact b.as n r0 h0
  · rcases addRow_get hr with ⟨rfl, rfl⟩ | ⟨r0, h0, hd, hp, h⟩
    · show ([] : List Nat).map _ ++ _ = _
      rw [List.map_nil, List.nil_append, List.filter_append, List.map_append]
      have e1 : (newIts it rows.length).filter (fun i => decide (i.par = some rows.length)) = newIts it rows.length := List.filter_eq_self.mpr fun i hi => decide_eq_true (new_par i hi).1
      have e2 : st.filter (fun i => decide (i.par = some rows.length)) = [] := List.filter_eq_nil_iff.mpr fun i hi z => by
        obtain ⟨r1, l1, z1, _⟩ := (b.it i (List.mem_cons_of_mem _ hi)).2 _ (of_decide_eq_true z)
        have := (List.getElem?_eq_some_iff.mp z1).1
        omega
      rw [e1, e2, List.map_nil, List.append_nil]
      show (newIts it rows.length).map WIt.d = partsD it.d
      unfold newIts
      apply List.ext_getElem?
      intro j
      rw [List.getElem?_map, List.getElem?_mapIdx]
      cases (partsD it.d)[j]? <;> rfl
    · have lt := (List.getElem?_eq_some_iff.mp h0).1
      obtain ⟨l, hl⟩ : ∃ l, ls[n]? = some l := ⟨_, List.getElem?_eq_getElem (by rw [b.ll]; exact lt)⟩
      have p0 := b.pt n r0 h0
      have e1 : (newIts it rows.length).filter (fun i => decide (i.par = some n)) = [] := List.filter_eq_nil_iff.mpr fun i hi z => by
        have z1 := (new_par i hi).1
        rw [of_decide_eq_true z] at z1
        have := Option.some.inj z1
        omega
      have e3 : (r0.ch.map fun c => ((addRow rows it.d it.par)[c]?.map Row.d).getD .none) = r0.ch.map fun c => (rows[c]?.map Row.d).getD .none := List.map_congr_left fun c hc => by
        obtain ⟨_, r', x2, _⟩ := b.dn n r0 l h0 hl c hc
        rw [addRow_d (List.getElem?_eq_some_iff.mp x2).1]
      rw [List.filter_append, e1, List.nil_append, hd]
      rcases h with ⟨hp, hch⟩ | ⟨hp, e⟩
      · rw [hch, List.map_append, e3, ← p0, List.filter_cons, if_pos (decide_eq_true hp), List.map_cons, List.append_assoc]
        congr 1
        show [(((addRow rows it.d it.par)[rows.length]?).map Row.d).getD .none] ++ _ = _
        rw [addRow_new] <;> rfl
      · rw [e, e3, ← p0, List.filter_cons, if_neg (by simpa using hp)]
  · rcases addRow_get hr with ⟨rfl, rfl⟩ | ⟨r0, h0, hd, hp, h⟩
    · rw [lsn] at hl
      cases hl
      exact ok.2.2.2
    · rw [hd]
      exact b.sm n r0 l h0 (lso (List.getElem?_eq_some_iff.mp h0).1 hl)
  · rcases List.mem_append.mp hi with hi | hi
    · obtain ⟨z1, z2⟩ := new_par i hi
      refine ⟨(fun e => by rw [z1] at e; cases e), fun p hp => ?_⟩
      rw [z1] at hp
      cases hp
      exact ⟨_, _, addRow_new, lsn, z2⟩
    · obtain ⟨z1, z2⟩ := b.it i (List.mem_cons_of_mem _ hi)
      refine ⟨fun e => ?_, fun p hp => ?_⟩
      · have z3 := (z1 e).2.2
        have := List.length_pos_of_mem hi
        rw [List.length_cons] at z3
        omega
      · obtain ⟨r, l, y1, y2, y3⟩ := z2 p hp
        obtain ⟨r2, x1, x2, _⟩ := addRow_old (d := it.d) (par := it.par) y1
        exact ⟨r2, l, x1, lsl y2, by rw [x2]; exact y3⟩
  · have keep : ∀ {rp : Row} {x : Nat}, rows[p]? = some rp → x ∈ rp.ch → ∃ rp' : Row, (addRow rows it.d it.par)[p]? = some rp' ∧ x ∈ rp'.ch := fun {rp x} h1 h2 => by
      obtain ⟨r2, y1, _⟩ := addRow_old (d := it.d) (par := it.par) h1
      refine ⟨r2, y1, ?_⟩
      rcases addRow_get y1 with ⟨e, _⟩ | ⟨r3, z1, _, _, z4⟩
      · have := (List.getElem?_eq_some_iff.mp h1).1
        omega
      · rw [h1] at z1
        cases z1
        rcases z4 with ⟨_, e⟩ | ⟨_, e⟩
        · rw [e]; exact List.mem_append_left _ h2
        · rw [e]; exact h2
    rcases addRow_get hr with ⟨e, rfl⟩ | ⟨r0, h0, hd, hp2, h⟩
    · obtain ⟨rp, l, y1, _⟩ := i2 p hp
      have lt := (List.getElem?_eq_some_iff.mp y1).1
      obtain ⟨r2, y2, _⟩ := addRow_old (d := it.d) (par := it.par) y1
      refine ⟨by omega, r2, y2, ?_⟩
      rcases addRow_get y2 with ⟨e2, _⟩ | ⟨r3, z1, _, _, z4⟩
      · omega
      · rcases z4 with ⟨_, e2⟩ | ⟨e2, _⟩
        · rw [e2, e]; exact List.mem_append_right _ (List.mem_singleton.mpr rfl)
        · exact absurd hp e2
    · rw [hp2] at hp
      obtain ⟨y1, rp, y2, y3⟩ := b.up n r0 p h0 hp
      exact ⟨y1, keep y2 y3⟩
  · rcases addRow_get hr with ⟨e, rfl⟩ | ⟨r0, h0, hd, hp, h⟩
    · show it.par = none
      cases e2 : it.par with
      | none => rfl
      | some p =>
        obtain ⟨r, l, y1, _⟩ := i2 p e2
        have := (List.getElem?_eq_some_iff.mp y1).1
        omega
    · rw [hp]
      exact b.rt r0 h0
  · by_cases hz : rows.length = 0
    · have e : ls = [] := List.eq_nil_of_length_eq_zero (by rw [b.ll]; exact hz)
      subst e
      simp at hl
      cases e2 : it.par with
      | none => rw [← hl]; exact (i1 e2).2.1
      | some p =>
        obtain ⟨r, l, y1, _⟩ := i2 p e2
        have := (List.getElem?_eq_some_iff.mp y1).1
        omega
    · exact b.l0 l (lso (by omega) hl)
theorem BI.all : ∀ {m : Nat} {st : List WIt} {rows fin : List Row}, Builds m st rows fin → ∀ {ls : List Nat}, BI st rows ls → ∃ ls', BI [] fin ls'
  | _, _, _, _, .done _, ls, b => ⟨ls, b⟩
  | _, _, _, _, .step ok h, _, b => BI.all h (b.step ok)
theorem BI.start (d : PyData) : BI [⟨d, none, 1, 0, 0⟩] [] [] :=
  ⟨rfl, fun n r l h => by simp at h, fun n r h => by simp at h, fun n r h => by simp at h, fun n r l h => by simp at h, fun i hi => by
    rw [List.mem_singleton.mp hi]
    exact ⟨fun _ => ⟨rfl, rfl, rfl⟩, fun p hp => nomatch hp⟩, fun n r p h => by simp at h, fun r h => by simp at h, fun l h => by simp at h⟩
/-- the rows of a code: what its runs rest on -/
structure TW (rows : List Row) (lp : Nat → Nat) : Prop where
  wf : (tabOf rows).WF lp
  sv : ∀ (n : Nat) (r : Row), rows[n]? = some r → SV (lp n : Int) r.d ∧ r.ch.length = (partsD r.d).length ∧ r.ch = (ndOf r).ch
  pu : ∀ (n : Nat) (r : Row) (p : Nat), rows[n]? = some r → r.par = some p → p < n ∧ p < rows.length ∧ n ∈ ((tabOf rows).nd p).ch
  pr : ∀ (n : Nat) (r : Row), rows[n]? = some r → ∀ (j c : Nat), r.ch[j]? = some c → ∃ r' : Row, rows[c]? = some r' ∧ (partsD r.d)[j]? = some r'.d
theorem len_two {α : Type} {l : List α} (h : l.length = 2) : ∃ a b, l = [a, b] := by
  match l, h with
  | [a, b], _ => exact ⟨a, b, rfl⟩
theorem len_one {α : Type} {l : List α} (h : l.length = 1) : ∃ a, l = [a] := by
  match l, h with
  | [a], _ => exact ⟨a, rfl⟩
theorem nd_ch {r : Row} {l : Int} (h : SV l r.d) (hl : r.ch.length = (partsD r.d).length) : r.ch = (ndOf r).ch := by
  obtain ⟨d, par, ch⟩ := r
  cases h with
  | do_ x => exact List.eq_nil_of_length_eq_zero (hl.trans rfl)
  | call x => exact List.eq_nil_of_length_eq_zero (hl.trans rfl)
  | ret => exact List.eq_nil_of_length_eq_zero (hl.trans rfl)
  | rai => exact List.eq_nil_of_length_eq_zero (hl.trans rfl)
  | brk n h1 h2 => exact List.eq_nil_of_length_eq_zero (hl.trans rfl)
  | cnt n h1 h2 => exact List.eq_nil_of_length_eq_zero (hl.trans rfl)
  | iff x a b =>
    obtain ⟨a, b, rfl⟩ := len_two (hl.trans rfl)
    rfl
  | whl x a =>
    obtain ⟨a, rfl⟩ := len_one (hl.trans rfl)
    rfl
  | seq p ps => rfl
  | tr a b =>
    obtain ⟨a, b, rfl⟩ := len_two (hl.trans rfl)
    rfl
  | fin a b =>
    obtain ⟨a, b, rfl⟩ := len_two (hl.trans rfl)
    rfl
theorem nd_wl {r : Row} {l : Int} (h : SV l r.d) : wl r.d = (match ndOf r with | .whl _ => 1 | _ => 0) := by
  obtain ⟨d, par, ch⟩ := r
  cases h <;> rfl
theorem tab_nd {rows : List Row} {n : Nat} {r : Row} (h : rows[n]? = some r) : (tabOf rows).nd n = ndOf r := by
  show (match rows[n]? with | some r => ndOf r | none => .do_) = ndOf r
  rw [h]
theorem nd_seq {r : Row} {l : Int} {cs : List Nat} (h : SV l r.d) (hl : r.ch.length = (partsD r.d).length) (e : ndOf r = .seq cs) : cs ≠ [] := by
  obtain ⟨d, par, ch⟩ := r
  cases h with
  | seq p ps =>
    cases e
    intro z
    rw [show ch = [] from z] at hl
    cases hl
  | _ => cases e
theorem nd_brk {r : Row} {l : Nat} {k : Nat} (h : SV (l : Int) r.d) (e : ndOf r = .brk k) : 1 ≤ k ∧ k ≤ l := by
  obtain ⟨d, par, ch⟩ := r
  cases h with
  | brk n h1 h2 =>
    cases e
    show 1 ≤ n.toNat ∧ n.toNat ≤ l
    omega
  | _ => cases e
theorem nd_cnt {r : Row} {l : Nat} {k : Nat} (h : SV (l : Int) r.d) (e : ndOf r = .cnt k) : 1 ≤ k ∧ k ≤ l := by
  obtain ⟨d, par, ch⟩ := r
  cases h with
  | cnt n h1 h2 =>
    cases e
    show 1 ≤ n.toNat ∧ n.toNat ≤ l
    omega
  | _ => cases e
theorem tw_of {fin : List Row} {ls : List Nat} (b : BI [] fin ls) (hne : 0 < fin.length) : TW fin (fun n => ls.getD n 0) := by
  have lpn : ∀ {n l : Nat}, ls[n]? = some l → ls.getD n 0 = l := fun h => by rw [List.getD_eq_getElem?_getD, h] <;> rfl
  have lex : ∀ {n : Nat} {r : Row}, fin[n]? = some r → ∃ l, ls[n]? = some l := fun {n r} h => ⟨_, List.getElem?_eq_getElem (by rw [b.ll]; exact (List.getElem?_eq_some_iff.mp h).1)⟩
  have pt : ∀ (n : Nat) (r : Row), fin[n]? = some r → (r.ch.map fun c => (fin[c]?.map Row.d).getD .none) = partsD r.d := fun n r h => by
    have z := b.pt n r h
    rw [List.filter_nil, List.map_nil, List.append_nil] at z
    exact z
  have sv : ∀ (n : Nat) (r : Row), fin[n]? = some r → SV (ls.getD n 0 : Int) r.d ∧ r.ch.length = (partsD r.d).length ∧ r.ch = (ndOf r).ch := fun n r h => by
    obtain ⟨l, hl⟩ := lex h
    rw [lpn hl]
    have s := sv_of (b.sm n r l h hl)
    have e : r.ch.length = (partsD r.d).length := by rw [← pt n r h, List.length_map]
    exact ⟨s, e, nd_ch s e⟩
  have at_ : ∀ n, n < fin.length → ∃ r, fin[n]? = some r ∧ (tabOf fin).nd n = ndOf r := fun n hn => ⟨_, List.getElem?_eq_getElem hn, tab_nd (List.getElem?_eq_getElem hn)⟩
  refine ⟨⟨hne, ?_, ?_, fun n hn c hc => ?_, fun n hn => ?_, fun n p hn hp => ?_, fun n l hn hd => ?_, fun n k hn hd => ?_, fun n k hn hd => ?_⟩, sv, fun n r p h hp => ?_, fun n r h j c hj => ?_⟩
  · show fin[0]?.bind Row.par = none
    rw [List.getElem?_eq_getElem hne]
    exact b.rt _ (List.getElem?_eq_getElem hne)
  · obtain ⟨l, hl⟩ := lex (List.getElem?_eq_getElem hne)
    rw [lpn hl]
    exact b.l0 l hl
  · obtain ⟨r, hr, e⟩ := at_ n hn
    obtain ⟨s1, s2, s3⟩ := sv n r hr
    rw [e, ← s3] at hc
    obtain ⟨l, hl⟩ := lex hr
    obtain ⟨x1, r', x2, x3, x4⟩ := b.dn n r l hr hl c hc
    refine ⟨x1, (List.getElem?_eq_some_iff.mp x2).1, ?_, ?_⟩
    · show fin[c]?.bind Row.par = some n
      rw [x2]
      exact x3
    · rw [e, lpn x4, lpn hl, nd_wl s1]
      try (cases ndOf r <;> rfl)
  · obtain ⟨r, hr, e⟩ := at_ n hn
    rw [e, ← (sv n r hr).2.2]
    exact (b.as n r hr).imp fun h => Nat.ne_of_lt h
  · obtain ⟨r, hr, e⟩ := at_ n hn
    have hp : fin[n]?.bind Row.par = some p := hp
    rw [hr] at hp
    obtain ⟨_, rp, y2, _⟩ := b.up n r p hr hp
    exact (List.getElem?_eq_some_iff.mp y2).1
  · obtain ⟨r, hr, e⟩ := at_ n hn
    rw [e] at hd
    exact nd_seq (sv n r hr).1 (sv n r hr).2.1 hd
  · obtain ⟨r, hr, e⟩ := at_ n hn
    rw [e] at hd
    exact nd_brk (sv n r hr).1 hd
  · obtain ⟨r, hr, e⟩ := at_ n hn
    rw [e] at hd
    exact nd_cnt (sv n r hr).1 hd
  · obtain ⟨y1, rp, y2, y3⟩ := b.up n r p h hp
    exact ⟨y1, (List.getElem?_eq_some_iff.mp y2).1, by rw [tab_nd y2, ← (sv p rp y2).2.2]; exact y3⟩
  · obtain ⟨l, hl⟩ := lex h
    obtain ⟨_, r', x2, _⟩ := b.dn n r l h hl c (List.mem_of_getElem? hj)
    refine ⟨r', x2, ?_⟩
    rw [← pt n r h, List.getElem?_map, hj, Option.map_some, x2] <;> rfl
end Fc
set_option maxRecDepth 100000
set_option maxHeartbeats 4000000
namespace Fc
open PySem PySem.Spec PyProof.Rows L2 FcR
open Evl (Ex)
open FcM (Way Node Tab)
theorem row_at {rows : List Row} {n : Nat} (h : n < rows.length) : ∃ r, rows[n]? = some r := ⟨_, List.getElem?_eq_getElem h⟩
end Fc
set_option maxRecDepth 100000
set_option maxHeartbeats 4000000
namespace FcM
section
variable {t : Tab} {bits : List Bool}
def Bd (w u : Nat) (v : List Nat) (r : Rs) : Prop := u ≤ r.2.1 ∧ r.2.2.length ≤ v.length + w * (r.2.1 - u + 1)
theorem Bd.mono {w w' u : Nat} {v : List Nat} {r : Rs} (h : Bd w u v r) (e : w ≤ w') : Bd w' u v r := ⟨h.1, Nat.le_trans h.2 (Nat.add_le_add_left (Nat.mul_le_mul_right _ e) _)⟩
theorem Bd.seq {w1 w2 u u1 u2 : Nat} {v v1 v2 : List Nat} {x y : Wt} (a : Bd w1 u v (x, u1, v1)) (b : Bd w2 u1 v1 (y, u2, v2)) : Bd (w1 + w2) u v (y, u2, v2) := by
  obtain ⟨a1, a2⟩ := a
  obtain ⟨b1, b2⟩ := b
  dsimp only at a1 a2 b1 b2
  refine ⟨Nat.le_trans a1 b1, ?_⟩
  dsimp only
  have e1 : w1 * (u1 - u + 1) ≤ w1 * (u2 - u + 1) := Nat.mul_le_mul_left _ (by omega)
  have e2 : w2 * (u2 - u1 + 1) ≤ w2 * (u2 - u + 1) := Nat.mul_le_mul_left _ (by omega)
  rw [Nat.add_mul]
  omega
end
end FcM
set_option maxRecDepth 100000
set_option maxHeartbeats 4000000
namespace FcM
inductive Lay (t : Tab) : Nat → List Nat → Prop
  | top {n : Nat} (h : t.pr n = none) : Lay t n []
  | blk {n p a : Nat} {l : List Nat} (h : t.pr n = some p) (hd : t.nd p = .fin a n) (hn : n ≠ a) (r : Lay t p l) : Lay t n (l ++ [p])
  | up {n p : Nat} {l : List Nat} (h : t.pr n = some p) (hd : ∀ a, t.nd p = .fin a n → n = a) (r : Lay t p l) : Lay t n l
section
variable {t : Tab} {lp : Nat → Nat} {bits : List Bool} {B : Nat}
/-- as a place -/
def LayP (t : Tab) (s : Nat) (l : List Nat) : Prop := match t.nd s with
  | .fin _ _ => ∃ l', l = l' ++ [s] ∧ Lay t s l'
  | _ => Lay t s l
theorem LayP.of {s : Nat} {l : List Nat} (h : ∀ a b, t.nd s ≠ .fin a b) (r : Lay t s l) : LayP t s l := by
  unfold LayP
  split
  · rename_i a b e; exact absurd e (h a b)
  · exact r
theorem LayP.get {s : Nat} {l : List Nat} (h : ∀ a b, t.nd s ≠ .fin a b) (r : LayP t s l) : Lay t s l := by
  unfold LayP at r
  split at r
  · rename_i a b e; exact absurd e (h a b)
  · exact r
end
end FcM
set_option maxRecDepth 100000
set_option maxHeartbeats 4000000
namespace Fc
open PySem PySem.Spec PyProof.Rows L2 FcR
open Evl (Ex)
open FcM (Way Node Tab Pd Rs Wt)
theorem intsV_app (l : List Nat) (n : Nat) : intsV l ++ [.int (n : Int)] = intsV (l ++ [n]) := by unfold intsV; rw [List.map_append] <;> rfl
theorem intsV_len (l : List Nat) : (intsV l).length = l.length := by unfold intsV; rw [List.length_map]
end Fc
set_option maxRecDepth 100000
set_option maxHeartbeats 4000000
namespace Fc
open PySem PySem.Spec PyProof.Rows L2 FcR
open Evl (Ex)
/-- what is raised: C(y), its field f -/
def RaisesA (K : PySem.W.Frag) (C f : Str) (H : Hp) (y : V) (E : XK) : Prop := ∀ H' d, Ex H H' → H d = none → H' d = some (.xd [(f, y)]) → E (.ref (He.ga K C)) (some d) H'
section
variable {P : Program} {w : World} {h : Heap} {K : PySem.W.Frag} {mg : Str → Option Value} {base : Heap}
abbrev N_InvalidTable___init__ : List Str := ["self", "at"]
theorem sc_InvalidTable___init__ : FnScope N_InvalidTable___init__ ["self", "at"] (defScope sd_InvalidTable___init__) := ⟨rfl, rfl, rfl, by decide +kernel, rfl, by decide +kernel, by decide +kernel⟩
theorem okF_InvalidTable___init__ (T : Tx w h K mg) : ∃ fd, FnOk P w K mg base (CX P w) 1 (He.fAd K ("InvalidTable", some "__init__")) fd ["self", "at"] (FcX.spX K (He.ga K "InvalidTable") "at") ∧ Binds K fd ["self", "at"] [] ∧ PySem.W.keepIn K (.ref (He.fAd K ("InvalidTable", some "__init__"))) = true ∧ FunD K "__init__" "InvalidTable.__init__" (defArgs sd_InvalidTable___init__) (defBody sd_InvalidTable___init__) (defScope sd_InvalidTable___init__) [] [] (He.fAd K ("InvalidTable", some "__init__")) fd := by
  obtain ⟨fd, F⟩ := F_InvalidTable___init__ T
  refine ⟨fd, ?_, F.bindsN (fun _ _ _ _ _ _ us hl => match us, hl with | [_, _], _ => rfl), F.kp, F⟩
  refine F.ok sc_InvalidTable___init__ (fun vs H Q E h => ?_) (fun cdv A outer s H vs Q E hr h => ?_)
  · obtain ⟨a, y, rfl, ea, q⟩ := h
    rfl
  · obtain ⟨a, y, rfl, ea, q⟩ := h
    refine ⟨_, PSs.nox (pss_one (FcX.ps_xst (pv 0) (pv 1))), ?_⟩
    exact ⟨y, rfl, .ref a, rfl, a, _, rfl, x_InvalidTable T, (xi_InvalidTable T).tk, ea, fun dx h1 h2 => q dx h1 h2⟩
end
end Fc
set_option maxRecDepth 100000
set_option maxHeartbeats 4000000
namespace FcL
open PySem PySem.Spec PyProof.Rows L2 FcR FcX LamX NdefX
structure LF where
  params : Arguments
  body : Expr
  scope : Scope
  qual : Str
  cl : List (Str × Addr)
  c : Addr
  dV : Value
abbrev LF.fd (F : LF) (pm ctv : Value) : FuncData :=
  { name := "<lambda>", qualname := F.qual, params := F.params, body := .expr F.body, scope := F.scope, globals := mainGlobals, closure := F.cl, defaults := F.dV, kwdefaults := .none, doc := .none, pyModule := pm, annotations := none, code := .ref F.c, closureTuple := ctv, builtins := builtinsNs }
abbrev LF.nf (F : LF) : NF := ⟨"<lambda>", F.qual, F.params, [], F.scope, F.cl, F.c⟩
/-- the object at f is the lambda F -/
def LamO (f : Addr) (F : LF) : HO := .ext fun h => ∃ pm ctv : Value, h.get? f = some ({ cls := .type "function", data := .func (F.fd pm ctv) } : Obj)
theorem lamO_ne {f : Addr} {F : LF} (ps : Array Value) : LamO f F ≠ .tbl ps := fun z => by
  unfold LamO at z
  cases z
/-- its defaults -/
def Dfl (H : Hp) (dV : Value) (ds : List V) : Prop := (dV = .none ∧ ds = []) ∨ ∃ T, dV = .ref T ∧ ds ≠ [] ∧ H T = some (.tup ds)
theorem Dfl.ex {H H' : Hp} {dV : Value} {ds : List V} (d : Dfl H dV ds) (e : ∀ b o, H b = some o → (∀ ps, o ≠ .tbl ps) → H' b = some o) : Dfl H' dV ds := by
  rcases d with z | ⟨T, a, b, c⟩
  · exact .inl z
  · exact .inr ⟨T, a, b, e _ _ c fun ps z => by cases z⟩
/-- the lambda stands there -/
structure LamAt (H : Hp) (f : Addr) (F : LF) (ds : List V) : Prop where
  ob : H f = some (LamO f F)
  co : H F.c = some (CodeO F.c F.qual)
  df : Dfl H F.dV ds
theorem LamAt.ex {H H' : Hp} {f : Addr} {F : LF} {ds : List V} (d : LamAt H f F ds) (e : ∀ b o, H b = some o → (∀ ps, o ≠ .tbl ps) → H' b = some o) : LamAt H' f F ds :=
  ⟨e _ _ d.ob lamO_ne, e _ _ d.co codeO_ne, d.df.ex e⟩
/-- what the captured cells hold, in the base -/
abbrev CellsB (base : Heap) (cl : List (Str × Addr)) (fr : List Str) (ws : List (Option V)) : Prop := CellsAt cl fr ws base (fun _ => none)
abbrev LSp := List (Option V) → Hp → VK → XK → Prop
/-- what a call of the lambda promises -/
structure LOk (P : Program) (w : World) (K : PySem.W.Frag) (mg : Str → Option Value) (base : Heap) (k : Nat) (F : LF) (ds : List V) (fr : List Str) (sp : LSp) : Prop where
  run : ∀ (A : Around) (outer : List Env) (s : Shared) (H : Hp) (f : Addr) (ws : List (Option V)) (Q : VK) (E : XK), Room k A → Env0 P w K mg base A outer s H → LamAt H f F ds → CellsB base F.cl fr ws → sp ws H Q E →
    codeAny (model P w) A (.call (.ref f) ⟨[], []⟩) (CR (L2.CX P w) outer P w H s Q E) s
theorem LOk.mono {P : Program} {w : World} {K : PySem.W.Frag} {mg : Str → Option Value} {base : Heap} {j k : Nat} {F : LF} {ds : List V} {fr : List Str} {sp : LSp} (o : LOk P w K mg base j F ds fr sp) (h : j ≤ k) : LOk P w K mg base k F ds fr sp :=
  ⟨fun A outer s H f ws Q E hr => o.run A outer s H f ws Q E (hr.mono h)⟩
section
variable {P : Program} {w : World} {K : PySem.W.Frag} {mg : Str → Option Value} {base : Heap} {N ps fr : List Str} {F : LF} {k : Nat} {ds : List V} {sp : LSp}
end
/-- the base grown by the cells of the frame env, which hold what σ says -/
structure Grown (X : Cx) (env : Env) (N : List Str) (σ : L2.St) (base' : Heap) : Prop where
  up : ∀ b o, X.base.get? b = some o → base'.get? b = some o
  kin : X.K.In base'
  cells : ∀ (Y : Cx) (cl : List (Str × Addr)) (fr : List Str) (js : List Nat), Y.env = env → Y.N = N → Caps Y cl fr js → CellsB base' cl fr (js.map (slotAt σ))
theorem Grown.env0 {X Y : Cx} {pins pinsY : List (Addr × Obj)} {σ σY : L2.St} {H HY : Hp} {s sY : Shared} (I : Inv X pins σ H s) (IY : Inv Y pinsY σY HY sY) (far : ∀ y c, Y.env.cells.lookup y = some c → X.base.get? c = none ∧ c ∉ frs X.stack)
    (kp : ∀ y c o, Y.env.cells.lookup y = some c → sY.heap.get? c = some o → s.heap.get? c = some o ∧ H c = none) :
    ∃ base', Grown X Y.env Y.N σY base' ∧ Env0 X.prog X.w X.K X.mg base' X.A X.stack s H := by
  classical
  let Hh : Hp := fun b => if (∃ o, X.base.get? b = some o) ∨ (∃ y, Y.env.cells.lookup y = some b) then none else some (.own 0)
  have e0 := I.env0
  have hb : ∀ b o, X.base.get? b = some o → (hidT s.heap Hh).get? b = some o := fun b o e => hidT_get (e0.bs b o e).1 (if_pos (.inl ⟨o, e⟩))
  have hc : ∀ y c o, Y.env.cells.lookup y = some c → sY.heap.get? c = some o → (hidT s.heap Hh).get? c = some o := fun y c o e ho => hidT_get (kp y c o e ho).1 (if_pos (.inr ⟨y, e⟩))
  have bk : ∀ b o, (hidT s.heap Hh).get? b = some o → s.heap.get? b = some o ∧ H b = none ∧ ((∃ o, X.base.get? b = some o) ∨ (∃ y, Y.env.cells.lookup y = some b)) := fun b o e => by
    obtain ⟨h1, h2⟩ := of_hidT e
    by_cases q : (∃ o, X.base.get? b = some o) ∨ (∃ y, Y.env.cells.lookup y = some b)
    · refine ⟨h1, ?_, q⟩
      rcases q with ⟨o', z⟩ | ⟨y, z⟩
      · exact (e0.bs b o' z).2
      · obtain ⟨v, oc, hoc, _⟩ := IY.cell y b z
        exact (kp y b oc z hoc).2
    · have z : Hh b = some (.own 0) := if_neg q
      rw [z] at h2
      cases h2
  have up : ∀ {c : Addr} {v : Option Value} {y : Str}, Y.env.cells.lookup y = some c → sY.heap.IsCell c v → (hidT s.heap Hh).IsCell c v := fun {c v y} e ⟨o, ho, hd⟩ => ⟨o, hc y c o e ho, hd⟩
  have mod : Mod X.K X.mg (hidT s.heap Hh) := by
    obtain ⟨m1, m2, ⟨mb, m3, m4⟩, m5⟩ := e0.mod
    exact ⟨m1.keeps hb, m2.keeps hb, ⟨mb, m3.keeps hb, m4⟩, m5.keeps hb⟩
  refine ⟨hidT s.heap Hh, ⟨hb, mod.kin, fun Z cl fr js eZ eN cp => ?_⟩, e0.frames, mod, fun b o e => ⟨(bk b o e).1, (bk b o e).2.1⟩, Nat.le_of_eq (hidT_size _ _), ?_, e0.frf, e0.hok, e0.bare⟩
  · have cpY : Caps Y cl fr js := by
      obtain ⟨c1, c2, c3, c4⟩ := cp
      rw [eZ] at c1 c2 c3
      rw [eN] at c4
      exact ⟨c1, c2, c3, c4⟩
    have C := cells_of IY cpY
    refine ⟨C.len, fun y c e => ⟨rfl, ?_⟩, C.inj, fun i y e => ?_⟩
    · obtain ⟨_, v, z⟩ := C.all y c e
      exact ⟨v, up (cpY.sub y c e) z⟩
    · obtain ⟨c, h1, h2⟩ := C.has i y e
      refine ⟨c, h1, fun v ev => ?_⟩
      obtain ⟨u, r, z⟩ := h2 v ev
      exact ⟨u, r, up (cpY.sub y c h1) z⟩
  · have all : ∀ l : List Env, (∀ b ∈ frs l, b ∈ frs X.stack) → s.heap.FunFrames X.base l → s.heap.FunFrames (hidT s.heap Hh) l := by
      intro l
      induction l with
      | nil => intro _ _; trivial
      | cons env r ih =>
        intro hs hl
        obtain ⟨hk, ⟨L, o, hf, hn, ho, hd⟩, hr⟩ := hl
        have hL : L ∈ frs X.stack := hs L (List.mem_filterMap.mpr ⟨env, List.mem_cons_self, hf⟩)
        refine ⟨hk, ⟨L, o, hf, ?_, ho, hd⟩, ih (fun b hb => hs b ?_) hr⟩
        · cases q : (hidT s.heap Hh).get? L with
          | none => rfl
          | some o' =>
            rcases (bk L o' q).2.2 with ⟨_, z⟩ | ⟨y, z⟩
            · rw [hn] at z
              cases z
            · exact absurd hL (far y L z).2
        · obtain ⟨ev, he, hq⟩ := List.mem_filterMap.mp hb
          exact List.mem_filterMap.mpr ⟨ev, List.mem_cons_of_mem _ he, hq⟩
    exact all _ (fun _ hb => hb) e0.funs
end FcL
set_option maxRecDepth 100000
set_option maxHeartbeats 4000000
namespace FcL
open PySem PySem.Spec PyProof.Rows L2 FcR FcX LamX NdefX
section
variable {M : Model} {A : Around} {E : Value → Shared → Prop} {s : Shared} {F : LF} {env : Env} {c P : Addr} {ps : Array Value} {pos : Pos} {line : Nat} {mg : Str → Option Value} {Q : Value → Shared → Prop}
end
/-- all but the tables of T stays -/
def ExtT (T : List (Addr × Str)) (H H' : Hp) : Prop := ∀ b o, H b = some o → (∀ p ∈ T, p.1 ≠ b) → H' b = some o
theorem ExtT.n {T : List (Addr × Str)} {H H' : Hp} (e : ExtT T H H') (t : Tabs T H) : ExtN H H' := fun b o h n => e b o h fun p hp z => by
  obtain ⟨ps, h1, _⟩ := t p hp
  rw [z, h] at h1
  exact n ps (Option.some.inj h1)
section
variable {X : Cx} {pins : List (Addr × Obj)} {σ : L2.St} {H : Hp} {s : Shared}
end
section
variable {X : Cx} {T : List (Addr × Str)} {c P : Addr} {params : Arguments} {body : Expr} {scope : Scope} {pos : Pos} {fr : List Str} {js : List Nat}
end
end FcL
set_option maxRecDepth 100000
set_option maxHeartbeats 4000000
namespace FcL
open PySem PySem.Spec PyProof.Rows L2 FcR FcX LamX NdefX
section
variable {X : Cx}
end
end FcL
set_option maxRecDepth 100000
set_option maxHeartbeats 4000000
namespace FcL
open PySem PySem.Spec PyProof.Rows L2 FcR FcX LamX NdefX
section
variable {X : Cx} {k : Nat}
end
end FcL
namespace Fc
open PySem
end Fc
set_option maxRecDepth 100000
set_option maxHeartbeats 4000000
namespace FcL
open PySem PySem.Spec PyProof.Rows L2 FcR FcX LamX NdefX
section
variable {X : Cx} {k : Nat} {f C : Addr} {S : Sp → Prop} {W : WX} {o i : Expr} {pos apos : Pos} {ta ti : TE} {m : Str}
end
section
variable {X : Cx} {CX : CXT} {C f : Addr} {fd : FuncData} {ps ks : List Str} {sp : Sp} {E : XK} {k : Nat} {m : Str} {o : Expr} {apos pos : Pos} {kws : List Keyword} {ta : TE} {tk : TA} {g : List Value → List Value} {gV : List V → List V}
end
end FcL
set_option maxRecDepth 100000
set_option maxHeartbeats 4000000
namespace Fc
open PySem PySem.Spec PyProof.Rows L2 FcR
open Evl (Ex)
def sp_cn (K : PySem.W.Frag) : Sp := fun vs H Q _ => ∃ (F : Hp) (A : CAd) (rows : List Row) (n : Nat), vs = [.ref A.p, .int (n : Int)] ∧ CodeH K F F A rows ∧ Ex F H ∧ n < rows.length ∧ Q .non H
section
variable {P : Program} {w : World} {h : Heap} {K : PySem.W.Frag} {mg : Str → Option Value} {base : Heap}
abbrev N_Code_check_number : List Str := ["self", "number"]
theorem sc_Code_check_number : FnScope N_Code_check_number ["self", "number"] (defScope sd_Code_check_number) := ⟨rfl, rfl, rfl, by decide +kernel, rfl, by decide +kernel, by decide +kernel⟩
theorem ok_Code_check_number (T : Tx w h K mg) : Ok P w K mg base 3 ("Code", some "check_number") ["self", "number"] (sp_cn K) := by
  obtain ⟨fd, F⟩ := F_Code_check_number T
  refine ⟨fd, ?_, F.bindsN (fun _ _ _ _ _ _ us hl => match us, hl with | [_, _], _ => rfl), F.kp⟩
  obtain ⟨fd_is_between, G_is_between, bi_is_between, kp_is_between⟩ := ok_is_between (P := P) (base := base) T
  refine F.ok sc_Code_check_number (fun vs H Q E h => ?_) (fun cdv A outer s H vs Q E hr h => ?_)
  · obtain ⟨F, A, rows, n, rfl, C, xF, hn, q⟩ := h
    rfl
  · obtain ⟨F, A, rows, n, rfl, C, xF, hn, q⟩ := h
    refine ⟨_, PSs.nox (pss_one (ps_if (pt_not (pt_val (pe_call G_is_between (hr.mono (by decide)) rfl (g_is_between T) kp_is_between bi_is_between .nil passF (pa_cons (pv 1) (pa_cons pe_int (pa_cons (pe_op op_sub (pe_callB call_len_seq rfl (fr_len T) b_len (pa_cons (pe_fld (pv 0) rfl) pa_nil)) pe_int) pa_nil)))))) (pss_one ps_never) pss_nil)), ?_⟩
    obtain ⟨vs, C1, _⟩ := C.ex (Evl.Ex.refl _) xF
    refine ⟨_, rfl, _, rfl, A.p, _, _, _, _, rfl, C1.ob, c_Code T, na_Code_kinds T, fl_Code_kinds _ _ _ _ _, A.a2, _, rfl, .inl (Evl.sq_of C1.h2), _, _, rfl, rfl, ?_⟩
    refine ⟨_, _, _, rfl, .inl ⟨_, rfl, ?_⟩⟩
    have e : (decide ((0 : Int) ≤ (n : Int)) && decide ((n : Int) ≤ ((rows.map fun r => V.str (kindD r.d)).length : Int) - 1)) = true := by
      rw [List.length_map]
      simp
      omega
    refine ⟨_, rfl, ?_⟩
    refine itF (by rw [e] <;> rfl) q
end
end Fc
set_option maxRecDepth 100000
set_option maxHeartbeats 4000000
namespace Fc
open PySem PySem.Spec PyProof.Rows L2 FcR
open Evl (Ex)
def BadN (K : PySem.W.Frag) (H : Hp) (u : V) (n : Nat) : Prop := (∃ i : Int, u = .int i ∧ (decide (0 ≤ i) && decide (i ≤ (n : Int) - 1)) = false) ∨
  (∃ t b1 b2, (∀ H', Ex H H' → TyX K H' u t) ∧ PySem.W.kitOne K t (.type "int") = some b1 ∧ PySem.W.kitOne K t (.type "bool") = some b2 ∧ (b1 && !b2) = false)
theorem BadN.ex {K : PySem.W.Frag} {H H' : Hp} {u : V} {n : Nat} (b : BadN K H u n) (e : Ex H H') : BadN K H' u n := by
  rcases b with z | ⟨t, b1, b2, ty, r⟩
  · exact .inl z
  · exact .inr ⟨t, b1, b2, fun H2 e2 => ty H2 (e.trans e2), r⟩
theorem RaisesA.ex {K : PySem.W.Frag} {C f : Str} {H H' : Hp} {y : V} {E : XK} (r : RaisesA K C f H y E) (e : Ex H H') : RaisesA K C f H' y E := fun H2 d x n s => r H2 d (e.trans x) (ex_none e n) s
section
variable {P : Program} {w : World} {h : Heap} {K : PySem.W.Frag} {mg : Str → Option Value} {base : Heap}
end
end Fc
set_option maxRecDepth 100000
set_option maxHeartbeats 4000000
namespace Fc
open PySem PySem.Spec PyProof.Rows L2 FcR
open Evl (Ex)
open FcM (Way Node Tab)
def isPl (r : Row) : Bool := !decide (kindD r.d ∈ (["seq", "try"] : List Str))
def sp_isp (K : PySem.W.Frag) : Sp := fun vs H Q _ => ∃ (F : Hp) (A : CAd) (rows : List Row) (n : Nat) (r : Row), vs = [.ref A.p, .int (n : Int)] ∧ CodeH K F F A rows ∧ Ex F H ∧ rows[n]? = some r ∧ ∀ H', Ex H H' → Q (.bl (isPl r)) H'
/-- the places -/
def plB (rows : List Row) (n : Nat) : Bool := match rows[n]? with
  | some r => isPl r
  | none => false
def plN (rows : List Row) : List Nat := (List.range rows.length).filter (plB rows)
def sp_places (K : PySem.W.Frag) : Sp := fun vs H Q _ => ∃ (F : Hp) (A : CAd) (rows : List Row), vs = [.ref A.p] ∧ CodeH K F F A rows ∧ Ex F H ∧ rows.length ≤ 400 ∧ ∀ (H' : Hp) (a : Addr), Ex H H' → H a = none → H' a = some (.lst (intsV (plN rows))) → Q (.ref a) H'
theorem pl_of {rows : List Row} {n : Nat} {r : Row} (h : rows[n]? = some r) : plB rows n = isPl r := by
  unfold plB
  rw [h]
theorem plN_asc (rows : List Row) : (plN rows).Pairwise (· < ·) := List.Pairwise.sublist List.filter_sublist List.pairwise_lt_range
theorem pl_step {rows : List Row} {i : Nat} {r : Row} (h : rows[i]? = some r) : (List.range (i + 1)).filter (plB rows) = (List.range i).filter (plB rows) ++ (if isPl r = true then [i] else []) := by
  rw [List.range_succ, List.filter_append]
  congr 1
  by_cases z : isPl r = true
  · rw [if_pos z, List.filter_cons_of_pos (by rw [pl_of h]; exact z)] <;> rfl
  · rw [if_neg z, List.filter_cons_of_neg (by rw [pl_of h]; exact z)] <;> rfl
theorem pl_len (rows : List Row) (i : Nat) : ((List.range i).filter (plB rows)).length ≤ i := by
  have := List.length_filter_le (plB rows) (List.range i)
  rw [List.length_range] at this
  exact this
section
variable {P : Program} {w : World} {h : Heap} {K : PySem.W.Frag} {mg : Str → Option Value} {base : Heap}
abbrev N_Code_is_place : List Str := ["self", "number"]
theorem sc_Code_is_place : FnScope N_Code_is_place ["self", "number"] (defScope sd_Code_is_place) := ⟨rfl, rfl, rfl, by decide +kernel, rfl, by decide +kernel, by decide +kernel⟩
theorem ok_Code_is_place (T : Tx w h K mg) : Ok P w K mg base 1 ("Code", some "is_place") ["self", "number"] (sp_isp K) := by
  obtain ⟨fd, F⟩ := F_Code_is_place T
  refine ⟨fd, ?_, F.bindsN (fun _ _ _ _ _ _ us hl => match us, hl with | [_, _], _ => rfl), F.kp⟩
  refine F.ok sc_Code_is_place (fun vs H Q E h => ?_) (fun cdv A outer s H vs Q E hr h => ?_)
  · obtain ⟨F, A, rows, n, r, rfl, C, xF, hw, q⟩ := h
    rfl
  · obtain ⟨F, A, rows, n, r, rfl, C, xF, hw, q⟩ := h
    refine ⟨_, PSs.nox (pss_one (ps_ret (pe_cmpR op_notIn_seq (pe_ix ix_list (pe_fld (pv 0) rfl) (pv 1) (fun _ _ => rfl)) (pe_tup (pa_cons pe_str (pa_cons pe_str pa_nil))) (by rfl)))), ?_⟩
    obtain ⟨vs, C1, _⟩ := C.ex (Evl.Ex.refl _) xF
    refine ⟨_, rfl, A.p, _, _, _, _, rfl, C1.ob, c_Code T, na_Code_kinds T, fl_Code_kinds _ _ _ _ _, _, rfl, A.a2, _, _, .str (kindD r.d), rfl, rfl, Evl.sq_of C1.h2, atI_nat (by rw [List.getElem?_map, hw] <;> rfl), sz (by simp), ?_⟩
    intro p1 n1
    generalize e1 : upd _ p1 _ = H1
    obtain ⟨x1, s1, o1⟩ := new_of e1 n1
    clear e1
    refine ⟨p1, _, rfl, .inr (Evl.st_of s1), rfl, flat_strs ["seq", "try"], ?_⟩
    have e : inV (.str (kindD r.d)) ([.str "seq", .str "try"]) = decide (kindD r.d ∈ (["seq", "try"] : List Str)) := inV_strs _ ["seq", "try"]
    rw [e]
    exact q H1 x1
abbrev N_Code_places : List Str := ["self", "number"]
theorem sc_Code_places : FnScope N_Code_places ["self"] (defScope sd_Code_places) := ⟨rfl, rfl, rfl, by decide +kernel, rfl, by decide +kernel, by decide +kernel⟩
theorem ok_Code_places (T : Tx w h K mg) : Ok P w K mg base 3 ("Code", some "places") ["self"] (sp_places K) := by
  obtain ⟨fd, F⟩ := F_Code_places T
  refine ⟨fd, ?_, F.bindsN (fun _ _ _ _ _ _ us hl => match us, hl with | [_], _ => rfl), F.kp⟩
  obtain ⟨fd_Code_is_place, G_Code_is_place, bi_Code_is_place, kp_Code_is_place⟩ := ok_Code_is_place (P := P) (base := base) T
  refine F.ok sc_Code_places (fun vs H Q E h => ?_) (fun cdv A outer s H vs Q E hr h => ?_)
  · obtain ⟨F, A, rows, rfl, C, xF, hl, q⟩ := h
    rfl
  · obtain ⟨F, A, rows, rfl, C, xF, hl, q⟩ := h
    refine ⟨_, PSs.nox (pss_one (ps_ret (pe_lc (own := [("number", 1)]) rfl sc_Code_places.nd (pi_range1 rfl (fr_range T) (pa_cons (pe_callB call_len_seq rfl (fr_len T) b_len (pa_cons (pe_fld (pv 0) rfl) pa_nil)) pa_nil)) (blkOk_by (N := N_Code_places) (sc := defScope sd_Code_places) (by decide +kernel)) (fun _ _ _ _ _ => (pg_name (i := 1) sc_Code_places.nd rfl (Or.inl rfl))) (fun _ _ _ _ _ => (pts_one (pt_val (pe_meth (pv 0) (c_Code T) (me_Code_is_place T) G_Code_is_place (hr.mono (by decide)) bi_Code_is_place .nil passF (pa_cons (pv 1) pa_nil))))) (fun _ _ _ _ _ => (pv 1))))), ?_⟩
    obtain ⟨vs, C1, _⟩ := C.ex (Evl.Ex.refl _) xF
    refine ⟨_, rfl, A.p, _, _, _, _, rfl, C1.ob, c_Code T, na_Code_kinds T, fl_Code_kinds _ _ _ _ _, A.a2, _, rfl, .inl (Evl.sq_of C1.h2), ?_⟩
    rw [List.length_map]
    refine ⟨_, rfl, (by omega), (by omega), fun D nD => ?_⟩
    refine lc_it (walk_range (lo := 0) (n := rows.length)) (fun i H' => Ex H H' ∧ H' D = some (.lst (intsV ((List.range i).filter (plB rows))))) ?_ ?_ ?_ ?_
    · exact ⟨exu (Evl.Ex.refl _) nD, upd_same⟩
    · exact fun _ _ _ _ => True.intro
    · rintro i v2 Ja Jb hi ⟨x2, l2⟩ ⟨rfl, rfl⟩
      obtain ⟨r, hr⟩ := row_at hi
      have xF2 := xF.trans x2
      obtain ⟨vs2, C2, _⟩ := C.ex (Evl.Ex.refl _) xF2
      have ei : (0 : Int) + (i : Int) = (i : Int) := by omega
      have er := pl_step hr
      rw [er]
      refine ⟨rfl, _, rfl, A.p, _, _, rfl, C2.ob, fm_Code_is_place _ _ _ _ _, _, rfl, F, A, rows, i, r, (by show [V.ref A.p, V.int (0 + (i : Int))] = _; rw [ei]), C, xF2, hr, fun H3 x3 => ?_⟩
      refine ⟨_, rfl, ite_of (fun c => ?_) (fun c => ?_)⟩
      · rw [if_pos c]
        refine ⟨_, rfl, _, x3 _ _ l2, szl (by rw [intsV_len]; have := pl_len rows i; omega), exm (x2.trans x3) nD, ?_⟩
        rw [upd_same, ← intsV_app]
        dsimp only
        rw [ei]
      · rw [if_neg (by rw [c]; decide), List.append_nil]
        exact ⟨x2.trans x3, x3 _ _ l2⟩
    · rintro H2 ⟨x2, l2⟩
      exact q H2 D x2 nD l2
end
end Fc
set_option maxRecDepth 100000
set_option maxHeartbeats 4000000
namespace FcW
open PySem PySem.Spec PyProof.Rows L2
abbrev Ent := List Key × Addr × V
def RelE (p : Ent) (q : List Key × Addr × Value) : Prop := p.1 = q.1 ∧ p.2.1 = q.2.1 ∧ RelV p.2.2 q.2.2
/-- the dict at d is the object o, and has these entries -/
def dW (P : Program) (w : World) (d : Addr) (o : Obj) (xs : List Ent) : HO := .ext fun h => h.get? d = some o ∧ (d == sysModules) = false ∧ xs.length ≤ sizeLine ∧ o.ExactDict ∧
  ∃ ys : List (List Key × Addr × Value), Paired RelE xs ys ∧ (∃ es ep, o.data = .dict es ep ∧ es.toList = ys.map (entryOfKey (tupleKind (mixKind P w)))) ∧ (ys.map (·.1)).Nodup
def kvs (xs : List Ent) : List (List Key × V) := xs.map fun x => (x.1, x.2.2)
def putW (xs : List Ent) (k : List Key) (b : Addr) (v : V) : List Ent :=
  if (valV (kvs xs) k).isSome = true then xs.map (fun x => if x.1 = k then (x.1, x.2.1, v) else x) else xs ++ [(k, b, v)]
def KeysT (K : PySem.W.Frag) (H : Hp) (xs : List Ent) : Prop := ∀ x ∈ xs, SqT K H x.2.1 (x.1.map kV)
def WD (P : Program) (w : World) (K : PySem.W.Frag) (H : Hp) (d : Addr) (o : Obj) (xs : List Ent) : Prop := H d = some (dW P w d o xs) ∧ KeysT K H xs
theorem len_putW (xs : List Ent) (k : List Key) (b : Addr) (v : V) : (putW xs k b v).length ≤ xs.length + 1 := by
  unfold putW
  split
  · rw [List.length_map]; omega
  · rw [List.length_append]; simp
theorem kvs_put (xs : List Ent) (k : List Key) (b : Addr) (v : V) : kvs (putW xs k b v) = putK (kvs xs) k v := by
  unfold putW putK
  rw [valV_any]
  split
  · unfold kvs
    rw [List.map_map, List.map_map]
    refine List.map_congr_left fun x _ => ?_
    by_cases e : x.1 = k
    · simp [e]
    · simp [e]
  · unfold kvs; simp
theorem keysT_put {K : PySem.W.Frag} {H H' : Hp} {xs : List Ent} {k : List Key} {b : Addr} {v : V} (h : KeysT K H xs) (hb : SqT K H b (k.map kV)) (e : ∀ c ys, SqT K H c ys → SqT K H' c ys) : KeysT K H' (putW xs k b v) := by
  intro x hx
  unfold putW at hx
  split at hx
  · obtain ⟨y, hy, rfl⟩ := List.mem_map.mp hx
    by_cases z : y.1 = k
    · simp only [z, if_true]; rw [← z]; exact e _ _ (h y hy)
    · simp only [z, if_false]; exact e _ _ (h y hy)
  · rcases List.mem_append.mp hx with hx | hx
    · exact e _ _ (h x hx)
    · obtain rfl := List.mem_singleton.mp hx
      exact e _ _ hb
section
variable {P : Program} {w : World} {H : Hp} {h : Heap} {d : Addr} {o : Obj} {xs : List Ent}
theorem dw_ok {ys : List (List Key × Addr × Value)} {es : Array DictEntry} {ep : Nat} (h1 : h.get? d = some o) (h2 : (d == sysModules) = false) (h3 : xs.length ≤ sizeLine) (h4 : o.ExactDict) (h5 : Paired RelE xs ys) (h6 : o.data = .dict es ep)
    (h7 : es.toList = ys.map (entryOfKey (tupleKind (mixKind P w)))) (h8 : (ys.map (·.1)).Nodup) : ObjOk P w H h d (dW P w d o xs) :=
  ⟨⟨h1, h2, h3, h4, ys, h5, ⟨es, ep, h6, h7⟩, h8⟩, ⟨o, h1⟩, fun _ _ z k => ⟨k _ z.1, z.2⟩⟩
theorem dw_of (ok : HOk P w H h) (e : H d = some (dW P w d o xs)) : h.get? d = some o ∧ (d == sysModules) = false ∧ xs.length ≤ sizeLine ∧ o.ExactDict ∧
    ∃ ys : List (List Key × Addr × Value), Paired RelE xs ys ∧ (∃ es ep, o.data = .dict es ep ∧ es.toList = ys.map (entryOfKey (tupleKind (mixKind P w)))) ∧ (ys.map (·.1)).Nodup :=
  (show ObjOk P w H h d (dW P w d o xs) from ok d _ e).1
theorem relE_val {ys : List (List Key × Addr × Value)} (r : Paired RelE xs ys) (k : List Key) : RelO (valV (kvs xs) k) ((atKey ys k).map (·.2)) := by
  induction r with
  | nil => exact True.intro
  | @cons p q ps qs z t ih =>
    obtain ⟨z1, z2, z3⟩ := z
    by_cases e : p.1 = k
    · have e' : q.1 = k := z1.symm.trans e
      have b : atKey (q :: qs) k = some q.2 := by simp [atKey, List.find?_cons, e']
      rw [show kvs (p :: ps) = (p.1, p.2.2) :: kvs ps from rfl, valV_pos (p := (p.1, p.2.2)) e, b]; exact z3
    · have e' : ¬ q.1 = k := fun y => e (z1.trans y)
      have b : atKey (q :: qs) k = atKey qs k := by simp [atKey, List.find?_cons, e']
      rw [show kvs (p :: ps) = (p.1, p.2.2) :: kvs ps from rfl, valV_neg (p := (p.1, p.2.2)) e, b]; exact ih
theorem relE_put {ys : List (List Key × Addr × Value)} (r : Paired RelE xs ys) (k : List Key) (b : Addr) {v : V} {u : Value} (rv : RelV v u) : Paired RelE (putW xs k b v) (storedH ys k b u) := by
  have e : (valV (kvs xs) k).isSome = (atKey ys k).isSome := by rw [(relE_val r k).isSome_eq, Option.isSome_map]
  unfold putW storedH
  rw [e]
  by_cases q : (atKey ys k).isSome = true
  · rw [if_pos q, if_pos q]
    clear e q
    induction r with
    | nil => exact .nil
    | @cons p q ps qs z t ih =>
      rw [List.map_cons, List.map_cons]
      refine .cons ?_ ih
      obtain ⟨z1, z2, z3⟩ := z
      unfold putAt
      by_cases e : p.1 = k
      · rw [if_pos e, if_pos (z1.symm.trans e)]; exact ⟨z1, z2, rv⟩
      · rw [if_neg e, if_neg (fun y => e (z1.trans y))]; exact ⟨z1, z2, z3⟩
  · rw [if_neg q, if_neg q]; exact Paired.snoc r ⟨rfl, rfl, rv⟩
end
section
variable {X : Cx} {pins : List (Addr × Obj)} {σ : L2.St} {H : Hp} {s : Shared} {d b : Addr} {o : Obj} {xs : List Ent} {k : List Key} {v : V} {u : Value} {A : Around} {E : Value → Shared → Prop}
theorem key_is (I : Inv X pins σ H s) (e : SqT X.K H b (k.map kV)) : (tupleKind (mixKind X.prog X.w)).is s.heap k b := by
  obtain ⟨its, r, ⟨ob, h1, h2, n, h3⟩, _⟩ := I.tuple e
  exact ⟨ob, its.toArray, n, h1, h2, h3, by simpa using items_are r⟩
theorem mem_pair {ys : List (List Key × Addr × Value)} (r : Paired RelE xs ys) : ∀ y ∈ ys, ∃ x ∈ xs, RelE x y := by
  induction r with
  | nil => intro y hy; exact nomatch hy
  | @cons p q ps qs z t ih =>
    intro y hy
    rcases List.mem_cons.mp hy with rfl | hy
    · exact ⟨p, List.mem_cons_self, z⟩
    · obtain ⟨x, hx, e⟩ := ih y hy
      exact ⟨x, List.mem_cons_of_mem _ hx, e⟩
theorem Inv.way (I : Inv X pins σ H s) (D : WD X.prog X.w X.K H d o xs) : s.heap.get? d = some o ∧ (d == sysModules) = false ∧ xs.length ≤ sizeLine ∧ o.ExactDict ∧
    ∃ (ys : List (List Key × Addr × Value)) (es : Array DictEntry) (ep : Nat), Paired RelE xs ys ∧ o.data = .dict es ep ∧ es.toList = ys.map (entryOfKey (tupleKind (mixKind X.prog X.w))) ∧ s.heap.DictOfH (tupleKind (mixKind X.prog X.w)) d ys := by
  obtain ⟨h1, h2, h3, h4, ys, h5, ⟨es, ep, h6, h7⟩, h8⟩ := dw_of I.hok D.1
  refine ⟨h1, h2, h3, h4, ys, es, ep, h5, h6, h7, o, es, ep, h1, h4, h6, h7, fun y hy => ?_, h8⟩
  obtain ⟨x, hx, e1, e2, _⟩ := mem_pair h5 y hy
  have z := key_is I (D.2 x hx)
  rw [e1, e2] at z
  exact z
/-- d[k] -/
theorem w_getItem {Q : Value → Shared → Prop} (hu : A.units + 1 < cLine) (I : Inv X pins σ H s) (D : WD X.prog X.w X.K H d o xs) (hb : SqT X.K H b (k.map kV)) (g : valV (kvs xs) k = some v) (h : ∀ w' s', Inv X pins σ H s' → RelV v w' → Q w' s') :
    wpAny (model X.prog X.w) A (getItem (.ref d) (.ref b)) Q E s := by
  obtain ⟨_, hd, _, _, ys, es, ep, rel, _, _, dd⟩ := Inv.way I D
  obtain ⟨w', hw, rw'⟩ := RelO.some_of (v := v) (o := (atKey ys k).map (·.2)) (by rw [← g]; exact relE_val rel k)
  obtain ⟨p, hp, hp2⟩ := Option.map_eq_some_iff.mp hw
  refine wpAny_getItem_heap (tupleKind_room_in1 hu) (key_is I hb) dd hp ?_
  rw [hp2]
  exact h w' _ (I.tok _) rw'
theorem w_some (I : Inv X pins σ H s) (D : WD X.prog X.w X.K H d o xs) {ys : List (List Key × Addr × Value)} (rel : Paired RelE xs ys) (k : List Key) : (atKey ys k).isSome = (valV (kvs xs) k).isSome := by
  have q := (relE_val rel k).isSome_eq
  rw [Option.isSome_map] at q
  exact q.symm
def rWNotIn (P : Program) (w : World) (K : PySem.W.Frag) : R2 := fun y x H Q => ∃ (d b : Addr) (o : Obj) (xs : List Ent) (k : List Key), x = .ref d ∧ y = .ref b ∧ WD P w K H d o xs ∧ SqT K H b (k.map kV) ∧ Q (.bl (!(valV (kvs xs) k).isSome)) H
theorem op_notinW (hu : X.A.units + 1 < cLine) : OpR X (compareOp .NotIn) (rWNotIn X.prog X.w X.K) := by
  intro pins s σ H y x u v Q I ry rx h
  obtain ⟨d, b, o, xs, k, rfl, rfl, D, hb, q⟩ := h
  cases rx; cases ry
  obtain ⟨_, hd, _, _, ys, es, ep, rel, _, _, dd⟩ := Inv.way I D
  refine wpAny_notIn_heap (tupleKind_room_in1 hu) (key_is I hb) hd dd ?_
  rw [w_some I D rel]
  exact ⟨.bl _, H, I.tok _, rfl, q⟩
/-- d[k], by values -/
def rWIx (P : Program) (w : World) (K : PySem.W.Frag) : R2 := fun x y H Q => ∃ (d b : Addr) (o : Obj) (xs : List Ent) (k : List Key) (v : V), x = .ref d ∧ y = .ref b ∧ WD P w K H d o xs ∧ SqT K H b (k.map kV) ∧ valV (kvs xs) k = some v ∧ Q v H
theorem ix_way (hu : X.A.units + 1 < cLine) : IxR X (rWIx X.prog X.w X.K) := by
  intro value slice pins s σ H x y v u Q I rx ry h hs
  obtain ⟨d, b, o, xs, k, z, rfl, rfl, D, hb, g, q⟩ := h
  cases rx; cases ry
  obtain ⟨_, hd, _, _, ys, es, ep, rel, _, _, dd⟩ := Inv.way I D
  have hT : s.TypeIs (.ref d) "dict" := dd.typeIs
  unfold subscriptTail
  refine wpAny_bind ?_
  rw [getitemInPython_of_ne hT.not_modules]
  refine wpAny_bind (wpAny_specialOf hT PySem.F.slot_dict_getitem.lookup ?_)
  have fin : wpAny (model X.prog X.w) X.A (subscripted slice false (.ref d) (.ref b)) (fun r s₃ => wpAny (model X.prog X.w) X.A (letTemporaryGo value (.ref d) r >>= fun _ => pure r) (EP X pins σ Q) X.xe s₃) X.xe s := by
    rw [hs]
    exact wpAny_operating (w_getItem hu I D hb g fun w' s' I' rw' => wpAny_bind (wpAny_letTemporaryGo (wpAny_pure ⟨z, H, I', rw', q⟩)))
  first
    | exact wpAny_pure (wpAny_bind fin)
    | exact wpAny_bind (wpAny_pure (wpAny_bind fin))
    | exact wpAny_bind fin
/-- d[k] = v -/
def rWSet (P : Program) (w : World) (K : PySem.W.Frag) : TSet := fun x y v H Q => ∃ (d b : Addr) (o : Obj) (xs : List Ent) (k : List Key), x = .ref d ∧ y = .ref b ∧ WD P w K H d o xs ∧ SqT K H b (k.map kV) ∧ xs.length < sizeLine ∧
  ∀ o', Q (upd H d (dW P w d o' (putW xs k b v)))
theorem set_way (hu : X.A.units + 1 < cLine) : PSet X (rWSet X.prog X.w X.K) := by
  intro pins s σ H x y v ov iv u Q I ro ri rv h
  obtain ⟨d, b, o, xs, k, rfl, rfl, D, hb, hl, q⟩ := h
  cases ro; cases ri
  obtain ⟨_, hd, hz, _, ys, es, ep, rel, _, _, dd⟩ := Inv.way I D
  refine wpAny_setItem_heap (hsz := by rw [← Paired.length rel]; exact hz) (tupleKind_room_in1 hu) (key_is I hb) dd fun h' dd' hs => ?_
  obtain ⟨o', es', ep', hq, h2, h3, h4, _, h5⟩ := dd'
  refine ⟨_, d_write (ob := dW X.prog X.w d o' (putW xs k b v)) I (by rw [D.1]; exact True.intro) hs ⟨_, hq⟩ (dw_ok hq hd ?_ h2 (relE_put rel k b rv) h3 h4 h5), q o'⟩
  have := len_putW xs k b v
  omega
/-- {} -/
def tWNew (P : Program) (w : World) : TE := fun _ H Q => ∀ p o, H p = none → Q (.ref p) (upd H p (dW P w p o []))
theorem dw_empty (h : Heap) (hb : sysModules < h.objs.size) : ObjOk X.prog X.w H (h.push { cls := .type "dict", data := .dict #[] }) h.objs.size (dW X.prog X.w h.objs.size { cls := .type "dict", data := .dict #[] } []) :=
  dw_ok (ys := []) (es := #[]) (ep := 0) (Heap.get?_push_size _ rfl) (beq_eq_false_iff_ne.mpr (Ne.symm (Nat.ne_of_lt hb))) (Nat.zero_le _) ⟨rfl, rfl, rfl⟩ .nil rfl rfl List.nodup_nil
theorem pe_wnew {pos : Pos} : PE X (.Dict [] [] pos) (tWNew X.prog X.w) := ⟨fun pins s σ H Q I h =>
  wpAny_Dict_empty ⟨.ref s.heap.objs.size, _, I.laid (a := s.heap.objs.size) (o := dW X.prog X.w s.heap.objs.size _ []) (t' := s.toks) (fun _ _ q => Heap.get?_push_of_some _ q) (Nat.le_refl _) (dw_empty s.heap I.big), rfl, h _ _ (I.hok.fresh (Nat.le_refl _))⟩⟩
end
end FcW
set_option maxRecDepth 100000
set_option maxHeartbeats 4000000
namespace FcW
open PySem PySem.Spec PyProof.Rows L2
section
variable {X : Cx} {pins : List (Addr × Obj)} {σ : L2.St} {H : Hp} {s : Shared} {d b : Addr} {o : Obj} {xs : List Ent} {k : List Key} {v : V} {u : Value} {A : Around} {E : Value → Shared → Prop}
end
section
variable {P : Program} {w : World} {K : PySem.W.Frag} {tg : Expr} {d : Addr} {o : Obj} {es : Array DictEntry} {ep : Nat} {xs : List Ent}
theorem Inv.wraw {X : Cx} {pins : List (Addr × Obj)} {σ : L2.St} {H : Hp} {s : Shared} (I : Inv X pins σ H s) (h : H d = some (dW X.prog X.w d o xs)) (hod : o.data = .dict es ep) :
    (d == sysModules) = false ∧ s.heap.DictRaw d es ep ∧ es.size = xs.length ∧ ∀ (i : Nat) (e : Ent), xs[i]? = some e → ∃ en, es[i]? = some en ∧ en.key = .ref e.2.1 ∧ RelV e.2.2 en.val := by
  obtain ⟨h1, h2, h3, h4, ys, h5, ⟨es', ep', h6, h7⟩, h8⟩ := dw_of I.hok h
  obtain ⟨rfl, rfl⟩ := dict_ep hod h6
  have l1 : es'.size = ys.length := size_of_entries h7
  have l2 : xs.length = ys.length := Paired.length h5
  refine ⟨h2, ⟨o, h1, h4, hod⟩, by omega, fun i e he => ?_⟩
  obtain ⟨y, hy, e1, e2, e3⟩ := paired_get h5 he
  have q := entry_at h7 i
  rw [hy] at q
  exact ⟨_, q, by rw [e2] <;> rfl, e3⟩
end
section
variable {X : Cx} {tg e : Expr} {td : TE} {apos cpos : Pos}
theorem raw_noDict {h : Heap} {d : Addr} {es : Array DictEntry} {ep : Nat} (hm : h.DictRaw d es ep) : ∀ b, Value.ref d = .ref b → ∃ ob, h.get? b = some ob ∧ ob.dict = none := fun b q => by
  cases q
  obtain ⟨o, h1, h2, _⟩ := hm
  exact ⟨o, h1, h2.2.1⟩
end
section
variable {P : Program} {w : World} {d : Addr} {o : Obj} {xs : List Ent}
end
end FcW
set_option maxRecDepth 100000
set_option maxHeartbeats 4000000
namespace FcW
open PySem PySem.Spec PyProof.Rows L2
section
variable {X : Cx}
theorem vals_refs : ∀ as : List Addr, Vals (as.map V.ref) (as.map Value.ref)
  | [] => .nil
  | _ :: as => .cons rfl (vals_refs as)
end
end FcW
set_option maxRecDepth 100000
set_option maxHeartbeats 4000000
namespace FcW
open PySem PySem.Spec PyProof.Rows L2
section
variable {X : Cx}
def rEqNil (K : PySem.W.Frag) : R2 := fun x y H Q => ∃ (a b : Addr) (xs : List V), x = .ref a ∧ y = .ref b ∧ SqT K H a xs ∧ SqT K H b [] ∧ Q (.bl xs.isEmpty) H
theorem op_eqNil {k : Nat} (hr : Room k X.A) : OpR X (compareOp .Eq) (rEqNil X.K) := by
  intro pins s σ H x y v u Q I rx ry h
  obtain ⟨a, b, xs, rfl, rfl, h1, h2, q⟩ := h
  cases rx
  cases ry
  obtain ⟨its, r1, t1, _⟩ := I.tuple h1
  obtain ⟨its2, r2, t2, _⟩ := I.tuple h2
  cases r2
  refine SeqAt.eq_tupleAt (e := fun _ => true) t1 t2 (by have := hr.un; omega) (fun j _ h => absurd h (by simp)) ?_
  have e : ((List.range (min its.toArray.size ([] : List Value).toArray.size)).all (fun _ => true) && its.toArray.size == ([] : List Value).toArray.size) = xs.isEmpty := by
    cases r1 <;> simp
  rw [e]
  exact ⟨.bl _, H, I, rfl, q⟩
/-- a method of such a dict -/
def tBMW (P : Program) (w : World) (r : V → List V → Hp → VK → Prop) (to : TE) (t : TA) : TE := fun σ H Q => to σ H fun x H1 => (∃ d o xs, x = .ref d ∧ H1 d = some (dW P w d o xs)) ∧ t σ H1 fun xs H2 => r x xs H2 Q
variable {o e : Expr} {es : List Expr} {to : TE} {t : TA} {name : Str} {apos cpos : Pos} {id : String} {r : V → List V → Hp → VK → Prop}
theorem pe_bmW (pa : PlainAttrs "dict") (slot : Slot "dict" name id) (hty : typeOf (.builtin id) = pure (.type "method_descriptor")) (hm : MtR X id r) (ho : PE X o to) (ha : PA X (e :: es) t)
    (hbase : attributeBase o name X.env (eval o X.env) = eval o X.env := by rfl)
    (hfew : ((backTo cpos (starEach (e :: es) X.env)).all (fun x => !x.1) && (backToKw cpos (keywordEach [] X.env)).all (fun x => x.1.isSome)
      && decide ((e :: es).length + ([] : List Keyword).length + (if ([] : List Keyword).isEmpty then 0 else 1) < 30)) = true := by rfl)
    (hline : (apos.endLine == cpos.line) = true := by rfl) (hs : starEach (e :: es) X.env = (false, eval e X.env) :: starEach es X.env := by rfl) (hplain : (backTo cpos (starEach es X.env)).any (·.1) = false := by rfl) :
    PE X (.Call (.Attribute o name apos) (e :: es) [] cpos) (tBMW X.prog X.w r to t) := by
  refine ⟨fun pins s σ H Q I h => ?_⟩
  refine wpAny_Call_method_late hbase hfew hline rfl (thn (ho.run pins s σ H _ I h) fun v s1 ⟨x, H1, I1, r1, ty, q1⟩ => ?_)
  obtain ⟨d, ob, xs, rfl, hd⟩ := ty
  obtain rfl : v = Value.ref d := r1
  obtain ⟨_, _, _, _, _, _, ⟨es', ep, hod, _⟩, _⟩ := dw_of I1.hok hd
  obtain ⟨_, hm', _, _⟩ := Inv.wraw I1 hd hod
  refine ⟨"dict", id, pa, slot, hty, hm'.typeIs, raw_noDict hm', ?_⟩
  have hA := ha.run cpos pins s1 σ H1 _ I1 q1
  rw [hs] at hA ⊢
  refine Calls.callWith_builtin (by show (false || (backTo cpos (starEach es X.env)).any (·.1)) = false; rw [hplain] <;> rfl) (Calls.evalArgs_plain ?_)
  exact thn hA fun us s2 ⟨vs, H2, I2, r2, q2⟩ => hm pins s2 σ H2 (.ref d) vs (.ref d) us Q I2 rfl r2 q2
end
end FcW
set_option maxRecDepth 100000
set_option maxHeartbeats 4000000
namespace FcW
open PySem PySem.Spec PyProof.Rows L2
section
variable {X : Cx}
end
end FcW
set_option maxRecDepth 100000
set_option maxHeartbeats 4000000
namespace FcW
open PySem PySem.Spec PyProof.Rows L2
section
variable {X : Cx}
end
end FcW
set_option maxRecDepth 100000
set_option maxHeartbeats 4000000
namespace FcS
open PySem PySem.Spec PyProof.Rows L2
section
variable {P : Program} {w : World} {A : Around} {E : Value → Shared → Prop} {s : Shared}
/-- the empty set that set() begins with -/
abbrev set0 (w : World) : Obj := { cls := .type "set", dict := none, data := .set #[] 0 (.fresh 0 0 (!w.params.followText "set-order")) }
theorem setListI {l : Addr} {items : Array Value} (ns : List Int) {Q : Value → Shared → Prop} (hh : A.handled = none) (hl : s.heap.IsList l items) (hit : IntsAre items.toList ns) (hb : ns.length + 1 < scanBound)
    (h : ∀ (h' : Heap) (tk c : Nat), SetR w h' s.heap.objs.size (fun j => decide (j ∈ ns)) c → c ≤ ns.length → (∀ b o, s.heap.get? b = some o → h'.get? b = some o) → Q (.ref s.heap.objs.size) { s with heap := h', toks := tk }) :
    wpAny (model P w) A (call (.type "set") [.ref l]) Q E s := by
  have nIt : items.size = ns.length := (Array.length_toList (xs := items)).symm.trans (IntsAre.length hit)
  obtain ⟨c, tl, hmro⟩ := F.called_set.mro
  have hmade := F.called_set.made
  have hsub := F.called_set.sub
  refine wpAny_call (codeAny_of_tree (show wpAny _ _ (callAny (.type "set") _) _ _ _ from wpAny_pure ⟨Code.quiet_builtin _ (by decide +kernel), codeAny_builtin F.entry_type_call ?_⟩))
  rw [Around.under_plain (weight_type_call_type "set" [.ref l] []) rfl]
  have nt := F.called_set.notType
  have cc := F.called_set.canCreate
  have tc := F.typeCall_set_1 (.ref l)
  repeat (any_goals (first | assumption | wp_step))
  refine codeAny_mono (code_set_led1 (.ref l) (E := E) (Q₁ := fun ob t => ob = .ref s.heap.objs.size ∧ t = { s with heap := s.heap.push (set0 w) }) ⟨rfl, rfl⟩) fun res s1 hr => ?_
  cases res with
  | error e => exact hr
  | ok fl =>
    cases fl with
    | ret ob =>
      obtain ⟨rfl, rfl⟩ := hr
      have g0 : (s.heap.push (set0 w)).get? s.heap.objs.size = some (set0 w) := Heap.get?_push_size _ rfl
      have t0 : Shared.TypeIs { s with heap := s.heap.push (set0 w) } (.ref s.heap.objs.size) "set" := ⟨_, g0, rfl⟩
      have il := F.called_set.init.lookup
      have ib := F.called_set.init.bind (.ref s.heap.objs.size)
      repeat (any_goals (first | assumption | wp_step))
      refine codeAny_mono (codeAny_call_builtin (R := wants (fun r t => r = .none ∧ ∃ h' tk c, t = { s with heap := h', toks := tk } ∧ SetR w h' s.heap.objs.size (fun j => decide (j ∈ ns)) c ∧ c ≤ ns.length ∧
          (∀ b o, s.heap.get? b = some o → h'.get? b = some o)) E) F.called_set.init.plain F.entry_set_init (check_set_init_1 t0 ?_)) fun r2 s2 hr2 => ?_
      · obtain ⟨ol, ho, hcl, nl, hdl⟩ := hl
        obtain ⟨ocls, odict, odata, oslots⟩ := ol
        simp only at hcl hdl
        subst hcl; subst hdl
        have ho1 : (s.heap.push (set0 w)).get? l = some { cls := .type "list", dict := odict, data := .seq items nl, slots := oslots } := Heap.get?_push_of_some _ ho
        have q1 := F.sub_list_set
        have q2 := F.sub_list_frozenset
        have ne : (Value.type "list" == Value.type "dict") = false := by decide
        have hl1 : (s.heap.push (set0 w)).IsList l items := ⟨_, ho1, rfl, nl, rfl⟩
        unfold Builtin.«set.__init__» noKeywords Builtin.Frozenset.updateFrom
        generalize hPI : pyIter = PI
        wp_walk
        subst hPI
        refine wpAny_pyIter_list hl1 (wpAny_bind (wpAny_runValue ?_))
        have ls : l < s.heap.objs.size := Heap.lt_size ho
        have h3 : A.in1.in1.in1.handled = none := by simp [hh]
        have zz : (s.heap.push (set0 w)).objs.size = s.heap.objs.size + 1 := Heap.size_push ..
        have neI : l ≠ (s.heap.push (set0 w)).objs.size := by rw [zz]; exact Nat.ne_of_lt (Nat.lt_succ_of_lt ls)
        have nf : s.heap.objs.size ∉ [(s.heap.push (set0 w)).objs.size, l] := by
          rw [zz]
          simp only [List.mem_cons, List.not_mem_nil, or_false, not_or]
          exact ⟨Nat.ne_of_lt (Nat.lt_succ_self _), Nat.ne_of_gt ls⟩
        have val : ∀ (i : Nat) (v : Value), items[i]? = some v → ∃ k t, ns[i]? = some k ∧ v = .int k t := fun i v hv => by
          have hi : i < ns.length := nIt ▸ (Array.getElem?_eq_some_iff.mp hv).1
          obtain ⟨t, e⟩ := PyProof.Rows.IntsAre.int_at hit i v (by rw [Array.getElem?_toList]; exact hv)
          exact ⟨ns[i], t, List.getElem?_eq_getElem hi, by rw [e, List.getD_eq_getElem?_getD, List.getElem?_eq_getElem hi] <;> rfl⟩
        refine set_update_ints ((Walks.list h3 _ l neI items).toS) s.heap.objs.size nf ns nIt hb val (items.size - 0) 0 _ (by omega) (Nat.zero_le _) ⟨⟨_, Heap.get?_push_size _ rfl, rfl, rfl⟩, (hl1.push _)⟩ ⟨0, Nat.le_refl 0, setR_new_at (Heap.get?_push_of_some _ g0)⟩ ?_
        intro s' c' hm hc' hS'
        obtain ⟨h', g2, d', tk', os'⟩ := s'
        have e1 : g2 = s.gens := hm.gens
        have e2 : d' = s.drawn := hm.drawn
        have e3 : os' = s.os := hm.os
        subst e1; subst e2; subst e3
        rw [nIt] at hc'
        show wpAny _ _ _ _ _ _
        refine wpAny_pure (show wpAny _ _ (ret Value.none) _ _ _ from wpAny_pure ⟨rfl, h', tk', c', rfl, hS', hc', fun b o e => ?_⟩)
        have b0 : b < s.heap.objs.size := Heap.lt_size e
        exact hm.heap b o (by rw [zz]; simp only [List.mem_cons, List.not_mem_nil, or_false, not_or]; exact ⟨Nat.ne_of_lt b0, Nat.ne_of_lt (Nat.lt_succ_of_lt b0)⟩) (Heap.get?_push_of_some _ (Heap.get?_push_of_some _ e))
      · cases r2 with
        | error e => exact hr2
        | ok fl2 =>
          cases fl2 with
          | ret r =>
            obtain ⟨rfl, h', tk, c', rfl, hS', hc', hk'⟩ := hr2
            repeat (any_goals (first | assumption | wp_step))
            exact h _ _ _ hS' hc' hk'
          | _ => exact hr2.elim
    | _ => exact hr.elim
end
/-- set(xs), xs a list of ints -/
def rSetL (K : PySem.W.Frag) (w : World) : List V → Hp → VK → Prop := fun xs H Q => ∃ (l : Addr) (ns : List Int), xs = [V.ref l] ∧ SqL K H l (ns.map V.int) ∧ ns.length + 1 < scanBound ∧
  ∀ (a : Addr) (ks : List Int), ks.Nodup → (∀ k, k ∈ ks ↔ k ∈ ns) → H a = none → Q (.ref a) (upd H a (SetO w a (fun j => decide (j ∈ ns)) ks.length))
theorem cr_setL {X : Cx} (hc : X.calm = true) : CallR X (.type "set") (rSetL X.K X.w) := by
  intro pins s σ H xs us Q I r h
  obtain ⟨l, ns, rfl, hl, hb, q⟩ := h
  rw [Vals.ref1 r]
  obtain ⟨its, rv, pl, hz⟩ := I.list hl
  have hn : H s.heap.objs.size = none := I.hok.fresh (Nat.le_refl _)
  refine setListI (P := X.prog) (w := X.w) ns (I.ok.hd hc) pl.isList (by simpa using ints_of_vals rv) hb fun h' tk c R _ k => ?_
  obtain ⟨o, es, ep, t, _, _, _, _, nd, hm, _, _, en, _⟩ := id R
  have el : (es.toList.map keyOf).length = c := by rw [List.length_map, Array.length_toList]; exact en
  have z := q s.heap.objs.size (es.toList.map keyOf) nd (fun j => by rw [← hm j]; exact decide_eq_true_iff) hn
  rw [el] at z
  exact ⟨.ref s.heap.objs.size, upd H s.heap.objs.size (SetO X.w s.heap.objs.size (fun j => decide (j ∈ ns)) c), I.laid (t' := tk) k (Nat.le_refl _) (setO_new R), rfl, z⟩
end FcS
set_option maxRecDepth 100000
set_option maxHeartbeats 4000000
namespace FcW
open PySem PySem.Spec PyProof.Rows L2
section
variable {X : Cx} {pins : List (Addr × Obj)} {σ : L2.St} {H : Hp} {s : Shared}
def rWLen (P : Program) (w : World) (K : PySem.W.Frag) : List V → Hp → VK → Prop := fun vs H Q => ∃ (d : Addr) (o : Obj) (xs : List Ent), vs = [V.ref d] ∧ WD P w K H d o xs ∧ Q (.int (xs.length : Int)) H
theorem line63 {n : Nat} (h : n ≤ sizeLine) : ¬ (n : Int) ≥ 2 ^ 63 := by
  have h : n ≤ 16777216 := h
  have : (2 : Int) ^ 63 = 9223372036854775808 := by decide
  omega
theorem cr_lenW : CallR X (.builtin "len") (rWLen X.prog X.w X.K) := by
  intro pins s σ H vs us Q I r h
  obtain ⟨d, o, xs, rfl, D, q⟩ := h
  rw [Vals.ref1 r]
  obtain ⟨_, _, hl, _, ys, es, ep, rel, hod, _, dd⟩ := Inv.way I D
  obtain ⟨hs, hm, hsz, _⟩ := Inv.wraw I D.1 hod
  refine PyProof.Rows.call_len_slot (n := (xs.length : Int)) dd.typeIs PySem.F.slot_dict_len (fun Q' hq => ?_) (by omega) (line63 hl) ?_
  · refine call_len_raw hs hm ?_
    rw [hsz]
    exact hq
  · exact ⟨.int (xs.length : Int), H, (I.tok _).tok _, ⟨_, rfl⟩, q⟩
def rWGet2 (P : Program) (w : World) (K : PySem.W.Frag) : V → List V → Hp → VK → Prop := fun x vs H Q => ∃ (d b : Addr) (o : Obj) (xs : List Ent) (k : List Key) (v : V), x = .ref d ∧ vs = [.ref b, v] ∧ WD P w K H d o xs ∧ SqT K H b (k.map kV) ∧ Q ((valV (kvs xs) k).getD v) H
theorem mt_getW2 (hu : X.A.units + 1 < cLine) : MtR X "dict.get" (rWGet2 X.prog X.w X.K) := by
  intro pins s σ H x vs v us Q I rx r h
  obtain ⟨d, b, o, xs, k, dv, rfl, rfl, D, hb, q⟩ := h
  cases rx
  obtain ⟨u0, us1, rfl, r0, r1⟩ : ∃ u0 us1, us = u0 :: us1 ∧ RelV (V.ref b) u0 ∧ Vals [dv] us1 := by
    cases r with
    | cons h t => exact ⟨_, _, rfl, h, t⟩
  obtain ⟨u1, rfl, ru⟩ := vals1 r1
  obtain rfl : u0 = Value.ref b := r0
  obtain ⟨_, hd, hz, _, ys, es, ep, rel, _, _, dd⟩ := Inv.way I D
  refine call_meetsIn PySem.F.slot_dict_get dd.typeIs PySem.F.entry_dict_get (PySem.F.args_dict_get_3 _ _ _) (meetsH_dict_get_default (tupleKind (mixKind X.prog X.w)) d b hd u1) ⟨tupleKind_room_in1 hu, k, ys, key_is I hb, dd, ?_⟩
  exact ⟨_, H, I.tok _, (relE_val rel k).getD (d := dv) ru, q⟩
def rSLen (w : World) : List V → Hp → VK → Prop := fun vs H Q => ∃ (a : Addr) (S : Int → Bool) (n : Nat), vs = [V.ref a] ∧ H a = some (SetO w a S n) ∧ Q (.int (n : Int)) H
theorem cr_lenS : CallR X (.builtin "len") (rSLen X.w) := by
  intro pins s σ H vs us Q I r h
  obtain ⟨a, S, n, rfl, hd, q⟩ := h
  rw [Vals.ref1 r]
  have R : SetR X.w s.heap a S n := (show ObjOk X.prog X.w H s.heap a (SetO X.w a S n) from I.hok _ _ hd).1
  obtain ⟨o, es, ep, t, ho, he, hd2, _, _, _, hb, hf, hn, _⟩ := R
  refine call_len_set ho he hd2 hf ?_ ?_
  · have hb : es.size < 4096 := hb
    have : (2 : Int) ^ 63 = 9223372036854775808 := by decide
    omega
  · rw [hn]
    exact ⟨.int (n : Int), H, (I.tok _).tok _, ⟨_, rfl⟩, q⟩
end
end FcW
namespace FcR
open PySem PySem.Spec PyProof.Rows L2
theorem b_set : bootBuiltins "set" = some (.type "set") := by decide +kernel
theorem b_dict : bootBuiltins "dict" = some (.type "dict") := by decide +kernel
end FcR
set_option maxRecDepth 100000
set_option maxHeartbeats 4000000
namespace Fc
open PySem PySem.Spec PyProof.Rows L2 FcR
open Evl (Ex)
theorem row_n1 {r : TRow} (h : r.2 ≠ []) : ¬ (HT.sIx (rowV r).length 0 none = 0 ∧ HT.sIx (rowV r).length (rowV r).length (some 1) = (rowV r).length) := by
  have e : HT.sIx (rowV r).length (rowV r).length (some ((1 : Nat) : Int)) = min 1 (rowV r).length := HT.sIx_nat ..
  rintro ⟨_, z⟩
  have z : HT.sIx (rowV r).length (rowV r).length (some ((1 : Nat) : Int)) = (rowV r).length := z
  rw [e] at z
  have l : (rowV r).length = 1 + r.2.length := by simp [rowV]; omega
  have := List.length_pos_iff.mpr h
  omega
theorem row_n2 {r : TRow} : ¬ (HT.sIx (rowV r).length 0 (some 1) = 0 ∧ HT.sIx (rowV r).length (rowV r).length none = (rowV r).length) := by
  have e : HT.sIx (rowV r).length 0 (some ((1 : Nat) : Int)) = min 1 (rowV r).length := HT.sIx_nat ..
  rintro ⟨z, _⟩
  have z : HT.sIx (rowV r).length 0 (some ((1 : Nat) : Int)) = 0 := z
  rw [e] at z
  have l : (rowV r).length = 1 + r.2.length := by simp [rowV]; omega
  omega
theorem row_c1 (r : TRow) : cutV (rowV r) none (some 1) = [.int (r.1 : Int)] := by
  have := cut_to (rowV r) 1
  exact this
theorem row_c2 (r : TRow) : cutV (rowV r) (some 1) none = r.2.map itV := by
  have := cut_from (rowV r) 1
  exact this
theorem getElem?_ints {ms : List Nat} {b : Nat} (h : b < ms.length) : (intsV ms)[b]? = some (.int ((ms.getD b 0 : Nat) : Int)) := by
  unfold intsV
  rw [List.getElem?_map, List.getElem?_eq_getElem h, List.getD_eq_getElem?_getD, List.getElem?_eq_getElem h] <;> rfl
def sp_ren (K : PySem.W.Frag) : Sp := fun vs H Q _ => ∃ (t m : Addr) (r : TRow) (ms : List Nat), vs = [.ref t, .ref m] ∧ RowAt K H t r ∧ H m = some (.lst (intsV ms)) ∧ r.2 ≠ [] ∧ r.2.length ≤ 2 ∧ (∀ b : Nat, Sum.inl b ∈ r.2 → b < ms.length) ∧ ∀ (H' : Hp) (t' : Addr), Ex H H' → H t' = none → H' t' = some (.tup (rowV (renR (fun b => ms.getD b 0) r))) → Q (.ref t') H'
def sp_renD (K : PySem.W.Frag) : Sp := fun vs H Q _ => ∃ (t m : Addr) (r : TRow) (kvs : List (Key × V)) (f : Nat → Nat), vs = [.ref t, .ref m] ∧ RowAt K H t r ∧ H m = some (.dK kvs) ∧ r.2 ≠ [] ∧ r.2.length ≤ 2 ∧ (∀ b : Nat, Sum.inl b ∈ r.2 → valV kvs (.inl (b : Int)) = some (.int (f b : Int))) ∧ ∀ (H' : Hp) (t' : Addr), Ex H H' → H t' = none → H' t' = some (.tup (rowV (renR f r))) → Q (.ref t') H'
section
variable {P : Program} {w : World} {h : Heap} {K : PySem.W.Frag} {mg : Str → Option Value} {base : Heap}
abbrev N_renumbered : List Str := ["row", "numbers", "item"]
theorem sc_renumbered : FnScope N_renumbered ["row", "numbers"] (defScope sd_renumbered) := ⟨rfl, rfl, rfl, by decide +kernel, rfl, by decide +kernel, by decide +kernel⟩
theorem ok_renumbered (T : Tx w h K mg) : Ok P w K mg base 1 ("renumbered", none) ["row", "numbers"] (sp_ren K) := by
  obtain ⟨fd, F⟩ := F_renumbered T
  refine ⟨fd, ?_, F.bindsN (fun _ _ _ _ _ _ us hl => match us, hl with | [_, _], _ => rfl), F.kp⟩
  refine F.ok sc_renumbered (fun vs H Q E h => ?_) (fun cdv A outer s H vs Q E hr h => ?_)
  · obtain ⟨t, m, r, ms, rfl, hw, hm, r0, r2, hb, q⟩ := h
    rfl
  · obtain ⟨t, m, r, ms, rfl, hw, hm, r0, r2, hb, q⟩ := h
    refine ⟨_, PSs.nox (pss_one (ps_ret (pe_op op_catT (pe_slice sl_tup (pv 0) po_none (po_some pe_int)) (pe_callTy call_tuple_of rfl (fr_tuple T) b_tuple (pa_cons (pe_lc (own := [("item", 2)]) rfl sc_renumbered.nd (pi_tup (pe_slice sl_tup (pv 0) (po_some pe_int) po_none)) (blkOk_by (N := N_renumbered) (sc := defScope sd_renumbered) (by decide +kernel)) (fun _ _ _ _ _ => (pg_name (i := 2) sc_renumbered.nd rfl (Or.inl rfl))) (fun _ _ _ _ _ => pts_nil) (fun _ _ _ _ _ => (pe_ifExp (pt_val (pe_callB (show CallR _ _ (rIsi K) from call_isi) rfl (fr_isinstance T) b_isinstance (pa_cons (pv 2) (pa_cons (pe_bltn (v := .ty "str") rfl (fr_str T) b_str rfl) pa_nil)))) (pv 2) (pe_ix (show IxR _ (rIxL K) from ix_list) (pv 1) (pv 2) (fun _ _ => rfl))))) pa_nil))))), ?_⟩
    refine ⟨_, rfl, ?_⟩
    unfold tNoPart
    refine ⟨1, rfl, t, _, rfl, hw, row_n1 r0, ?_⟩
    intro p1 n1
    generalize e1 : upd _ p1 _ = H1
    obtain ⟨x1, s1, o1⟩ := new_of e1 n1
    clear e1
    refine ⟨_, rfl, 1, rfl, t, _, rfl, Evl.ex_t x1 hw, row_n2, ?_⟩
    intro p2 n2
    generalize e2 : upd _ p2 _ = H2
    obtain ⟨x2, s2, o2⟩ := new_of e2 n2
    clear e2
    rw [row_c1] at s1
    rw [row_c2] at s2
    refine ⟨p2, rfl, ⟨_, SqT.of s2⟩, fun D nD => ?_⟩
    have hm2 := x2 _ _ (x1 _ _ hm)
    refine lc_it (walk_tup (xs := r.2.map itV)) (fun i H' => Ex H2 H' ∧ H' D = some (.lst ((r.2.take i).map fun y => itV (renI (fun b => ms.getD b 0) y)))) ?_ ?_ ?_ ?_
    · exact ⟨exu (Evl.Ex.refl _) nD, upd_same⟩
    · exact fun i H' _ ⟨e, _⟩ => Evl.ex_t e (SqT.of s2)
    · rintro i x Ja Jb hi ⟨e, l⟩ ⟨rfl, hx⟩
      rw [List.length_map] at hi
      have li : i < r.2.length := hi
      have hyi : r.2[i]? = some r.2[i] := List.getElem?_eq_getElem li
      rw [List.getElem?_map, hyi] at hx
      cases hx
      generalize r.2[i] = y at hyi
      have ty : ∀ {J : Hp}, TyX K J (itV y) (.type (tyD (itD y))) := dp_ty (dp_it y)
      have lt2 : (r.2.take i).length ≤ 2 := Nat.le_trans (List.length_take_le ..) (by omega)
      have tk := take_one hyi
      refine ⟨rfl, _, rfl, itV y, .ty "str", _, _, _, rfl, .ty _, ty, k_str _, ?_⟩
      cases y with
      | inr s =>
        refine ⟨_, rfl, _, rfl, _, l, szl (by rw [List.length_map]; omega), exm e nD, ?_⟩
        rw [upd_same, tk, List.map_append] <;> rfl
      | inl b =>
        have eb := hb b (List.mem_of_getElem? hyi)
        refine ⟨_, rfl, _, rfl, _, rfl, m, _, (b : Int), _, rfl, rfl, Evl.sq_of (e _ _ hm2), atI_nat (j := b) (by rw [getElem?_ints eb]), ?_⟩
        refine ⟨_, l, szl (by rw [List.length_map]; omega), exm e nD, ?_⟩
        rw [upd_same, tk, List.map_append] <;> rfl
    rintro H3 ⟨e3, l3⟩
    rw [List.length_map, List.take_length] at l3
    refine ⟨D, _, rfl, .inl ⟨Evl.sq_of l3, ?_⟩⟩
    intro p4 n4
    generalize e4 : upd _ p4 _ = H4
    obtain ⟨x4, s4, o4⟩ := new_of e4 n4
    clear e4
    have x24 : Ex H2 H4 := e3.trans x4
    refine ⟨p1, p4, _, _, rfl, rfl, SqT.of (x24 _ _ (x2 _ _ s1)), SqT.of s4, (fun z => by cases z), sz (by simp; omega), ?_⟩
    refine ⟨fun z => ?_, fun _ => ?_⟩
    · have := congrArg List.length z
      rw [List.length_map] at this
      exact absurd (List.length_eq_zero_iff.mp this) r0
    intro p5 n5
    generalize e5 : upd _ p5 _ = H5
    obtain ⟨x5, s5, o5⟩ := new_of e5 n5
    clear e5
    refine q H5 p5 (x1.trans (x2.trans (x24.trans x5))) (ex_none (x1.trans (x2.trans x24)) n5) ?_
    rw [s5]
    show _ = some (HO.tup (V.int (r.1 : Int) :: (r.2.map (renI (fun b => ms.getD b 0))).map itV))
    rw [List.map_map] <;> rfl
theorem ok_renumberedD (T : Tx w h K mg) : Ok P w K mg base 1 ("renumbered", none) ["row", "numbers"] (sp_renD K) := by
  obtain ⟨fd, F⟩ := F_renumbered T
  refine ⟨fd, ?_, F.bindsN (fun _ _ _ _ _ _ us hl => match us, hl with | [_, _], _ => rfl), F.kp⟩
  refine F.ok sc_renumbered (fun vs H Q E h => ?_) (fun cdv A outer s H vs Q E hr h => ?_)
  · obtain ⟨t, m, r, kvs, f, rfl, hw, hm, r0, r2, hb, q⟩ := h
    rfl
  · obtain ⟨t, m, r, kvs, f, rfl, hw, hm, r0, r2, hb, q⟩ := h
    refine ⟨_, PSs.nox (pss_one (ps_ret (pe_op op_catT (pe_slice sl_tup (pv 0) po_none (po_some pe_int)) (pe_callTy call_tuple_of rfl (fr_tuple T) b_tuple (pa_cons (pe_lc (own := [("item", 2)]) rfl sc_renumbered.nd (pi_tup (pe_slice sl_tup (pv 0) (po_some pe_int) po_none)) (blkOk_by (N := N_renumbered) (sc := defScope sd_renumbered) (by decide +kernel)) (fun _ _ _ _ _ => (pg_name (i := 2) sc_renumbered.nd rfl (Or.inl rfl))) (fun _ _ _ _ _ => pts_nil) (fun _ _ _ _ _ => (pe_ifExp (pt_val (pe_callB (show CallR _ _ (rIsi K) from call_isi) rfl (fr_isinstance T) b_isinstance (pa_cons (pv 2) (pa_cons (pe_bltn (v := .ty "str") rfl (fr_str T) b_str rfl) pa_nil)))) (pv 2) (pe_dget (hu_of hr) (pv 1) (pv 2) (fun _ _ => rfl))))) pa_nil))))), ?_⟩
    refine ⟨_, rfl, ?_⟩
    unfold tNoPart
    refine ⟨1, rfl, t, _, rfl, hw, row_n1 r0, ?_⟩
    intro p1 n1
    generalize e1 : upd _ p1 _ = H1
    obtain ⟨x1, s1, o1⟩ := new_of e1 n1
    clear e1
    refine ⟨_, rfl, 1, rfl, t, _, rfl, Evl.ex_t x1 hw, row_n2, ?_⟩
    intro p2 n2
    generalize e2 : upd _ p2 _ = H2
    obtain ⟨x2, s2, o2⟩ := new_of e2 n2
    clear e2
    rw [row_c1] at s1
    rw [row_c2] at s2
    refine ⟨p2, rfl, ⟨_, SqT.of s2⟩, fun D nD => ?_⟩
    have hm2 := x2 _ _ (x1 _ _ hm)
    refine lc_it (walk_tup (xs := r.2.map itV)) (fun i H' => Ex H2 H' ∧ H' D = some (.lst ((r.2.take i).map fun y => itV (renI (f) y)))) ?_ ?_ ?_ ?_
    · exact ⟨exu (Evl.Ex.refl _) nD, upd_same⟩
    · exact fun i H' _ ⟨e, _⟩ => Evl.ex_t e (SqT.of s2)
    · rintro i x Ja Jb hi ⟨e, l⟩ ⟨rfl, hx⟩
      rw [List.length_map] at hi
      have li : i < r.2.length := hi
      have hyi : r.2[i]? = some r.2[i] := List.getElem?_eq_getElem li
      rw [List.getElem?_map, hyi] at hx
      cases hx
      generalize r.2[i] = y at hyi
      have ty : ∀ {J : Hp}, TyX K J (itV y) (.type (tyD (itD y))) := dp_ty (dp_it y)
      have lt2 : (r.2.take i).length ≤ 2 := Nat.le_trans (List.length_take_le ..) (by omega)
      have tk := take_one hyi
      refine ⟨rfl, _, rfl, itV y, .ty "str", _, _, _, rfl, .ty _, ty, k_str _, ?_⟩
      cases y with
      | inr s =>
        refine ⟨_, rfl, _, rfl, _, l, szl (by rw [List.length_map]; omega), exm e nD, ?_⟩
        rw [upd_same, tk, List.map_append] <;> rfl
      | inl b =>
        have eb := hb b (List.mem_of_getElem? hyi)
        refine ⟨_, rfl, _, rfl, _, rfl, m, _, rfl, .inl ⟨_, .inl (b : Int), .inl (e _ _ hm2), rfl, eb.symm⟩, ?_⟩
        refine ⟨_, l, szl (by rw [List.length_map]; omega), exm e nD, ?_⟩
        rw [upd_same, tk, List.map_append] <;> rfl
    rintro H3 ⟨e3, l3⟩
    rw [List.length_map, List.take_length] at l3
    refine ⟨D, _, rfl, .inl ⟨Evl.sq_of l3, ?_⟩⟩
    intro p4 n4
    generalize e4 : upd _ p4 _ = H4
    obtain ⟨x4, s4, o4⟩ := new_of e4 n4
    clear e4
    have x24 : Ex H2 H4 := e3.trans x4
    refine ⟨p1, p4, _, _, rfl, rfl, SqT.of (x24 _ _ (x2 _ _ s1)), SqT.of s4, (fun z => by cases z), sz (by simp; omega), ?_⟩
    refine ⟨fun z => ?_, fun _ => ?_⟩
    · have := congrArg List.length z
      rw [List.length_map] at this
      exact absurd (List.length_eq_zero_iff.mp this) r0
    intro p5 n5
    generalize e5 : upd _ p5 _ = H5
    obtain ⟨x5, s5, o5⟩ := new_of e5 n5
    clear e5
    refine q H5 p5 (x1.trans (x2.trans (x24.trans x5))) (ex_none (x1.trans (x2.trans x24)) n5) ?_
    rw [s5]
    show _ = some (HO.tup (V.int (r.1 : Int) :: (r.2.map (renI (f))).map itV))
    rw [List.map_map] <;> rfl
end
end Fc
set_option maxRecDepth 100000
set_option maxHeartbeats 4000000
namespace Fc
open PySem PySem.Spec PyProof.Rows L2 FcR
open Evl (Ex)
def kvN (L : List Nat) : List (Key × V) := L.mapIdx fun i (n : Nat) => (.inl (n : Int), .int (i : Int))
structure RowsOk (n : Nat) (g : Nat → TRow) : Prop where
  ok : TOk n g
  ne : ∀ a, a < n → (g a).2 ≠ []
  le : ∀ a, a < n → (g a).2.length ≤ 2
def getR (rs : List TRow) (a : Nat) : TRow := rs.getD a (0, [])
theorem valV_snocN {kvs : List (Key × V)} {k : Key} {v : V} (h : valV kvs k = none) : putK kvs k v = kvs ++ [(k, v)] := by
  unfold putK
  rw [if_neg]
  rw [valV_any, h]; decide
theorem kvN_snoc (L : List Nat) (n : Nat) : kvN (L ++ [n]) = kvN L ++ [(.inl (n : Int), .int (L.length : Int))] := by
  unfold kvN
  rw [List.mapIdx_append]
  simp
theorem valV_app (a b : List (Key × V)) (k : Key) : valV (a ++ b) k = (valV a k).or (valV b k) := by
  induction a with
  | nil => rfl
  | cons x a ih =>
    by_cases e : x.1 = k
    · rw [List.cons_append, valV_pos e, valV_pos e] <;> rfl
    · rw [List.cons_append, valV_neg e, valV_neg e, ih]
theorem kvN_val : ∀ (k : Nat) (L : List Nat) (n : Nat), L.length = k → valV (kvN L) (.inl (n : Int)) = if n ∈ L then some (.int (L.idxOf n : Int)) else none
  | 0, L, n, h => by
    obtain rfl := List.length_eq_zero_iff.mp h
    rw [if_neg List.not_mem_nil] <;> rfl
  | k + 1, L, n, h => by
    rcases List.eq_nil_or_concat L with rfl | ⟨M, x, rfl⟩
    · cases h
    · rw [List.concat_eq_append] at h ⊢
      have hM : M.length = k := by simp at h; omega
      rw [kvN_snoc, valV_app, kvN_val k M n hM]
      by_cases e : n ∈ M
      · rw [if_pos e, if_pos (List.mem_append_left _ e), List.idxOf_append, if_pos e] <;> rfl
      · rw [if_neg e, Option.none_or]
        by_cases e2 : n = x
        · subst e2
          rw [valV_pos rfl, if_pos (by simp), List.idxOf_append, if_neg e, List.idxOf_cons_self, Nat.zero_add]
        · rw [valV_neg (fun z : (Sum.inl (x : Int) : Key) = .inl (n : Int) => e2 (by cases z; omega)), if_neg (by simp [e, e2])] <;> rfl
theorem paired_getP {α β : Type} {R : α → β → Prop} : ∀ {xs : List α} {ys : List β}, Paired R xs ys → ∀ {i : Nat} {y : β}, ys[i]? = some y → ∃ x, xs[i]? = some x ∧ R x y
  | _, _, .nil, _, _, h => by cases h
  | _, _, .cons r t, 0, y, h => by cases h; exact ⟨_, rfl, r⟩
  | _, _, .cons r t, i + 1, y, h => paired_getP t (i := i) h
theorem paired_getT {α : Type} {R : α → TRow → Prop} {ts : List α} {rs : List TRow} (h : Paired R ts rs) {x : Nat} (hx : x < rs.length) : ∃ t, ts[x]? = some t ∧ R t (getR rs x) := by
  obtain ⟨t, e, r⟩ := paired_getP h (List.getElem?_eq_getElem hx)
  refine ⟨t, e, ?_⟩
  unfold getR
  rw [List.getD_eq_getElem?_getD, List.getElem?_eq_getElem hx]
  exact r
theorem ordN_next {g : Nat → TRow} {s k x : Nat} (h : (ordN g s k)[k]? = some x) : ordN g s (k + 1) = addN (ordN g s k) (g x).2 := by
  show (match (ordN g s k)[k]? with
    | some n => addN (ordN g s k) (g n).2
    | none => ordN g s k) = _
  rw [h]
def sp_ordD (K : PySem.W.Frag) : Sp := fun vs H Q _ => ∃ (la : Addr) (s n : Nat) (kvs : List (Key × V)) (g : Nat → TRow), vs = [.ref la, .int (s : Int)] ∧ H la = some (.dK kvs) ∧ (∀ c, c < n → ∃ t, valV kvs (.inl (c : Int)) = some (.ref t) ∧ RowAt K H t (g c)) ∧ n ≤ 400 ∧ s < n ∧ RowsOk n g ∧
  ∀ (H' : Hp) (a : Addr) (us : List Addr), Ex H H' → H a = none → H' a = some (.lst (us.map V.ref)) → RowsAt K H' us (ordT g s n) → Q (.ref a) H'
section
variable {P : Program} {w : World} {h : Heap} {K : PySem.W.Frag} {mg : Str → Option Value} {base : Heap}
abbrev N_ordered : List Str := ["rows", "start", "order", "numbers", "at", "item", "one"]
theorem sc_ordered : FnScope N_ordered ["rows", "start"] (defScope sd_ordered) := ⟨rfl, rfl, rfl, by decide +kernel, rfl, by decide +kernel, by decide +kernel⟩
theorem ok_orderedD (T : Tx w h K mg) : Ok P w K mg base 5 ("ordered", none) ["rows", "start"] (sp_ordD K) := by
  obtain ⟨fd, F⟩ := F_ordered T
  refine ⟨fd, ?_, F.bindsN (fun _ _ _ _ _ _ us hl => match us, hl with | [_, _], _ => rfl), F.kp⟩
  obtain ⟨fd_renumbered, G_renumbered, bi_renumbered, kp_renumbered⟩ := ok_renumberedD (P := P) (base := base) T
  refine F.ok sc_ordered (fun vs H Q E h => ?_) (fun cdv A outer s H vs Q E hr h => ?_)
  · obtain ⟨la, s, n, kvs, g, rfl, hla, RA, n4', hs, ok, q⟩ := h
    rfl
  · obtain ⟨la, s, n, kvs, g, rfl, hla, RA, n4', hs, ok, q⟩ := h
    refine ⟨_, PSs.nox (pss_cons (ps_asg (pe_tup (pa_cons (pe_lst (pa_cons (pv 1) pa_nil)) (pa_cons (pe_disp (pps_cons (pv 1) pe_int pps_nil) (by rfl) (by rfl) (fun z => by cases z) (by decide)) (pa_cons pe_int pa_nil)))) (pg_tup rfl (pgs_cons (pg_name (i := 2) sc_ordered.nd rfl (Or.inl rfl)) (pgs_cons (pg_name (i := 3) sc_ordered.nd rfl (Or.inr rfl)) (pgs_cons (pg_name (i := 4) sc_ordered.nd rfl (Or.inl rfl)) pgs_nil))))) (pss_cons (ps_while PassesOwn.never (pt_cmpR op_lt (pv 4) (pe_callB call_len_seq rfl (fr_len T) b_len (pa_cons (pv 2) pa_nil)) (nomark _)) (pss_cons (ps_for PassesOwn.never rfl (pi_tup (pe_slice sl_tup (pe_dget (hu_of hr) (pv 0) (pe_ix ix_list (pv 2) (pv 4) (fun _ _ => rfl)) (fun _ _ => rfl)) (po_some pe_int) po_none)) (pg_name (i := 5) sc_ordered.nd rfl (Or.inl rfl)) (pss_one (ps_if (PW.pt (pw_and (pt_not (pt_val (pe_callB call_isi rfl (fr_isinstance T) b_isinstance (pa_cons (pv 5) (pa_cons (pe_bltn (v := .ty "str") rfl (fr_str T) b_str rfl) pa_nil))))) (pw_and1 (pt_cmp (pc_dnotin (hu_of hr) (pv 5) (pv 3)))))) (pss_cons (ps_asg (pe_callB call_len_seq rfl (fr_len T) b_len (pa_cons (pv 2) pa_nil)) (pg_sub (pv 3) (pv 5) (set_dict (hu_of hr)))) (pss_one (ps_expr (pe_bm PySem.F.plainAttrs_list PySem.F.slot_list_append PySem.F.type_list_append mt_append (pv 2) (pa_cons (pv 5) pa_nil))))) pss_nil))) (pss_one (ps_set (i := 4) sc_ordered.nd rfl (Or.inl rfl) (pe_op op_add (pv 4) pe_int))))) (pss_one (ps_ret (pe_lc (own := [("one", 6)]) rfl sc_ordered.nd (pi_list (pv 2)) (blkOk_by (N := N_ordered) (sc := defScope sd_ordered) (by decide +kernel)) (fun _ _ _ _ _ => (pg_name (i := 6) sc_ordered.nd rfl (Or.inl rfl))) (fun _ _ _ _ _ => pts_nil) (fun _ _ _ _ _ => (pe_call G_renumbered (hr.mono (by decide)) rfl (g_renumbered T) kp_renumbered bi_renumbered .nil passF (pa_cons (pe_dget (hu_of hr) (pv 0) (pv 6) (fun _ _ => rfl)) (pa_cons (pv 3) pa_nil))))))))), ?_⟩
    refine ⟨_, rfl, sz (by simp), ?_⟩
    intro p1 n1
    generalize e1 : upd _ p1 _ = H1
    obtain ⟨x1, s1, o1⟩ := new_of e1 n1
    clear e1
    show ∀ (p2 : Addr), H1 p2 = none → _
    intro p2 n2
    generalize e2 : upd _ p2 _ = H2
    obtain ⟨x2, s2, o2⟩ := new_of e2 n2
    clear e2
    refine ⟨_, rfl, s2, [((.inl (s : Int) : Key), V.int 0)], rfl, (by simp), ?_⟩
    rw [show mergeK [] [((.inl (s : Int) : Key), V.int 0)] = kvN [s] from rfl]
    generalize e3 : upd _ p2 _ = H3
    obtain ⟨s3, o3⟩ := set_of e3
    clear e3
    refine ⟨sz (by simp), ?_⟩
    intro p4 n4
    generalize e4 : upd _ p4 _ = H4
    obtain ⟨x4, s4, o4⟩ := new_of e4 n4
    clear e4
    have n2' : H p2 = none := ex_none x1 n2
    have p12 : p1 ≠ p2 := fun z => by rw [← z, s1] at n2; cases n2
    have p41 : p4 ≠ p1 := fun z => by rw [z, o3 _ p12, x2 _ _ s1] at n4; cases n4
    have p42 : p4 ≠ p2 := fun z => by rw [z, s3] at n4; cases n4
    have xH3 : Ex H H3 := fun b o e => by
      rw [o3 b (fun z => by rw [z, n2'] at e; cases e)]
      exact x2 _ _ (x1 _ _ e)
    have xH4 := xH3.trans x4
    refine ⟨p4, _, rfl, SqT.of s4, rfl, ?_⟩
    refine ⟨_, _, rfl, _, _, rfl, _, _, rfl, rfl, ?_⟩
    have x13' : ∀ {b : Addr} {o o' : HO} {Hq : Hp} {r : Addr}, H b = some o → H r = none → Hq b = some o → (upd Hq r o') b = some o := fun {b o o' Hq r} e n e2 => by
      rw [upd_ne (fun z => by rw [z, n] at e; cases e)]; exact e2
    refine ⟨fun m σ' H' => ∃ (k : Nat) (o5 o6 : Option V), σ' = [some (.ref la), some (.int (s : Int)), some (.ref p1), some (.ref p2), some (.int (k : Int)), o5, o6] ∧ m + k = n ∧ Ex H H' ∧ H' p1 = some (.lst (intsV (ordN g s k))) ∧ H' p2 = some (.dK (kvN (ordN g s k))), ⟨n, 0, none, none, rfl, rfl, xH4, x4 _ _ ((o3 _ p12).trans (x2 _ _ s1)), x4 _ _ s3⟩, ?_⟩
    rintro m σ' H5 ⟨k, u5, u6, rfl, mk, xH5, l5, d5⟩
    obtain ⟨nd, lt, ne, pre⟩ := ordN_ok ok.ok hs k
    have ll : (ordN g s k).length ≤ n := nd_lt nd lt
    refine ⟨_, rfl, _, rfl, p1, _, rfl, .inl (Evl.sq_of l5), _, _, rfl, rfl, ?_⟩
    rw [show (intsV (ordN g s k)).length = (ordN g s k).length from List.length_map ..]
    refine ⟨_, rfl, ite_of (fun c => ?_) (fun c => ?_)⟩
    · have c : k < (ordN g s k).length := by have := of_decide_eq_true c; omega
      refine ⟨fun σ' H' => ∃ (k' : Nat) (o5 o6 : Option V), σ' = [some (.ref la), some (.int (s : Int)), some (.ref p1), some (.ref p2), some (.int (k' : Int)), o5, o6] ∧ (m - 1) + k' = n ∧ Ex H H' ∧ H' p1 = some (.lst (intsV (ordN g s k'))) ∧ H' p2 = some (.dK (kvN (ordN g s k'))), fun σ' H' h => ⟨m - 1, by omega, h⟩, ?_⟩
      obtain ⟨x, hx⟩ : ∃ x, (ordN g s k)[k]? = some x := ⟨_, List.getElem?_eq_getElem c⟩
      have xn : x < n := lt x (List.mem_of_getElem? hx)
      have hx' : (intsV (ordN g s k))[k]? = some (.int (x : Int)) := by unfold intsV; rw [List.getElem?_map, hx] <;> rfl
      have on := ordN_next hx
      generalize ordN g s k = L at *
      obtain ⟨t, ht, rt⟩ := RA x xn; refine ⟨_, rfl, _, rfl, _, rfl, p1, _, (k : Int), _, rfl, rfl, Evl.sq_of l5, atI_nat (j := k) hx', la, _, rfl, .inl ⟨_, .inl (x : Int), .inl (xH5 _ _ hla), rfl, ht.symm⟩, ?_⟩
      refine ⟨1, rfl, ?_⟩
      unfold tNoPart
      refine ⟨t, _, rfl, Evl.ex_t xH5 rt, row_n2, ?_⟩
      intro p6 n6
      generalize e6 : upd _ p6 _ = H6
      obtain ⟨x6, s6, o6⟩ := new_of e6 n6
      clear e6
      rw [row_c2] at s6
      refine ⟨p6, rfl, ⟨_, SqT.of s6⟩, ?_⟩
      have xH6 := xH5.trans x6
      have nd6 : ∀ j, (addN L ((g x).2.take j)).Nodup := fun j => addN_nd _ nd
      have lt6 : ∀ j, ∀ y ∈ addN L ((g x).2.take j), y < n := fun j y hy => by
        rcases addN_in hy with h | h
        · exact lt y h
        · exact ok.ok x xn y (List.mem_of_mem_take h)
      have n6p : p6 ≠ p1 ∧ p6 ≠ p2 := ⟨(fun z => by rw [z, l5] at n6; cases n6), (fun z => by rw [z, d5] at n6; cases n6)⟩
      refine for_it (walk_tup (xs := (g x).2.map itV)) (fun j σ' H' => ∃ o5' : Option V, σ' = [some (.ref la), some (.int (s : Int)), some (.ref p1), some (.ref p2), some (.int (k : Int)), o5', u6] ∧ Ex H H' ∧ H' p6 = some (.tup ((g x).2.map itV)) ∧ H' p1 = some (.lst (intsV (addN L ((g x).2.take j)))) ∧ H' p2 = some (.dK (kvN (addN L ((g x).2.take j))))) ?_ ?_ ?_ ?_
      · exact ⟨_, rfl, xH6, s6, x6 _ _ l5, x6 _ _ d5⟩
      · exact fun i σ' H' _ ⟨_, _, _, e, _⟩ => SqT.of e
      · rintro j v σ' Ha H7 hj ⟨o5', rfl, xH7, s7, l7, d7⟩ ⟨rfl, hv⟩
        rw [List.length_map] at hj
        have hyi : (g x).2[j]? = some (g x).2[j] := List.getElem?_eq_getElem hj
        rw [List.getElem?_map, hyi] at hv
        cases hv
        have tk := take_one hyi
        generalize (g x).2[j] = y at hyi tk
        have ad : addN L ((g x).2.take (j + 1)) = addI (addN L ((g x).2.take j)) y := by
          rw [tk]
          show List.foldl addI L _ = _
          rw [List.foldl_append] <;> rfl
        rw [ad]
        have ndj := nd6 j
        have ltj := lt6 j
        generalize addN L ((g x).2.take j) = M at *
        have lM : M.length ≤ n := nd_lt ndj ltj
        have ty : ∀ {J : Hp}, TyX K J (itV y) (.type (tyD (itD y))) := dp_ty (dp_it y)
        refine ⟨_, rfl, itV y, .ty "str", _, _, _, rfl, .ty _, ty, k_str _, ?_⟩
        cases y with
        | inr str =>
          refine ⟨_, rfl, ?_⟩
          exact ⟨_, rfl, xH7, s7, l7, d7⟩
        | inl n =>
          have nn := ok.ok x xn n (List.mem_of_getElem? hyi)
          refine ⟨_, rfl, ?_⟩
          refine ⟨_, rfl, _, rfl, p2, _, rfl, DGet.k (k := .inl (n : Int)) d7, _, rfl, ?_⟩
          rw [kvN_val _ M n rfl]
          by_cases e : n ∈ M
          · rw [if_pos e]
            refine ⟨_, rfl, xH7, s7, ?_, ?_⟩
            · rw [l7]; show _ = some (HO.lst (intsV (if n ∈ M then M else M ++ [n]))); rw [if_pos e]
            · rw [d7]; show _ = some (HO.dK (kvN (if n ∈ M then M else M ++ [n]))); rw [if_pos e]
          · rw [if_neg e]
            refine ⟨_, rfl, p1, _, rfl, .inl (Evl.sq_of l7), _, rfl, _, rfl, p2, _, rfl, DPut.k (k := .inl (n : Int)) d7 (szl (by unfold kvN; rw [List.length_mapIdx]; omega)), ?_⟩
            rw [show putK (kvN M) (.inl (n : Int)) (V.int ((intsV M).length : Int)) = kvN (M ++ [n]) from by rw [valV_snocN (by rw [kvN_val _ M n rfl, if_neg e]), kvN_snoc, show (intsV M).length = M.length from List.length_map ..]]
            generalize e8 : upd _ p2 _ = H8
            obtain ⟨s8, o8⟩ := set_of e8
            clear e8
            refine ⟨_, rfl, .inl ⟨rfl, _, Evl.sq_of ((o8 _ p12).trans l7)⟩, _, rfl, p1, _, _, rfl, rfl, (o8 _ p12).trans l7, szl (by show (intsV M).length < 100000; rw [show (intsV M).length = M.length from List.length_map ..]; omega), ?_⟩
            generalize e9 : upd _ p1 _ = H9
            obtain ⟨s9, o9⟩ := set_of e9
            clear e9
            have en : addI M (.inl n) = M ++ [n] := if_neg e
            rw [en]
            refine ⟨_, rfl, fun b o eb => ?_, ?_, ?_, ?_⟩
            · rw [o9 b (fun z => by rw [z, n1] at eb; cases eb), o8 b (fun z => by rw [z, n2'] at eb; cases eb)]
              exact xH7 _ _ eb
            · rw [o9 _ n6p.1, o8 _ n6p.2]; exact s7
            · rw [s9]; show _ = some (HO.lst (intsV (M ++ [n]))); unfold intsV; rw [List.map_append] <;> rfl
            · rw [o9 _ (Ne.symm p12)]; exact s8
      rintro σ' H10 ⟨o5', rfl, xH10, s10, l10, d10⟩
      rw [List.length_map, List.take_length] at l10 d10
      refine ⟨_, rfl, _, _, rfl, rfl, ⟨k + 1, _, _, rfl, by omega, xH10, ?_, ?_⟩⟩
      · rw [l10, on]
      · rw [d10, on]
    have c : (ordN g s k).length ≤ k := by
      have := of_decide_eq_false c
      omega
    have fin := ordN_stay c n (by omega)
    refine ⟨_, rfl, p1, rfl, ⟨_, Evl.sq_of l5⟩, fun D nD => ?_⟩
    rw [show ordN g s k = ordN g s n from fin.symm] at l5 d5 lt ll
    have hOT : ordT g s n = (ordN g s n).map fun a => renR (fun b => (ordN g s n).idxOf b) (g a) := rfl
    have cl : ∀ a ∈ ordN g s n, ∀ b : Nat, Sum.inl b ∈ (g a).2 → b ∈ ordN g s n := by
      rw [fin]
      exact ordN_cl c
    generalize ordN g s n = L at *
    refine lc_it (walk_list (xs := intsV L)) (fun i H' => Ex H5 H' ∧ ∃ us, H' D = some (.lst (us.map V.ref)) ∧ RowsAt K H' us ((L.take i).map fun a => renR (fun b => L.idxOf b) (g a))) ?_ ?_ ?_ ?_
    · exact ⟨exu (Evl.Ex.refl _) nD, [], upd_same, .nil⟩
    · exact fun i H' _ ⟨e, _⟩ => Evl.sq_of (e _ _ l5)
    · rintro i v Ja Jb hi ⟨e, us, lD, ra⟩ ⟨rfl, hv⟩
      rw [show (intsV L).length = L.length from List.length_map ..] at hi
      have hxi : L[i]? = some L[i] := List.getElem?_eq_getElem hi
      have hv : (L.map fun n : Nat => V.int (n : Int))[i]? = some v := hv
      rw [List.getElem?_map, hxi] at hv
      cases hv
      have hm := List.mem_of_getElem? hxi
      have tk := take_one hxi
      generalize L[i] = x at hxi hm tk
      have xn : x < n := lt x hm
      obtain ⟨t, ht, rt⟩ := RA x xn; refine ⟨rfl, _, rfl, _, rfl, la, _, rfl, .inl ⟨_, .inl (x : Int), .inl (e _ _ (xH5 _ _ hla)), rfl, ht.symm⟩, ?_⟩
      refine ⟨_, rfl, t, p2, g x, kvN L, fun b => L.idxOf b, rfl, Evl.ex_t (xH5.trans e) rt, e _ _ d5, ok.ne x xn, ok.le x xn, fun b hb => by rw [kvN_val _ L b rfl, if_pos (cl x hm b hb)], fun H7 t' x7 n7 s7 => ?_⟩
      have lD7 := x7 _ _ lD
      have ul := rowsAt_len ra
      have u4 : us.length < 100000 := by rw [ul, List.length_map, List.length_take]; omega
      refine ⟨_, lD7, szl (by rw [List.length_map]; exact u4), exm (e.trans x7) nD, us ++ [t'], by rw [upd_same, List.map_append] <;> rfl, ?_⟩
      rw [tk, List.map_append]
      exact rowsAt_snoc (rowsAt_set lD7 (rowsAt_ex x7 ra)) (row_set (SqT.of s7) lD7)
    rintro H8 ⟨e, us, lD, ra⟩
    rw [show (intsV L).length = L.length from List.length_map .., List.take_length] at ra
    refine q H8 D us (xH5.trans e) (ex_none xH5 nD) lD ?_
    rw [hOT]
    exact ra
end
end Fc
set_option maxRecDepth 100000
set_option maxHeartbeats 4000000
namespace Fc
open PySem PySem.Spec PyProof.Rows L2 FcR
open Evl (Ex)
theorem kvI_snoc {κ : Type} (L : List κ) (k : κ) : ((L ++ [k]).mapIdx fun i k => ((k, V.int (i : Int)) : κ × V)) = (L.mapIdx fun i k => (k, V.int (i : Int))) ++ [(k, .int (L.length : Int))] := by
  rw [List.mapIdx_append]
  simp
theorem valI_app {κ : Type} [DecidableEq κ] (a b : List (κ × V)) (k : κ) : valV (a ++ b) k = (valV a k).or (valV b k) := by
  induction a with
  | nil => rfl
  | cons x a ih =>
    by_cases e : x.1 = k
    · rw [List.cons_append, valV_pos e, valV_pos e] <;> rfl
    · rw [List.cons_append, valV_neg e, valV_neg e, ih]
theorem kvI_val {κ : Type} [DecidableEq κ] : ∀ (j : Nat) (L : List κ) (k : κ), L.length = j → valV (L.mapIdx fun i k => ((k, V.int (i : Int)) : κ × V)) k = if k ∈ L then some (.int (ixK L k : Int)) else none
  | 0, L, n, h => by
    obtain rfl := List.length_eq_zero_iff.mp h
    rw [if_neg List.not_mem_nil] <;> rfl
  | j + 1, L, n, h => by
    rcases List.eq_nil_or_concat L with rfl | ⟨M, x, rfl⟩
    · cases h
    · rw [List.concat_eq_append] at h ⊢
      have hM : M.length = j := by simp at h; omega
      rw [kvI_snoc, valI_app, kvI_val j M n hM]
      by_cases e : n ∈ M
      · unfold ixK
        rw [if_pos e, if_pos (List.mem_append_left _ e), List.idxOf_append, if_pos e] <;> rfl
      · rw [if_neg e, Option.none_or]
        by_cases e2 : n = x
        · subst e2
          unfold ixK
          rw [valV_pos rfl, if_pos (by simp), List.idxOf_append, if_neg e, List.idxOf_cons_self, Nat.zero_add]
        · rw [valV_neg (fun z : x = n => e2 z.symm), if_neg (by simp [e, e2])] <;> rfl
theorem row_setL {K : PySem.W.Frag} {H H' : Hp} {t D : Addr} {d : List V} {xs : List V} (h : SqT K H t xs) (e : H D = some (.lst d)) (o : ∀ b, b ≠ D → H' b = H b) : SqT K H' t xs := by
  rcases h with h | h
  · refine .inl ?_
    rcases h with h | ⟨ob, h⟩
    · exact .inl (by rw [o t (fun z => by rw [z, e] at h; cases h)]; exact h)
    · exact .inr ⟨ob, by rw [o t (fun z => by rw [z, e] at h; cases h)]; exact h⟩
  · exact .inr h
theorem kV_it : ∀ y : Itm, kV (itK y) = itV y
  | .inl _ => rfl
  | .inr _ => rfl
theorem kV_row (r : TRow) : (rowK r).map kV = rowV r := by
  show V.int _ :: (r.2.map itK).map kV = _
  rw [List.map_map]
  show _ = V.int _ :: _
  congr 1
  exact List.map_congr_left fun y _ => kV_it y
theorem ix_getK {κ : Type} [DecidableEq κ] : ∀ {L : List κ} {i : Nat} {x : κ}, L.Nodup → L[i]? = some x → ixK L x = i
  | y :: L, 0, x, _, h => by
    cases h
    exact List.idxOf_cons_self
  | y :: L, i + 1, x, nd, h => by
    obtain ⟨n1, n2⟩ := List.nodup_cons.mp nd
    have := ix_getK (L := L) n2 h
    unfold ixK at this ⊢
    have hne : y ≠ x := fun z => n1 (by rw [z]; exact List.mem_of_getElem? h)
    rw [List.idxOf_cons, beq_eq_false_iff_ne.mpr hne, cond_false, this]
abbrev kvI (L : List (List Key)) : List (List Key × V) := L.mapIdx fun i k => (k, V.int (i : Int))
theorem kvI_put (L : List (List Key)) (ndL : L.Nodup) (k : List Key) : putK (kvI L) k ((valV (kvI L) k).getD (.int (L.length : Int))) = kvI (addK L k) ∧ valV (kvI (addK L k)) k = some (.int (ixK (addK L k) k : Int)) := by
  have v := kvI_val _ L k rfl
  have v2 := kvI_val _ (addK L k) k rfl
  rw [if_pos (addK_mem.mpr (.inr rfl))] at v2
  refine ⟨?_, v2⟩
  unfold addK
  by_cases e : k ∈ L
  · rw [if_pos e] at v ⊢
    rw [show valV (kvI L) k = some (V.int (ixK L k : Int)) from v]
    unfold putK
    rw [valV_any, show valV (kvI L) k = some (V.int (ixK L k : Int)) from v, if_pos (show (some (V.int (ixK L k : Int))).isSome = true from rfl)]
    refine List.ext_getElem? fun i => ?_
    rw [List.getElem?_map]
    unfold kvI
    rw [List.getElem?_mapIdx]
    cases hi : L[i]? with
    | none => rfl
    | some x =>
      show some (if x = k then (x, V.int (ixK L k : Int)) else (x, V.int (i : Int))) = some (x, V.int (i : Int))
      by_cases z : x = k
      · rw [if_pos z, z]
        congr 4
        subst z
        exact ix_getK ndL hi
      · rw [if_neg z]
  · rw [if_neg e] at v ⊢
    rw [show valV (kvI L) k = none from v]
    unfold putK
    rw [valV_any, show valV (kvI L) k = none from v, if_neg (by decide)]
    exact (kvI_snoc L k).symm
def sp_cls (K : PySem.W.Frag) : Sp := fun vs H Q _ => ∃ (la : Addr) (ts : List Addr) (rs : List TRow), vs = [.ref la] ∧ H la = some (.lst (ts.map V.ref)) ∧ RowsAt K H ts rs ∧ 1 ≤ rs.length ∧ rs.length ≤ 400 ∧ RowsOk rs.length (getR rs) ∧
  ∀ (H' : Hp) (a : Addr) (k : Nat), Ex H H' → H a = none → H' a = some (.lst (intsV (clsN rs (k + 1)))) → StopK rs k → Q (.ref a) H'
section
variable {P : Program} {w : World} {h : Heap} {K : PySem.W.Frag} {mg : Str → Option Value} {base : Heap}
abbrev N_classes_of : List Str := ["rows", "row", "marks", "many", "numbers", "later", "at", "key"]
theorem sc_classes_of : FnScope N_classes_of ["rows"] (defScope sd_classes_of) := ⟨rfl, rfl, rfl, by decide +kernel, rfl, by decide +kernel, by decide +kernel⟩
theorem ok_classes_of (T : Tx w h K mg) : Ok P w K mg base 6 ("classes_of", none) ["rows"] (sp_cls K) := by
  obtain ⟨fd, F⟩ := F_classes_of T
  refine ⟨fd, ?_, F.bindsN (fun _ _ _ _ _ _ us hl => match us, hl with | [_], _ => rfl), F.kp⟩
  obtain ⟨fd_renumbered, G_renumbered, bi_renumbered, kp_renumbered⟩ := ok_renumbered (P := P) (base := base) T
  refine F.ok sc_classes_of (fun vs H Q E h => ?_) (fun cdv A outer s H vs Q E hr h => ?_)
  · obtain ⟨la, ts, rs, rfl, hla, RA, n1', n4', ok, q⟩ := h
    rfl
  · obtain ⟨la, ts, rs, rfl, hla, RA, n1', n4', ok, q⟩ := h
    refine ⟨_, PSs.nox (pss_cons (ps_setLc (i := 2) (own := [("row", 1)]) rfl sc_classes_of.nd rfl rfl (sw_true rfl rfl rfl (by decide +kernel)) (pi_list (pv 0)) (blkOk_by (N := N_classes_of) (sc := defScope sd_classes_of) (by decide +kernel)) (fun _ _ _ _ _ => (pg_name (i := 1) sc_classes_of.nd rfl (Or.inl rfl))) (fun _ _ _ _ _ => pts_nil) (fun _ _ _ _ _ => (pe_ix (show IxR _ (rIxT K) from ix_tup) (pv 1) pe_int (fun _ _ => rfl)))) (pss_cons (ps_set (i := 3) sc_classes_of.nd rfl (Or.inl rfl) pe_int) (pss_cons (ps_while PassesOwn.never (pt_cmpR op_gt (pe_callB FcW.cr_lenS rfl (fr_len T) b_len (pa_cons (pe_callTy (FcS.cr_setL rfl) rfl (fr_set T) b_set (pa_cons (pv 2) pa_nil)) pa_nil)) (pv 3) (nomark _)) (pss_cons (ps_set (i := 3) sc_classes_of.nd rfl (Or.inl rfl) (pe_callB FcW.cr_lenS rfl (fr_len T) b_len (pa_cons (pe_callTy (FcS.cr_setL rfl) rfl (fr_set T) b_set (pa_cons (pv 2) pa_nil)) pa_nil))) (pss_cons (ps_par rfl sc_classes_of.nd (i := 4) (j := 5) rfl rfl (by decide) rfl rfl (pa_cons FcW.pe_wnew (pa_cons (pe_lst pa_nil) pa_nil)) (by rfl)) (pss_cons (ps_for PassesOwn.never rfl (pi_enum rfl (fr_enumerate T) (pa_cons (pv 0) pa_nil)) (pg_tup rfl (pgs_cons (pg_name (i := 6) sc_classes_of.nd rfl (Or.inl rfl)) (pgs_cons (pg_name (i := 1) sc_classes_of.nd rfl (Or.inl rfl)) pgs_nil))) (pss_cons (ps_set (i := 7) sc_classes_of.nd rfl (Or.inl rfl) (pe_op op_catT (pe_tup (pa_cons (pe_ix ix_list (pv 2) (pv 6) (fun _ _ => rfl)) pa_nil)) (pe_call G_renumbered (hr.mono (by decide)) rfl (g_renumbered T) kp_renumbered bi_renumbered .nil passF (pa_cons (pv 1) (pa_cons (pv 2) pa_nil))))) (pss_cons (ps_asg (FcW.pe_bmW PySem.F.plainAttrs_dict PySem.F.slot_dict_get PySem.F.type_dict_get (FcW.mt_getW2 (hu_of hr)) (pv 4) (pa_cons (pv 7) (pa_cons (pe_callB FcW.cr_lenW rfl (fr_len T) b_len (pa_cons (pv 4) pa_nil)) pa_nil))) (pg_sub (pv 4) (pv 7) (FcW.set_way (hu_of hr)))) (pss_one (ps_expr (pe_bm PySem.F.plainAttrs_list PySem.F.slot_list_append PySem.F.type_list_append mt_append (pv 5) (pa_cons (pe_ix (FcW.ix_way (hu_of hr)) (pv 4) (pv 7) (fun _ _ => rfl)) pa_nil))))))) (pss_one (ps_set (i := 2) sc_classes_of.nd rfl (Or.inl rfl) (pv 5))))))) (pss_one (ps_ret (pv 2)))))), ?_⟩
    refine ⟨_, rfl, la, rfl, ⟨_, Evl.sq_of hla⟩, fun D nD => ?_⟩
    have tl := rowsAt_len RA
    refine lc_it (walk_list (xs := ts.map V.ref)) (fun i H' => Ex H H' ∧ H' D = some (.lst (intsV ((rs.take i).map (·.1))))) ?_ ?_ ?_ ?_
    · exact ⟨exu (Evl.Ex.refl _) nD, upd_same⟩
    · exact fun i H' _ ⟨e, _⟩ => Evl.sq_of (e _ _ hla)
    · rintro i v Ja Jb hi ⟨e, lD⟩ ⟨rfl, hv⟩
      rw [List.length_map, tl] at hi
      have hri : rs[i]? = some rs[i] := List.getElem?_eq_getElem hi
      obtain ⟨t, ht, rt⟩ := paired_getP RA hri
      rw [List.getElem?_map, ht] at hv
      cases hv
      have tk := take_one hri
      generalize rs[i] = r at hri rt tk
      refine ⟨rfl, _, rfl, t, _, _, _, rfl, rfl, Evl.ex_t e rt, atI_nat (j := 0) rfl, _, lD, szl (by unfold intsV; rw [List.length_map, List.length_map, List.length_take]; omega), exm e nD, ?_⟩
      rw [upd_same, tk, List.map_append]
      unfold intsV
      rw [List.map_append] <;> rfl
    rintro H1 ⟨x1, l1⟩
    rw [List.length_map, tl, List.take_length] at l1
    have nl : ∀ j, ndist (clsN rs j) ≤ rs.length := fun j => by have := dedK_le (clsN rs j); rw [clsN_len] at this; exact this
    have ni : ∀ ms : List Nat, (ms.map fun n : Nat => (n : Int)).map V.int = intsV ms := fun ms => by unfold intsV; rw [List.map_map] <;> rfl
    refine ⟨fun m σ' H' => ∃ (k many : Nat) (p : Addr) (u1 u4 u5 u6 u7 : Option V), σ' = [some (.ref la), u1, some (.ref p), some (.int (many : Int)), u4, u5, u6, u7] ∧ Ex H H' ∧ H p = none ∧ H' p = some (.lst (intsV (clsN rs k))) ∧ m + many = rs.length ∧ ((k = 0 ∧ many = 0) ∨ ∃ j, k = j + 1 ∧ many = ndist (clsN rs j)) ∧ ∀ i, i + 1 < k → ndist (clsN rs i) < ndist (clsN rs (i + 1)),
      ⟨rs.length, 0, 0, D, _, _, _, _, _, rfl, x1, nD, l1, Nat.add_zero _, .inl ⟨rfl, rfl⟩, fun i hi => absurd hi (Nat.not_lt_zero _)⟩, ?_⟩
    rintro m σ' H2 ⟨k, many, p, u1, u4, u5, u6, u7, rfl, xH2, np, l2, mm, hk, hfs⟩
    have ln : (clsN rs k).length = rs.length := clsN_len rs k
    refine ⟨_, rfl, p, (clsN rs k).map fun n : Nat => (n : Int), rfl, Evl.sq_of (by rw [ni]; exact l2), (by rw [List.length_map, ln]; exact (show rs.length + 1 < 4096 by omega)), fun a ks nd hks na => ?_⟩
    have e1 := set_len nd hks
    generalize e3 : upd _ a _ = H3
    obtain ⟨x3, s3, o3⟩ := new_of e3 na
    clear e3
    refine ⟨a, _, _, rfl, s3, ?_⟩
    rw [e1]
    refine ⟨_, rfl, _, _, rfl, rfl, _, rfl, ite_of (fun c => ?_) (fun c => ?_)⟩
    · have c : many < ndist (clsN rs k) := by have := of_decide_eq_true c; omega
      have nk := nl k
      refine ⟨fun σ' H' => ∃ (p : Addr) (u1 u4 u5 u6 u7 : Option V), σ' = [some (.ref la), u1, some (.ref p), some (.int (ndist (clsN rs k) : Int)), u4, u5, u6, u7] ∧ Ex H H' ∧ H p = none ∧ H' p = some (.lst (intsV (clsN rs (k + 1)))), fun σ' H' ⟨p, u1, u4, u5, u6, u7, h1, h2, h3, h4⟩ => ⟨rs.length - ndist (clsN rs k), by omega, k + 1, _, p, u1, u4, u5, u6, u7, h1, h2, h3, h4, by omega, .inr ⟨k, rfl, rfl⟩, fun i hi => by
        by_cases z : i + 1 < k
        · exact hfs i z
        · rcases hk with ⟨rfl, _⟩ | ⟨j, rfl, rfl⟩
          · omega
          · rw [show i = j by omega]; exact c⟩, ?_⟩
      have l3 := x3 _ _ l2
      refine ⟨_, rfl, p, (clsN rs k).map fun n : Nat => (n : Int), rfl, Evl.sq_of (by rw [ni]; exact l3), (by rw [List.length_map, ln]; exact (show rs.length + 1 < 4096 by omega)), fun a4 ks4 nd4 hks4 na4 => ?_⟩
      have e4 := set_len nd4 hks4
      generalize e5 : upd _ a4 _ = H4
      obtain ⟨x4, s4, o4⟩ := new_of e5 na4
      clear e5
      refine ⟨a4, _, _, rfl, s4, ?_⟩
      rw [e4]
      intro p5 ob5 n5
      generalize e5 : upd _ p5 _ = H5
      obtain ⟨x5, s5, o5⟩ := new_of e5 n5
      clear e5
      refine ⟨sz (by simp), ?_⟩
      intro p6 n6
      generalize e6 : upd _ p6 _ = H6
      obtain ⟨x6, s6, o6⟩ := new_of e6 n6
      clear e6
      have x36 := x4.trans (x5.trans x6)
      have l6 := x36 _ _ l3
      have xH6 : Ex H H6 := xH2.trans (x3.trans x36)
      have n5H : H p5 = none := ex_none (xH2.trans (x3.trans x4)) n5
      have n6H : H p6 = none := ex_none (xH2.trans (x3.trans (x4.trans x5))) n6
      have p56 : p5 ≠ p6 := fun z => by rw [← z, s5] at n6; cases n6
      refine ⟨_, _, rfl, _, rfl, la, _, rfl, Evl.sq_of (xH6 _ _ hla), ?_⟩
      have lk : (keysM rs (clsN rs k)).length = rs.length := by unfold keysM; rw [List.length_map, List.length_zip, ln, Nat.min_self]
      obtain ⟨ks, hks⟩ : ∃ ks, ks = keysM rs (clsN rs k) := ⟨_, rfl⟩
      have ek : clsN rs (k + 1) = numK ks := by rw [hks] <;> rfl
      rw [← hks] at lk
      have bnd : ∀ x, x < rs.length → ∀ b : Nat, Sum.inl b ∈ (getR rs x).2 → b < (clsN rs k).length := fun x hx b hb => by rw [ln]; exact ok.ok x hx b hb
      have kat : ∀ x, x < rs.length → ks[x]? = some (keyM (clsN rs k) ((clsN rs k).getD x 0) (getR rs x)) := fun x hx => by
        rw [hks]
        unfold keysM getR
        have h1 : (clsN rs k)[x]? = some ((clsN rs k).getD x 0) := by
          rw [List.getD_eq_getElem?_getD, List.getElem?_eq_getElem (show x < (clsN rs k).length by rw [ln]; exact hx)] <;> rfl
        have h2 : rs[x]? = some (rs.getD x (0, [])) := by
          rw [List.getD_eq_getElem?_getD, List.getElem?_eq_getElem hx] <;> rfl
        have hz : ((clsN rs k).zip rs)[x]? = some ((clsN rs k).getD x 0, rs.getD x (0, [])) := List.getElem?_zip_eq_some.mpr ⟨h1, h2⟩
        rw [List.getElem?_map, hz] <;> rfl
      have np5 : p5 ≠ p := fun z => by rw [z] at n5; rw [x4 _ _ l3] at n5; cases n5
      have np6 : p6 ≠ p := fun z => by rw [z, x5 _ _ (x4 _ _ l3)] at n6; cases n6
      have mi : ∀ x, x < rs.length → (intsV (clsN rs k))[x]? = some (.int ((clsN rs k).getD x 0 : Int)) := fun x hx => getElem?_ints (by rw [ln]; exact hx)
      clear hks
      generalize clsN rs k = ms at *
      refine for_it (walk_enum (xs := ts.map V.ref)) (fun i σ' H' => ∃ (u1 u6 u7 : Option V) (ob : Obj) (XS : List FcW.Ent), σ' = [some (.ref la), u1, some (.ref p), some (.int (ndist ms : Int)), some (.ref p5), some (.ref p6), u6, u7] ∧ Ex H H' ∧ H' p = some (.lst (intsV ms)) ∧ FcW.WD P w K H' p5 ob XS ∧ FcW.kvs XS = kvI (dedK (ks.take i)) ∧ H' p6 = some (.lst (intsV ((ks.take i).map fun q => ixK (dedK (ks.take i)) q)))) ?_ ?_ ?_ ?_
      · exact ⟨_, _, _, ob5, [], rfl, xH6, l6, ⟨x6 _ _ s5, fun x hx => nomatch hx⟩, rfl, s6⟩
      · exact fun i σ' H' _ ⟨_, _, _, _, _, _, e, _⟩ => Evl.sq_of (e _ _ hla)
      · rintro i v σ' Hq Hr hi ⟨w1, w6, w7, ob, XS, rfl, xq, lp, wd, ekv, l9⟩ ⟨tp, y1, y2, rfl, n2, rfl, z1, z2⟩
        cases z1
        rw [List.length_map, tl] at hi
        have hri : rs[i]? = some rs[i] := List.getElem?_eq_getElem hi
        obtain ⟨t, ht, rt⟩ := paired_getT RA hi
        replace z2 : (ts.map V.ref)[i]? = some y2 := z2
        rw [List.getElem?_map, ht] at z2
        cases z2
        generalize e2 : upd Hq tp _ = H7
        obtain ⟨x7, s7, o7⟩ := new_of e2 n2
        clear e2
        refine ⟨tp, _, rfl, SqT.of s7, rfl, _, _, rfl, _, _, rfl, rfl, ?_⟩
        have lp7 := x7 _ _ lp
        have xq7 := xq.trans x7
        refine ⟨_, rfl, _, rfl, p, _, (i : Int), _, rfl, rfl, Evl.sq_of lp7, atI_nat (j := i) (mi i hi), sz (by simp), ?_⟩
        intro p8 n8
        generalize e8 : upd _ p8 _ = H8
        obtain ⟨x8, s8, o8⟩ := new_of e8 n8
        clear e8
        refine ⟨_, rfl, _, rfl, t, p, getR rs i, ms, rfl, Evl.ex_t (xq7.trans x8) rt, x8 _ _ lp7, ok.ne i hi, ok.le i hi, bnd i hi, fun H9 t9 x9 n9 s9 => ?_⟩
        refine ⟨p8, t9, _, _, rfl, rfl, SqT.of (x9 _ _ s8), SqT.of s9, (fun z => by cases z), sz (by have := ok.le i hi; simp [rowV, renR]; omega), ⟨fun z => (by cases z), fun _ => ?_⟩⟩
        intro p10 n10
        generalize e10 : upd _ p10 _ = H10
        obtain ⟨x10, s10, o10⟩ := new_of e10 n10
        clear e10
        have x710 := x8.trans (x9.trans x10)
        have x10' := x7.trans x710
        have hki := kat i hi
        obtain ⟨q, hq⟩ : ∃ q, q = keyM ms (ms.getD i 0) (getR rs i) := ⟨_, rfl⟩
        rw [← hq] at hki
        have s10' : SqT K H10 p10 (q.map kV) := by
          rw [hq]
          refine SqT.of ?_
          rw [s10]
          show _ = some (HO.tup (V.int _ :: (rowK _).map kV))
          rw [kV_row] <;> rfl
        have tk := take_one hki
        have dk : dedK (ks.take (i + 1)) = addK (dedK (ks.take i)) q := by rw [tk, dedK_snoc]
        have ndd := dedK_nd (ks.take i)
        have le1 : (ks.take i).length ≤ 400 := by rw [List.length_take]; omega
        have le2 : (dedK (ks.take i)).length ≤ 400 := Nat.le_trans (dedK_le _) le1
        obtain ⟨pe1, pe2⟩ := kvI_put (dedK (ks.take i)) ndd q
        have xsl : XS.length = (dedK (ks.take i)).length := by
          have := congrArg List.length ekv
          unfold FcW.kvs at this
          rw [List.length_map, List.length_mapIdx] at this
          exact this
        have wd10 : FcW.WD P w K H10 p5 ob XS := ⟨x10' _ _ wd.1, fun x hx => Evl.ex_t x10' (wd.2 x hx)⟩
        refine ⟨_, rfl, ⟨p5, ob, XS, rfl, wd10.1⟩, _, rfl, _, rfl, p5, ob, XS, rfl, wd10, p5, p10, ob, XS, q, _, rfl, rfl, wd10, s10', ?_⟩
        rw [ekv, xsl]
        refine ⟨_, rfl, _, rfl, p5, p10, ob, XS, q, rfl, rfl, wd10, s10', szl (by omega), fun ob' => ?_⟩
        obtain ⟨XS', hXS'⟩ : ∃ XS', XS' = FcW.putW XS q p10 ((valV (kvI (dedK (ks.take i))) q).getD (V.int ((dedK (ks.take i)).length : Int))) := ⟨_, rfl⟩
        rw [← hXS']
        have ekv' : FcW.kvs XS' = kvI (dedK (ks.take (i + 1))) := by
          rw [hXS', FcW.kvs_put, ekv, pe1, dk]
        generalize e11 : upd _ p5 _ = H11
        obtain ⟨s11, o11⟩ := set_of e11
        clear e11
        have k11 : ∀ c ys, SqT K H10 c ys → SqT K H11 c ys := fun c ys h => by
          rcases h with h | h
          · refine .inl ?_
            rcases h with h | ⟨o, h⟩
            · exact .inl (by rw [o11 c (fun z => by rw [z, wd10.1] at h; cases h)]; exact h)
            · exact .inr ⟨o, by rw [o11 c (fun z => by rw [z, wd10.1] at h; cases h)]; exact h⟩
          · exact .inr h
        have wd11 : FcW.WD P w K H11 p5 ob' XS' := ⟨s11, by rw [hXS']; exact FcW.keysT_put wd10.2 s10' k11⟩
        have l11 : H11 p6 = some (.lst (intsV ((ks.take i).map fun q => ixK (dedK (ks.take i)) q))) := (o11 p6 (Ne.symm p56)).trans (x10' _ _ l9)
        have xq11 : Ex H H11 := fun b o e => (o11 b (fun z => by rw [z, n5H] at e; cases e)).trans ((xq.trans x10') _ _ e)
        refine ⟨_, rfl, .inl ⟨rfl, _, Evl.sq_of l11⟩, _, rfl, _, rfl, p5, p10, ob', XS', q, _, rfl, rfl, wd11, k11 _ _ s10', by rw [ekv', dk]; exact pe2, p6, _, _, rfl, rfl, l11, szl (by unfold intsV; rw [List.length_map, List.length_map]; omega), ?_⟩
        generalize e12 : upd _ p6 _ = H12
        obtain ⟨s12, o12⟩ := set_of e12
        clear e12
        refine ⟨_, _, _, ob', XS', rfl, fun b o e => (o12 b (fun z => by rw [z, n6H] at e; cases e)).trans (xq11 _ _ e), (o12 p (Ne.symm np6)).trans ((o11 p (Ne.symm np5)).trans (x10' _ _ lp)), ⟨(o12 p5 p56).trans s11, fun x hx => ?_⟩, ekv', ?_⟩
        · exact row_setL (wd11.2 x hx) l11 o12
        · rw [s12]
          congr 2
          rw [tk, List.map_append]
          unfold intsV
          rw [List.map_append]
          congr 1
          · congr 1
            refine List.map_congr_left fun y hy => ?_
            exact (num_pre (dedK_mem.mpr hy)).symm
          · show [V.int _] = [V.int _]
            rw [← tk, dk]
      rintro σ' H13 ⟨u1, u6, u7, ob, XS, rfl, xq, lp, wd, ekv, l9⟩
      rw [List.length_map, tl, List.take_of_length_le (by omega)] at l9
      refine ⟨_, rfl, p6, _, _, _, _, _, rfl, xq, n6H, ?_⟩
      rw [l9, ek]
      rfl
    have c : ndist (clsN rs k) ≤ many := by have := of_decide_eq_false c; omega
    have pos : 1 ≤ ndist (clsN rs k) := by
      unfold ndist
      cases e : clsN rs k with
      | nil => rw [e] at ln; simp at ln; omega
      | cons x l =>
        have : x ∈ dedK (x :: l) := dedK_mem.mpr List.mem_cons_self
        exact List.length_pos_of_mem this
    rcases hk with ⟨_, rfl⟩ | ⟨j, rfl, rfl⟩
    · omega
    exact ⟨_, rfl, q H3 p j (xH2.trans x3) np (x3 _ _ l2) ⟨c, fun i hi => hfs i (by omega)⟩⟩
end
end Fc
set_option maxRecDepth 100000
set_option maxHeartbeats 4000000
namespace Fc
open PySem PySem.Spec PyProof.Rows L2 FcR
open Evl (Ex)
def endsL : List Str := ["end", "return", "raise"]
def askL : List Str := ["call", "if", "while"]
def kdR (rows : List Row) (n : Nat) : Str := kindD ((rows.getD n ⟨.none, none, []⟩).d)
structure TV (rows : List Row) (n : Nat) (r : TRow) : Prop where
  pl : plB rows r.1 = true
  ln : r.2.length = 1 + (if kdR rows r.1 ∈ askL then 1 else 0)
  it : ∀ y ∈ r.2, (∃ b : Nat, y = .inl b ∧ b < n) ∨ ∃ s, y = .inr s ∧ s ∈ endsL
def ItOk (n : Nat) (y : Itm) : Prop := (∃ b : Nat, y = .inl b ∧ b < n) ∨ ∃ s, y = .inr s ∧ s ∈ endsL
def sp_item (K : PySem.W.Frag) : Sp := fun vs H Q _ => ∃ (y : Itm) (n : Nat), vs = [itV y, .int (n : Int)] ∧ ItOk n y ∧ ∀ H', Ex H H' → Q (.bl true) H'
/-- the kinds of the places -/
def kindKV (rows : List Row) : List (Key × V) := (plN rows).map fun (p : Nat) => (.inl (p : Int), .str (kdR rows p))
theorem kindKV_val (rows : List Row) : ∀ (l : List Nat) (n : Nat), n ∈ l → valV (l.map fun (p : Nat) => ((.inl (p : Int), .str (kdR rows p)) : Key × V)) (.inl (n : Int)) = some (.str (kdR rows n))
  | p :: l, n, h => by
    by_cases e : p = n
    · rw [List.map_cons, e, valV_pos rfl]
    · rw [List.map_cons, valV_neg (fun z : (Sum.inl (p : Int) : Key) = .inl (n : Int) => e (by cases z; omega))]
      exact kindKV_val rows l n ((List.mem_cons.mp h).resolve_left (Ne.symm e))
theorem merge_ndT : ∀ (kvs acc : List (Key × V)), (kvs.map (·.1)).Nodup → (∀ kv ∈ kvs, valV acc kv.1 = none) → mergeK acc kvs = acc ++ kvs
  | [], acc, _, _ => by simp [mergeK]
  | kv :: kvs, acc, nd, h => by
    rw [List.map_cons, List.nodup_cons] at nd
    have e1 : putK acc kv.1 kv.2 = acc ++ [kv] := by
      unfold putK
      rw [if_neg]
      rw [valV_any, h kv List.mem_cons_self]; decide
    show mergeK (putK acc kv.1 kv.2) kvs = _
    rw [e1, merge_ndT kvs (acc ++ [kv]) nd.2 fun x hx => ?_, List.append_assoc]
    · rfl
    · rw [← e1, valV_put, if_neg]
      · exact h x (List.mem_cons_of_mem _ hx)
      · exact fun z => nd.1 (List.mem_map.mpr ⟨x, hx, z⟩)
theorem kindKV_merge (rows : List Row) : mergeK [] (kindKV rows) = kindKV rows := by
  have nd : ((kindKV rows).map (·.1)).Nodup := by
    unfold kindKV
    rw [List.map_map]
    have h := plN_asc rows
    refine List.Pairwise.map _ (fun a b (hab : a < b) => ?_) h
    intro z
    have z : (Sum.inl (a : Int) : Key) = .inl (b : Int) := z
    cases z
    omega
  rw [merge_ndT _ _ nd fun kv _ => rfl, List.nil_append]
def PrAt (K : PySem.W.Frag) (H : Hp) (p : Addr) (kv : Key × V) : Prop := SqT K H p [kV kv.1, kv.2]
theorem pr_snoc {K : PySem.W.Frag} {H : Hp} {t : Addr} {r : Key × V} : ∀ {ts : List Addr} {rs : List (Key × V)}, Paired (PrAt K H) ts rs → PrAt K H t r → Paired (PrAt K H) (ts ++ [t]) (rs ++ [r])
  | _, _, .nil, h => .cons h .nil
  | _, _, .cons r t, h => .cons r (pr_snoc t h)
theorem pr_len {K : PySem.W.Frag} {H : Hp} : ∀ {ts : List Addr} {rs : List (Key × V)}, Paired (PrAt K H) ts rs → ts.length = rs.length
  | _, _, .nil => rfl
  | _, _, .cons _ t => congrArg (· + 1) (pr_len t)
def sp_isrow (K : PySem.W.Frag) : Sp := fun vs H Q _ => ∃ (t ka : Addr) (rows : List Row) (n : Nat) (r : TRow), vs = [.ref t, .ref ka, .int (n : Int)] ∧ RowAt K H t r ∧ H ka = some (.dK (kindKV rows)) ∧ TV rows n r ∧ ∀ H', Ex H H' → Q (.bl true) H'
def sp_ckr (K : PySem.W.Frag) : Sp := fun vs H Q _ => ∃ (F : Hp) (A : CAd) (rows : List Row) (la : Addr) (ts : List Addr) (rs : List TRow), vs = [.ref A.p, .ref la] ∧ CodeH K F F A rows ∧ Ex F H ∧ rows.length ≤ 400 ∧ H la = some (.lst (ts.map V.ref)) ∧ RowsAt K H ts rs ∧ 1 ≤ rs.length ∧ rs.length ≤ 200 ∧ (∀ r ∈ rs, TV rows rs.length r) ∧ ∀ H', Ex H H' → Q .non H'
section
variable {P : Program} {w : World} {h : Heap} {K : PySem.W.Frag} {mg : Str → Option Value} {base : Heap}
abbrev N_is_item : List Str := ["value", "many"]
theorem sc_is_item : FnScope N_is_item ["value", "many"] (defScope sd_is_item) := ⟨rfl, rfl, rfl, by decide +kernel, rfl, by decide +kernel, by decide +kernel⟩
theorem ok_is_item (T : Tx w h K mg) : Ok P w K mg base 4 ("is_item", none) ["value", "many"] (sp_item K) := by
  obtain ⟨fd, F⟩ := F_is_item T
  refine ⟨fd, ?_, F.bindsN (fun _ _ _ _ _ _ us hl => match us, hl with | [_, _], _ => rfl), F.kp⟩
  obtain ⟨fd_is_between, G_is_between, bi_is_between, kp_is_between⟩ := ok_is_between (P := P) (base := base) T
  refine F.ok sc_is_item (fun vs H Q E h => ?_) (fun cdv A outer s H vs Q E hr h => ?_)
  · obtain ⟨y, n, rfl, hy, q⟩ := h
    rfl
  · obtain ⟨y, n, rfl, hy, q⟩ := h
    refine ⟨_, PSs.nox (pss_cons (ps_if (pt_val (pe_callB call_isi rfl (fr_isinstance T) b_isinstance (pa_cons (pv 0) (pa_cons (pe_bltn (v := .ty "str") rfl (fr_str T) b_str rfl) pa_nil)))) (pss_one (ps_ret (pe_cmpR op_in_seq (pv 0) (pe_glob (v := .ref (He.ga K "ENDS")) rfl (g_ENDS T) rfl) (by rfl)))) pss_nil) (pss_one (ps_ret (pe_call G_is_between (hr.mono (by decide)) rfl (g_is_between T) kp_is_between bi_is_between .nil passF (pa_cons (pv 0) (pa_cons pe_int (pa_cons (pe_op op_sub (pv 1) pe_int) pa_nil))))))), ?_⟩
    have ty : ∀ {J : Hp}, TyX K J (itV y) (.type (tyD (itD y))) := dp_ty (dp_it y)
    refine ⟨_, rfl, itV y, .ty "str", _, _, _, rfl, .ty _, ty, k_str _, ?_⟩
    rcases hy with ⟨b, rfl, hb⟩ | ⟨s, rfl, hs⟩
    · exact ⟨_, rfl, _, rfl, _, rfl, _, _, rfl, rfl, .int (b : Int), 0, _, rfl, .inl ⟨_, rfl, by rw [show (decide ((0 : Int) ≤ (b : Int)) && decide ((b : Int) ≤ (n : Int) - 1)) = true from by simp; omega]; exact q H (Evl.Ex.refl _)⟩⟩
    · refine ⟨_, rfl, _, rfl, He.ga K "ENDS", _, rfl, .inr (t_ENDS T _), rfl, flat_strs endsL, ?_⟩
      have e : inV (itV (.inr s)) [.str "end", .str "return", .str "raise"] = true := (inV_strs _ endsL).trans (decide_eq_true hs)
      rw [e]
      exact q H (Evl.Ex.refl _)
abbrev N_is_row : List Str := ["row", "kinds", "many", "item"]
theorem sc_is_row : FnScope N_is_row ["row", "kinds", "many"] (defScope sd_is_row) := ⟨rfl, rfl, rfl, by decide +kernel, rfl, by decide +kernel, by decide +kernel⟩
theorem ok_is_row (T : Tx w h K mg) : Ok P w K mg base 5 ("is_row", none) ["row", "kinds", "many"] (sp_isrow K) := by
  obtain ⟨fd, F⟩ := F_is_row T
  refine ⟨fd, ?_, F.bindsN (fun _ _ _ _ _ _ us hl => match us, hl with | [_, _, _], _ => rfl), F.kp⟩
  obtain ⟨fd_is_integer, G_is_integer, bi_is_integer, kp_is_integer⟩ := ok_is_integer (P := P) (base := base) T
  obtain ⟨fd_is_item, G_is_item, bi_is_item, kp_is_item⟩ := ok_is_item (P := P) (base := base) T
  refine F.ok sc_is_row (fun vs H Q E h => ?_) (fun cdv A outer s H vs Q E hr h => ?_)
  · obtain ⟨t, ka, rows, n, r, rfl, hw, hk, tv, q⟩ := h
    rfl
  · obtain ⟨t, ka, rows, n, r, rfl, hw, hk, tv, q⟩ := h
    refine ⟨_, PSs.nox (pss_cons (ps_if (PW.pt (pw_or (pt_not (pt_val (pe_callB call_isi rfl (fr_isinstance T) b_isinstance (pa_cons (pv 0) (pa_cons (pe_bltn (v := .ty "tuple") rfl (fr_tuple T) b_tuple rfl) pa_nil))))) (pw_or (pt_cmpR (FcW.op_eqNil hr) (pv 0) (pe_tup pa_nil) (nomark _)) (pw_or (pt_not (pt_val (pe_call G_is_integer (hr.mono (by decide)) rfl (g_is_integer T) kp_is_integer bi_is_integer .nil passF (pa_cons (pe_ix ix_tup (pv 0) pe_int (fun _ _ => rfl)) pa_nil)))) (pw_or1 (pt_cmp (pc_dnotin (hu_of hr) (pe_ix ix_tup (pv 0) pe_int (fun _ _ => rfl)) (pv 1)))))))) (pss_one (ps_ret pe_bl)) pss_nil) (pss_cons (ps_if (pt_cmpR op_ne (pe_callB call_len_seq rfl (fr_len T) b_len (pa_cons (pv 0) pa_nil)) (pe_op op_add pe_int (pe_callTy call_int1 rfl (fr_int T) b_int (pa_cons (pe_cmpR op_in_seq (pe_dget (hu_of hr) (pv 1) (pe_ix ix_tup (pv 0) pe_int (fun _ _ => rfl)) (fun _ _ => rfl)) (pe_glob (v := .ref (He.ga K "ASKING")) rfl (g_ASKING T) rfl) (by rfl)) pa_nil))) (nomark _)) (pss_one (ps_ret pe_bl)) pss_nil) (pss_one (ps_ret (pe_callB (cr_all rfl) rfl (fr_all T) b_all (pa_cons (pe_lc (own := [("item", 3)]) rfl sc_is_row.nd (pi_tup (pe_slice sl_tup (pv 0) (po_some pe_int) po_none)) (blkOk_by (N := N_is_row) (sc := defScope sd_is_row) (by decide +kernel)) (fun _ _ _ _ _ => (pg_name (i := 3) sc_is_row.nd rfl (Or.inl rfl))) (fun _ _ _ _ _ => pts_nil) (fun _ _ _ _ _ => (pe_call G_is_item (hr.mono (by decide)) rfl (g_is_item T) kp_is_item bi_is_item .nil passF (pa_cons (pv 3) (pa_cons (pv 2) pa_nil))))) pa_nil)))))), ?_⟩
    have r0 : r.2 ≠ [] := fun z => by have := tv.ln; rw [z] at this; simp at this; omega
    have pm : r.1 ∈ plN rows := List.mem_filter.mpr ⟨List.mem_range.mpr (by
      have := tv.pl
      unfold plB at this
      cases e : rows[r.1]? with
      | none => rw [e] at this; cases this
      | some x => exact (List.getElem?_eq_some_iff.mp e).1), tv.pl⟩
    refine ⟨_, rfl, .ref t, .ty "tuple", _, _, _, rfl, .ty _, ty_tup hw, k_tuple (.tuple []), _, rfl, ?_⟩
    refine ⟨_, rfl, sz (by simp), ?_⟩
    intro p1 n1
    generalize e1 : upd _ p1 _ = H1
    obtain ⟨x1, s1, o1⟩ := new_of e1 n1
    clear e1
    have hw1 := Evl.ex_t x1 hw
    have hk1 := x1 _ _ hk
    refine ⟨t, p1, _, rfl, rfl, hw1, SqT.of s1, _, rfl, ?_⟩
    refine ⟨_, rfl, t, _, _, _, rfl, rfl, hw1, atI_nat (j := 0) rfl, .int (r.1 : Int), .type "int", true, false, rfl, .base (.int _), k_ii, k_ib, _, rfl, ?_⟩
    refine ⟨_, rfl, t, _, _, _, rfl, rfl, hw1, atI_nat (j := 0) rfl, _, rfl, ka, _, rfl, DGet.k (k := .inl (r.1 : Int)) hk1, _, rfl, ?_⟩
    rw [show valV (kindKV rows) (Sum.inl (r.1 : Int)) = some (.str (kdR rows r.1)) from kindKV_val rows _ _ pm]
    refine itF rfl ?_
    refine ⟨_, rfl, t, _, rfl, .inr hw1, _, rfl, _, rfl, t, _, _, _, rfl, rfl, hw1, atI_nat (j := 0) rfl, ka, _, rfl, .inl ⟨_, .inl (r.1 : Int), .inl hk1, rfl, (kindKV_val rows _ _ pm).symm⟩, He.ga K "ASKING", _, rfl, .inr (t_ASKING T _), rfl, flat_strs askL, ?_⟩
    refine .inr ⟨_, rfl, _, _, rfl, rfl, ?_⟩
    have ea : inV (.str (kdR rows r.1)) [.str "call", .str "if", .str "while"] = decide (kdR rows r.1 ∈ askL) := inV_strs _ askL
    have el : (rowV r).length = 1 + r.2.length := by simp [rowV]; omega
    rw [ea, el, tv.ln]
    refine ⟨rfl, _, rfl, itF ?_ ?_⟩
    · by_cases c : kdR rows r.1 ∈ askL
      · rw [if_pos c, decide_eq_true c] <;> rfl
      · rw [if_neg c, decide_eq_false c] <;> rfl
    refine ⟨_, rfl, 1, rfl, ?_⟩
    unfold tNoPart
    refine ⟨t, _, rfl, hw1, row_n2, ?_⟩
    intro p2 n2
    generalize e2 : upd _ p2 _ = H2
    obtain ⟨x2, s2, o2⟩ := new_of e2 n2
    clear e2
    rw [row_c2] at s2
    refine ⟨p2, rfl, ⟨_, SqT.of s2⟩, fun D nD => ?_⟩
    refine lc_it (walk_tup (xs := r.2.map itV)) (fun i H' => Ex H2 H' ∧ H' D = some (.lst ((List.replicate i true).map V.bl))) ?_ ?_ ?_ ?_
    · exact ⟨exu (Evl.Ex.refl _) nD, upd_same⟩
    · exact fun i H' _ ⟨e, _⟩ => Evl.ex_t e (SqT.of s2)
    · rintro i x Ja Jb hi ⟨e, l⟩ ⟨rfl, hx⟩
      rw [List.length_map] at hi
      have li : i < r.2.length := hi
      have i2 : r.2.length ≤ 2 := by rw [tv.ln]; split <;> decide
      have hyi : r.2[i]? = some r.2[i] := List.getElem?_eq_getElem li
      rw [List.getElem?_map, hyi] at hx
      cases hx
      generalize r.2[i] = y at hyi
      refine ⟨rfl, _, rfl, _, rfl, y, n, rfl, tv.it y (List.mem_of_getElem? hyi), fun H3 x3 => ?_⟩
      refine ⟨_, x3 _ _ l, szl (by simp; omega), exm (e.trans x3) nD, ?_⟩
      rw [upd_same, List.replicate_succ', List.map_append] <;> rfl
    rintro H3 ⟨e, l⟩
    refine ⟨D, _, rfl, Evl.sq_of l, ?_⟩
    rw [show (List.replicate (r.2.map itV).length true).all id = true from by simp]
    exact q H3 (x1.trans (x2.trans e))
abbrev N_check_rows : List Str := ["code", "rows", "kinds", "at", "row", "place"]
theorem sc_check_rows : FnScope N_check_rows ["code", "rows"] (defScope sd_check_rows) := ⟨rfl, rfl, rfl, by decide +kernel, rfl, by decide +kernel, by decide +kernel⟩
theorem ok_check_rows (T : Tx w h K mg) : Ok P w K mg base 8 ("check_rows", none) ["code", "rows"] (sp_ckr K) := by
  obtain ⟨fd, F⟩ := F_check_rows T
  refine ⟨fd, ?_, F.bindsN (fun _ _ _ _ _ _ us hl => match us, hl with | [_, _], _ => rfl), F.kp⟩
  obtain ⟨fd_is_row, G_is_row, bi_is_row, kp_is_row⟩ := ok_is_row (P := P) (base := base) T
  obtain ⟨fd_InvalidTable___init__, G_InvalidTable___init__, bi_InvalidTable___init__, kp_InvalidTable___init__, FD_InvalidTable___init__⟩ := okF_InvalidTable___init__ (P := P) (base := base) T
  obtain ⟨fd_Code_places, G_Code_places, bi_Code_places, kp_Code_places⟩ := ok_Code_places (P := P) (base := base) T
  obtain ⟨tm_MOST_ROWS, m_MOST_ROWS⟩ := i_MOST_ROWS T
  refine F.ok sc_check_rows (fun vs H Q E h => ?_) (fun cdv A outer s H vs Q E hr h => ?_)
  · obtain ⟨F, A, rows, la, ts, rs, rfl, C, xF, hl, hla, RA, n1, n2, tv, q⟩ := h
    rfl
  · obtain ⟨F, A, rows, la, ts, rs, rfl, C, xF, hl, hla, RA, n1, n2, tv, q⟩ := h
    refine ⟨_, (pss_cons (ps_if (PW.pt (pw_or (pt_not (pt_val (pe_callB call_isi rfl (fr_isinstance T) b_isinstance (pa_cons (pv 1) (pa_cons (pe_bltn (v := .ty "list") rfl (fr_list T) b_list rfl) pa_nil))))) (pw_or1 (pt_not (pt_chain op_le op_le pe_int (pe_callB call_len_seq rfl (fr_len T) b_len (pa_cons (pv 1) pa_nil)) (pe_glob (v := .int 200) rfl m_MOST_ROWS ⟨_, rfl⟩)))))) (pss_one (ps_raise rfl (takes_of rfl rfl rfl rfl) (FcX.pmk_X (x_InvalidTable T) (xi_InvalidTable T) G_InvalidTable___init__ (hr.mono (by decide)) bi_InvalidTable___init__ passF rfl (g_InvalidTable T) (pe_un un_neg pe_int)))) pss_nil) (pss_cons (ps_set (i := 2) sc_check_rows.nd rfl (Or.inl rfl) (pe_callTy (call_dictP rfl) rfl (fr_dict T) b_dict (pa_cons (pe_lc (own := [("place", 5)]) rfl sc_check_rows.nd (pi_list (pe_meth0 (pv 0) (c_Code T) (me_Code_places T) G_Code_places (hr.mono (by decide)) bi_Code_places .nil (passes_call (takes_of rfl rfl rfl rfl) (fun _ _ _ _ h => h)))) (blkOk_by (N := N_check_rows) (sc := defScope sd_check_rows) (by decide +kernel)) (fun _ _ _ _ _ => (pg_name (i := 5) sc_check_rows.nd rfl (Or.inl rfl))) (fun _ _ _ _ _ => pts_nil) (fun _ _ _ _ _ => (pe_tup (pa_cons (pv 5) (pa_cons (pe_ix (show IxR _ (rIxL K) from ix_list) (show PE _ _ (tFld K _ "kinds") from pe_fld (pv 0) rfl) (pv 5) (fun _ _ => rfl)) pa_nil))))) pa_nil))) (pss_one (ps_for (passes_of rfl) rfl (pi_enum rfl (fr_enumerate T) (pa_cons (pv 1) pa_nil)) (pg_tup rfl (pgs_cons (pg_name (i := 3) sc_check_rows.nd rfl (Or.inl rfl)) (pgs_cons (pg_name (i := 4) sc_check_rows.nd rfl (Or.inl rfl)) pgs_nil))) (pss_one (ps_if (pt_not (pt_val (pe_call G_is_row (hr.mono (by decide)) rfl (g_is_row T) kp_is_row bi_is_row .nil (passes_call (takes_of rfl rfl rfl rfl) (fun _ _ _ _ h => h)) (pa_cons (pv 4) (pa_cons (pv 2) (pa_cons (pe_callB call_len_seq rfl (fr_len T) b_len (pa_cons (pv 1) pa_nil)) pa_nil)))))) (pss_one (ps_raise rfl (takes_of rfl rfl rfl rfl) (FcX.pmk_X (x_InvalidTable T) (xi_InvalidTable T) G_InvalidTable___init__ (hr.mono (by decide)) bi_InvalidTable___init__ passF rfl (g_InvalidTable T) (pv 3)))) pss_nil)))))), ?_⟩
    have tl := rowsAt_len RA
    obtain ⟨vs0, C0, _⟩ := C.ex (Evl.Ex.refl _) xF
    refine ⟨_, rfl, .ref la, .ty "list", _, _, _, rfl, .ty _, ty_lst (Evl.sq_of hla), k_list (.list []), _, rfl, ?_⟩
    refine ⟨_, rfl, la, _, rfl, .inl (Evl.sq_of hla), ?_⟩
    rw [List.length_map, tl]
    refine ⟨_, _, rfl, rfl, _, rfl, ?_⟩
    rw [show decide ((1 : Int) ≤ (rs.length : Int)) = true from decide_eq_true (by omega)]
    refine ⟨_, _, rfl, rfl, _, rfl, ?_⟩
    rw [show decide ((rs.length : Int) ≤ (200 : Int)) = true from decide_eq_true (by omega)]
    refine itF rfl ?_
    refine ⟨_, rfl, A.p, _, _, rfl, C0.ob, fm_Code_places _ _ _ _ _, F, A, rows, rfl, C, xF, hl, fun H1 a1 x1 na1 s1 => ⟨a1, rfl, ⟨_, Evl.sq_of s1⟩, fun D nD => ?_⟩⟩
    have pll : (plN rows).length ≤ 400 := by have := pl_len rows rows.length; unfold plN; omega
    refine lc_it (walk_list (xs := intsV (plN rows))) (fun i H' => Ex H1 H' ∧ ∃ ps, H' D = some (.lst (ps.map V.ref)) ∧ Paired (PrAt K H') ps ((plN rows).take i |>.map fun (p : Nat) => ((.inl (p : Int), .str (kdR rows p)) : Key × V))) ?_ ?_ ?_ ?_
    · exact ⟨exu (Evl.Ex.refl _) nD, [], upd_same, .nil⟩
    · exact fun i H' _ ⟨e, _⟩ => Evl.sq_of (e _ _ s1)
    · rintro i v Ja Jb hi ⟨e, ps, lD, pp⟩ ⟨rfl, hv⟩
      rw [show (intsV (plN rows)).length = (plN rows).length from List.length_map ..] at hi
      have hni : (plN rows)[i]? = some (plN rows)[i] := List.getElem?_eq_getElem hi
      have hv : ((plN rows).map fun n : Nat => V.int (n : Int))[i]? = some v := hv
      rw [List.getElem?_map, hni] at hv
      cases hv
      have tk := take_one hni
      have pn : (plN rows)[i] < rows.length := List.mem_range.mp (List.mem_filter.mp (List.mem_of_getElem? hni)).1
      generalize (plN rows)[i] = n at hni tk pn
      obtain ⟨vs2, C2, _⟩ := C.ex (Evl.Ex.refl _) (xF.trans (x1.trans e))
      obtain ⟨r, hr⟩ := row_at pn
      have ek : kdR rows n = kindD r.d := by unfold kdR; rw [List.getD_eq_getElem?_getD, hr] <;> rfl
      refine ⟨rfl, _, rfl, _, rfl, A.p, _, _, _, _, rfl, C2.ob, c_Code T, na_Code_kinds T, fl_Code_kinds _ _ _ _ _, _, rfl, A.a2, _, _, .str (kindD r.d), rfl, rfl, Evl.sq_of C2.h2, atI_nat (by rw [List.getElem?_map, hr] <;> rfl), sz (by simp), ?_⟩
      intro p3 n3
      generalize e3 : upd _ p3 _ = H3
      obtain ⟨x3, s3, o3⟩ := new_of e3 n3
      clear e3
      have lD3 := x3 _ _ lD
      have pl2 := pr_len pp
      rw [List.length_map, List.length_take] at pl2
      refine ⟨_, lD3, szl (by rw [List.length_map]; omega), exm (e.trans x3) nD, ps ++ [p3], by rw [upd_same, List.map_append] <;> rfl, ?_⟩
      rw [tk, List.map_append]
      refine pr_snoc (L2.Paired.mapP pp fun _ _ r => row_set (Evl.ex_t x3 r) lD3) ?_
      show SqT K _ p3 [V.int (n : Int), .str (kdR rows n)]
      rw [ek]
      exact row_set (SqT.of s3) lD3
    rintro H4 ⟨x4, ps, lD, pp⟩
    rw [show (intsV (plN rows)).length = (plN rows).length from List.length_map .., List.take_length] at pp
    refine ⟨D, ps, _, rfl, Evl.sq_of lD, pp, ?_⟩
    intro p5 n5
    generalize e5 : upd _ p5 _ = H5
    obtain ⟨x5, s5, o5⟩ := new_of e5 n5
    clear e5
    rw [show mergeK [] ((plN rows).map fun (p : Nat) => ((.inl (p : Int), .str (kdR rows p)) : Key × V)) = kindKV rows from kindKV_merge rows] at s5
    have x05 : Ex H H5 := x1.trans (x4.trans x5)
    refine ⟨_, rfl, la, _, rfl, Evl.sq_of (x05 _ _ hla), ?_⟩
    refine for_it (walk_enum (xs := ts.map V.ref)) (fun i σ' H' => Ex H5 H' ∧ ∃ u3 u4, σ' = [some (.ref A.p), some (.ref la), some (.ref p5), u3, u4, none]) ?_ ?_ ?_ ?_
    · exact ⟨Evl.Ex.refl _, _, _, rfl⟩
    · exact fun i σ' H' _ ⟨e, _⟩ => Evl.sq_of (e _ _ (x05 _ _ hla))
    · rintro i v σ' Hq Hr hi ⟨e, u3, u4, rfl⟩ ⟨tp, y1, y2, rfl, n2', rfl, z1, z2⟩
      cases z1
      rw [List.length_map, tl] at hi
      obtain ⟨t, ht, rt⟩ := paired_getP RA (List.getElem?_eq_getElem hi)
      replace z2 : (ts.map V.ref)[i]? = some y2 := z2
      rw [List.getElem?_map, ht] at z2
      cases z2
      generalize e2 : upd Hq tp _ = H7
      obtain ⟨x7, s7, o7⟩ := new_of e2 n2'
      clear e2
      have x57 := e.trans x7
      refine ⟨tp, _, rfl, SqT.of s7, rfl, _, _, rfl, _, _, rfl, rfl, ?_⟩
      refine ⟨_, rfl, _, rfl, _, rfl, la, _, rfl, .inl (Evl.sq_of (x57 _ _ (x05 _ _ hla))), ?_⟩
      rw [List.length_map, tl]
      refine ⟨t, p5, rows, rs.length, rs[i], rfl, Evl.ex_t (x05.trans x57) rt, x57 _ _ s5, tv _ (List.getElem_mem hi), fun H8 x8 => ?_⟩
      exact ⟨_, rfl, itF rfl ⟨x57.trans x8, _, _, rfl⟩⟩
    rintro σ' H9 ⟨e, u3, u4, rfl⟩
    exact q H9 (x05.trans e)
end
end Fc
set_option maxRecDepth 100000
set_option maxHeartbeats 4000000
namespace Fc
open PySem PySem.Spec PyProof.Rows L2 FcR
open Evl (Ex)
def ItR (R : Nat → Nat → Prop) : Itm → Itm → Prop
  | .inl a, .inl b => R a b
  | .inr s, .inr t => s = t
  | _, _ => False
structure Bis (n1 n2 : Nat) (g1 g2 : Nat → TRow) (R : Nat → Nat → Prop) : Prop where
  lt : ∀ a b, R a b → a < n1 ∧ b < n2
  pl : ∀ a b, R a b → (g1 a).1 = (g2 b).1
  it : ∀ a b, R a b → Paired (ItR R) (g1 a).2 (g2 b).2
def Alike (n1 n2 : Nat) (g1 g2 : Nat → TRow) (a b : Nat) : Prop := ∃ R, Bis n1 n2 g1 g2 R ∧ R a b
theorem paired_mono {α β : Type} {R S : α → β → Prop} (h : ∀ a b, R a b → S a b) : ∀ {xs : List α} {ys : List β}, Paired R xs ys → Paired S xs ys
  | _, _, .nil => .nil
  | _, _, .cons r t => .cons (h _ _ r) (paired_mono h t)
theorem paired_comp {α β γ : Type} {R : α → β → Prop} {S : β → γ → Prop} {T : α → γ → Prop} (h : ∀ a b c, R a b → S b c → T a c) : ∀ {xs : List α} {ys : List β} {zs : List γ}, Paired R xs ys → Paired S ys zs → Paired T xs zs
  | _, _, _, .nil, .nil => .nil
  | _, _, _, .cons r t, .cons s u => .cons (h _ _ _ r s) (paired_comp h t u)
theorem paired_flip {α β : Type} {R : α → β → Prop} : ∀ {xs : List α} {ys : List β}, Paired R xs ys → Paired (fun b a => R a b) ys xs
  | _, _, .nil => .nil
  | _, _, .cons r t => .cons r (paired_flip t)
theorem paired_mapR {α β : Type} {R : α → β → Prop} {f : α → β} : ∀ {xs : List α}, (∀ x ∈ xs, R x (f x)) → Paired R xs (xs.map f)
  | [], _ => .nil
  | x :: xs, h => .cons (h x List.mem_cons_self) (paired_mapR fun y hy => h y (List.mem_cons_of_mem _ hy))
theorem paired_lenT {α β : Type} {R : α → β → Prop} : ∀ {xs : List α} {ys : List β}, Paired R xs ys → xs.length = ys.length
  | _, _, .nil => rfl
  | _, _, .cons _ t => congrArg (· + 1) (paired_lenT t)
theorem itR_comp {R S T : Nat → Nat → Prop} (h : ∀ a b c, R a b → S b c → T a c) : ∀ a b c : Itm, ItR R a b → ItR S b c → ItR T a c
  | .inl _, .inl _, .inl _, r, s => h _ _ _ r s
  | .inr _, .inr _, .inr _, r, s => Eq.trans r s
  | .inl _, .inr _, _, r, _ => r.elim
  | .inr _, .inl _, _, r, _ => r.elim
  | .inl _, .inl _, .inr _, _, s => s.elim
  | .inr _, .inr _, .inl _, _, s => s.elim
theorem Bis.comp {n1 n2 n3 : Nat} {g1 g2 g3 : Nat → TRow} {R S : Nat → Nat → Prop} (a : Bis n1 n2 g1 g2 R) (b : Bis n2 n3 g2 g3 S) : Bis n1 n3 g1 g3 (fun x z => ∃ y, R x y ∧ S y z) :=
  ⟨fun x z ⟨y, r, s⟩ => ⟨(a.lt _ _ r).1, (b.lt _ _ s).2⟩, fun x z ⟨y, r, s⟩ => (a.pl _ _ r).trans (b.pl _ _ s), fun x z ⟨y, r, s⟩ => paired_comp (itR_comp fun a b c r s => ⟨b, r, s⟩) (a.it _ _ r) (b.it _ _ s)⟩
theorem itR_flip {R : Nat → Nat → Prop} : ∀ a b : Itm, ItR R a b → ItR (fun b a => R a b) b a
  | .inl _, .inl _, r => r
  | .inr _, .inr _, r => Eq.symm r
  | .inl _, .inr _, r => r.elim
  | .inr _, .inl _, r => r.elim
theorem Bis.flip {n1 n2 : Nat} {g1 g2 : Nat → TRow} {R : Nat → Nat → Prop} (a : Bis n1 n2 g1 g2 R) : Bis n2 n1 g2 g1 (fun y x => R x y) :=
  ⟨fun y x r => ⟨(a.lt _ _ r).2, (a.lt _ _ r).1⟩, fun y x r => (a.pl _ _ r).symm, fun y x r => paired_mono (fun b a r => itR_flip a b r) (paired_flip (a.it _ _ r))⟩
section
variable {κ : Type} [DecidableEq κ]
theorem ix_at : ∀ {L : List κ} {x : κ}, x ∈ L → L[ixK L x]? = some x
  | y :: L, x, h => by
    unfold ixK
    by_cases e : y = x
    · subst e
      rw [List.idxOf_cons_self] <;> rfl
    · have h := (List.mem_cons.mp h).resolve_left (Ne.symm e)
      have i := ix_at (L := L) h
      rw [List.idxOf_cons, beq_eq_false_iff_ne.mpr e, cond_false]
      exact i
theorem ix_inj {L : List κ} {x y : κ} (hx : x ∈ L) (hy : y ∈ L) (e : ixK L x = ixK L y) : x = y := by
  have a := ix_at hx
  have b := ix_at hy
  rw [e, b] at a
  exact (Option.some.inj a).symm
theorem ix_lt {L : List κ} {x : κ} (hx : x ∈ L) : ixK L x < L.length := (List.getElem?_eq_some_iff.mp (ix_at hx)).1
theorem ded_self : ∀ {ks : List κ}, ks.Nodup → dedK ks = ks := by
  have key : ∀ (ks L : List κ), (L ++ ks).Nodup → ks.foldl addK L = L ++ ks := by
    intro ks
    induction ks with
    | nil => intro L _; simp
    | cons k ks ih =>
      intro L h
      have nk : ¬ k ∈ L := fun z => (List.nodup_append.mp h).2.2 k z k List.mem_cons_self rfl
      rw [List.foldl_cons, show addK L k = L ++ [k] from if_neg nk, ih (L ++ [k]) (by rw [List.append_assoc]; exact h), List.append_assoc] <;> rfl
  exact fun {ks} h => key ks [] h
end
theorem num_at {κ : Type} [DecidableEq κ] {ks : List κ} {i : Nat} {k : κ} (h : ks[i]? = some k) : (numK ks)[i]? = some (ixK (dedK ks) k) := by
  unfold numK
  rw [List.getElem?_map, h] <;> rfl
/-- as many classes: no class was divided -/
theorem no_split {n : Nat} {f h : Nat → Nat} (hf : ∀ i j, i < n → j < n → h i = h j → f i = f j) (c : (dedK ((List.range n).map h)).length ≤ (dedK ((List.range n).map f)).length) : ∀ i j, i < n → j < n → f i = f j → h i = h j := by
  intro i j hi hj e
  by_cases z : h i = h j
  · exact z
  exfalso
  obtain ⟨A, hA⟩ : ∃ A, A = dedK ((List.range n).map h) := ⟨_, rfl⟩
  obtain ⟨B, hB⟩ : ∃ B, B = dedK ((List.range n).map f) := ⟨_, rfl⟩
  rw [← hA, ← hB] at c
  have mA : ∀ x, x ∈ A ↔ ∃ a, a < n ∧ h a = x := fun x => by
    rw [hA, dedK_mem, List.mem_map]
    constructor
    · rintro ⟨a, ha, e⟩; exact ⟨a, List.mem_range.mp ha, e⟩
    · rintro ⟨a, ha, e⟩; exact ⟨a, List.mem_range.mpr ha, e⟩
  have mB : ∀ x, x ∈ B ↔ ∃ a, a < n ∧ f a = x := fun x => by
    rw [hB, dedK_mem, List.mem_map]
    constructor
    · rintro ⟨a, ha, e⟩; exact ⟨a, List.mem_range.mp ha, e⟩
    · rintro ⟨a, ha, e⟩; exact ⟨a, List.mem_range.mpr ha, e⟩
  have ndA : A.Nodup := by rw [hA]; exact dedK_nd _
  have ndB : B.Nodup := by rw [hB]; exact dedK_nd _
  obtain ⟨rep, hrep⟩ : ∃ rep : Nat → Nat, ∀ x ∈ A, rep x < n ∧ h (rep x) = x := by
    refine ⟨fun x => if hx : ∃ a, a < n ∧ h a = x then hx.choose else 0, fun x hx => ?_⟩
    have hx := (mA x).mp hx
    dsimp only
    rw [dif_pos hx]
    exact hx.choose_spec
  have inj : h j ∈ A := (mA _).mpr ⟨j, hj, rfl⟩
  have ini : h i ∈ A := (mA _).mpr ⟨i, hi, rfl⟩
  have cov : ∀ y ∈ B, y ∈ (A.erase (h j)).map fun x => f (rep x) := fun y hy => by
    obtain ⟨a, ha, rfl⟩ := (mB y).mp hy
    have key : ∀ b, b < n → h b ≠ h j → f b ∈ (A.erase (h j)).map fun x => f (rep x) := fun b hb ne => by
      have hbA : h b ∈ A := (mA _).mpr ⟨b, hb, rfl⟩
      obtain ⟨r1, r2⟩ := hrep (h b) hbA
      exact List.mem_map.mpr ⟨h b, (List.mem_erase_of_ne ne).mpr hbA, hf _ _ r1 hb r2⟩
    by_cases q : h a = h j
    · rw [show f a = f i from (hf a j ha hj q).trans e.symm]
      exact key i hi z
    · exact key a ha q
  have := nodup_lenK ndB cov
  rw [List.length_map, List.length_erase_of_mem inj] at this
  have := List.length_pos_of_mem inj
  omega
structure TabOk (rs : List TRow) : Prop where
  ro : RowsOk rs.length (getR rs)
  ln : ∀ a b, a < rs.length → b < rs.length → (getR rs a).1 = (getR rs b).1 → (getR rs a).2.length = (getR rs b).2.length
def hC (rs : List TRow) (k i : Nat) : Nat := (clsN rs k).getD i 0
theorem itK_inj : ∀ {a b : Itm}, itK a = itK b → a = b
  | .inl a, .inl b, h => by
    have h : (Sum.inl (a : Int) : Key) = .inl (b : Int) := h
    cases h
    rfl
  | .inr _, .inr _, h => by
    have h := Sum.inr.inj h
    rw [h]
  | .inl _, .inr _, h => by cases h
  | .inr _, .inl _, h => by cases h
theorem map_inj {α β : Type} {f : α → β} (hf : ∀ a b, f a = f b → a = b) : ∀ {xs ys : List α}, xs.map f = ys.map f → xs = ys
  | [], [], _ => rfl
  | [], _ :: _, h => by cases h
  | _ :: _, [], h => by cases h
  | x :: xs, y :: ys, h => by
    rw [List.map_cons, List.map_cons] at h
    injection h with h1 h2
    rw [hf _ _ h1, map_inj hf h2]
theorem keyM_inj {ms : List Nat} {m m' : Nat} {r r' : TRow} (h : keyM ms m r = keyM ms m' r') : m = m' ∧ renR (fun b => ms.getD b 0) r = renR (fun b => ms.getD b 0) r' := by
  unfold keyM rowK at h
  injection h with h1 h2
  injection h2 with h3 h4
  have h1 := Sum.inl.inj h1
  have h3 := Sum.inl.inj h3
  have h4 := map_inj (fun a b => itK_inj) h4
  refine ⟨by omega, Prod.ext (by omega) h4⟩
section
variable {rs : List TRow}
theorem keys_at (k : Nat) {i : Nat} (hi : i < rs.length) : (keysM rs (clsN rs k))[i]? = some (keyM (clsN rs k) (hC rs k i) (getR rs i)) := by
  have ln := clsN_len rs k
  have h1 : (clsN rs k)[i]? = some (hC rs k i) := by
    unfold hC
    rw [List.getD_eq_getElem?_getD, List.getElem?_eq_getElem (show i < (clsN rs k).length by rw [ln]; exact hi)] <;> rfl
  have h2 : rs[i]? = some (getR rs i) := by
    unfold getR
    rw [List.getD_eq_getElem?_getD, List.getElem?_eq_getElem hi] <;> rfl
  have hz : ((clsN rs k).zip rs)[i]? = some (hC rs k i, getR rs i) := List.getElem?_zip_eq_some.mpr ⟨h1, h2⟩
  unfold keysM
  rw [List.getElem?_map, hz] <;> rfl
theorem keys_len (k : Nat) : (keysM rs (clsN rs k)).length = rs.length := by
  unfold keysM
  rw [List.length_map, List.length_zip, clsN_len, Nat.min_self]
theorem hC_succ (k : Nat) {i : Nat} (hi : i < rs.length) : hC rs (k + 1) i = ixK (dedK (keysM rs (clsN rs k))) (keyM (clsN rs k) (hC rs k i) (getR rs i)) := by
  unfold hC
  rw [List.getD_eq_getElem?_getD, show clsN rs (k + 1) = numK (keysM rs (clsN rs k)) from rfl, num_at (keys_at k hi)] <;> rfl
theorem hC_eq (k : Nat) {i j : Nat} (hi : i < rs.length) (hj : j < rs.length) : hC rs (k + 1) i = hC rs (k + 1) j ↔ hC rs k i = hC rs k j ∧ renR (hC rs k) (getR rs i) = renR (hC rs k) (getR rs j) := by
  rw [hC_succ k hi, hC_succ k hj]
  constructor
  · intro h
    exact keyM_inj (ix_inj (dedK_mem.mpr (List.mem_of_getElem? (keys_at k hi))) (dedK_mem.mpr (List.mem_of_getElem? (keys_at k hj))) h)
  · rintro ⟨h1, h2⟩
    have e : keyM (clsN rs k) (hC rs k i) (getR rs i) = keyM (clsN rs k) (hC rs k j) (getR rs j) := by
      unfold keyM
      rw [h1, show renR (fun b => (clsN rs k).getD b 0) (getR rs i) = renR (fun b => (clsN rs k).getD b 0) (getR rs j) from h2]
    rw [e]
theorem hC_range (k : Nat) : (List.range rs.length).map (hC rs k) = clsN rs k := by
  have ln := clsN_len rs k
  refine List.ext_getElem? fun i => ?_
  rw [List.getElem?_map]
  by_cases hi : i < rs.length
  · rw [List.getElem?_range hi, List.getElem?_eq_getElem (show i < (clsN rs k).length by rw [ln]; exact hi)]
    show some (hC rs k i) = _
    unfold hC
    rw [List.getD_eq_getElem?_getD, List.getElem?_eq_getElem (show i < (clsN rs k).length by rw [ln]; exact hi)] <;> rfl
  · rw [List.getElem?_eq_none (by simp; omega), List.getElem?_eq_none (by rw [ln]; omega)] <;> rfl
theorem renR_eq {f h : Nat → Nat} {n : Nat} (hf : ∀ i j, i < n → j < n → f i = f j → h i = h j) {r s : TRow} (hr : ∀ b : Nat, Sum.inl b ∈ r.2 → b < n) (hs : ∀ b : Nat, Sum.inl b ∈ s.2 → b < n) (e : renR f r = renR f s) : renR h r = renR h s := by
  obtain ⟨p, xs⟩ := r
  obtain ⟨q, ys⟩ := s
  have e1 : p = q := congrArg Prod.fst e
  have e2 : xs.map (renI f) = ys.map (renI f) := congrArg Prod.snd e
  replace hr : ∀ b : Nat, Sum.inl b ∈ xs → b < n := hr
  replace hs : ∀ b : Nat, Sum.inl b ∈ ys → b < n := hs
  refine Prod.ext e1 ?_
  show xs.map (renI h) = ys.map (renI h)
  clear e e1
  induction xs generalizing ys with
  | nil =>
    cases ys with
    | nil => rfl
    | cons y ys => cases e2
  | cons x xs ih =>
    cases ys with
    | nil => cases e2
    | cons y ys =>
      rw [List.map_cons, List.map_cons] at e2
      injection e2 with a b
      rw [List.map_cons, List.map_cons, ih (fun b hb => hr b (List.mem_cons_of_mem _ hb)) (ys := ys) (hs := fun b hb => hs b (List.mem_cons_of_mem _ hb)) (e2 := b)]
      congr 1
      cases x with
      | inl x =>
        cases y with
        | inl y =>
          have a : f x = f y := Sum.inl.inj a
          show Sum.inl (h x) = Sum.inl (h y)
          rw [hf x y (hr x List.mem_cons_self) (hs y List.mem_cons_self) a]
        | inr t => cases a
      | inr s =>
        cases y with
        | inl y => cases a
        | inr t =>
          have a : s = t := Sum.inr.inj a
          rw [a] <;> rfl
/-- the last classes are stable -/
theorem stable (T : TabOk rs) {k : Nat} (c : ndist (clsN rs (k + 1)) ≤ ndist (clsN rs k)) {i j : Nat} (hi : i < rs.length) (hj : j < rs.length) (e : hC rs (k + 1) i = hC rs (k + 1) j) : renR (hC rs (k + 1)) (getR rs i) = renR (hC rs (k + 1)) (getR rs j) := by
  have hf : ∀ i j, i < rs.length → j < rs.length → hC rs (k + 1) i = hC rs (k + 1) j → hC rs k i = hC rs k j := fun i j hi hj h => ((hC_eq k hi hj).mp h).1
  have ns := no_split hf (by rw [hC_range, hC_range]; exact c)
  exact renR_eq ns (T.ro.ok i hi) (T.ro.ok j hj) ((hC_eq k hi hj).mp e).2
theorem renI_R {R : Nat → Nat → Prop} {f : Nat → Nat} (h : ∀ a b, R a b → f a = f b) : ∀ {xs ys : List Itm}, Paired (ItR R) xs ys → xs.map (renI f) = ys.map (renI f)
  | _, _, .nil => rfl
  | _, _, @Paired.cons _ _ _ x y xs ys r t => by
    rw [List.map_cons, List.map_cons, renI_R h t]
    congr 1
    cases x <;> cases y
    · exact congrArg Sum.inl (h _ _ r)
    · exact r.elim
    · exact r.elim
    · exact congrArg Sum.inr r
/-- alike rows are in one class -/
theorem coarse {R : Nat → Nat → Prop} (B : Bis rs.length rs.length (getR rs) (getR rs) R) : ∀ (k i j : Nat), R i j → hC rs k i = hC rs k j
  | 0, i, j, r => by
    obtain ⟨hi, hj⟩ := B.lt _ _ r
    have p := B.pl _ _ r
    have at0 : ∀ i, i < rs.length → hC rs 0 i = (getR rs i).1 := fun i hi => by
      unfold hC getR
      rw [List.getD_eq_getElem?_getD, List.getD_eq_getElem?_getD, show clsN rs 0 = rs.map (·.1) from rfl, List.getElem?_map, List.getElem?_eq_getElem hi] <;> rfl
    rw [at0 i hi, at0 j hj, p]
  | k + 1, i, j, r => by
    obtain ⟨hi, hj⟩ := B.lt _ _ r
    rw [hC_eq k hi hj]
    exact ⟨coarse B k i j r, Prod.ext (B.pl _ _ r) (renI_R (coarse B k) (B.it _ _ r))⟩
/-- the rows of the classes -/
def gM (rs : List TRow) (k c : Nat) : TRow := renR (hC rs k) (getR rs (ixK (clsN rs k) c))
def NC (rs : List TRow) (k : Nat) : Nat := ndist (clsN rs k)
theorem hC_mem (k : Nat) {i : Nat} (hi : i < rs.length) : hC rs k i ∈ clsN rs k := by
  rw [← hC_range]
  exact List.mem_map_of_mem (List.mem_range.mpr hi)
theorem ix_cls (k : Nat) {i : Nat} (hi : i < rs.length) : ixK (clsN rs k) (hC rs k i) < rs.length ∧ hC rs k (ixK (clsN rs k) (hC rs k i)) = hC rs k i := by
  have h1 := ix_lt (hC_mem k hi)
  rw [clsN_len] at h1
  refine ⟨h1, ?_⟩
  have h2 := ix_at (hC_mem k hi)
  show (clsN rs k).getD _ 0 = _
  rw [List.getD_eq_getElem?_getD, h2] <;> rfl
theorem gM_at (T : TabOk rs) {k : Nat} (c : ndist (clsN rs (k + 1)) ≤ ndist (clsN rs k)) {i : Nat} (hi : i < rs.length) : gM rs (k + 1) (hC rs (k + 1) i) = renR (hC rs (k + 1)) (getR rs i) := by
  obtain ⟨h1, h2⟩ := ix_cls (k + 1) hi
  exact stable T c h1 hi h2
/-- the numbers of the classes -/
theorem hC_lt (k : Nat) {i : Nat} (hi : i < rs.length) : hC rs (k + 1) i < NC rs (k + 1) := by
  unfold NC ndist
  have h1 : hC rs (k + 1) i < (dedK (keysM rs (clsN rs k))).length := by
    rw [hC_succ k hi]
    exact ix_lt (dedK_mem.mpr (List.mem_of_getElem? (keys_at k hi)))
  refine Nat.lt_of_lt_of_le h1 ?_
  have h2 : (dedK (keysM rs (clsN rs k))).length = ((dedK (keysM rs (clsN rs k))).map (ixK (dedK (keysM rs (clsN rs k))))).length := (List.length_map ..).symm
  rw [h2]
  refine nodup_lenK ?_ fun x hx => ?_
  · have nd := dedK_nd (keysM rs (clsN rs k))
    generalize dedK (keysM rs (clsN rs k)) = D at nd
    have key : ∀ E : List (List Key), (∀ x ∈ E, x ∈ D) → E.Nodup → (E.map (ixK D)).Nodup := by
      intro E
      induction E with
      | nil => intro _ _; exact List.nodup_nil
      | cons x E ih =>
        intro hE nE
        obtain ⟨n1, n2⟩ := List.nodup_cons.mp nE
        rw [List.map_cons, List.nodup_cons]
        refine ⟨fun z => ?_, ih (fun y hy => hE y (List.mem_cons_of_mem _ hy)) n2⟩
        obtain ⟨y, hy, e⟩ := List.mem_map.mp z
        have := ix_inj (hE y (List.mem_cons_of_mem _ hy)) (hE x List.mem_cons_self) e
        exact n1 (this ▸ hy)
    exact key D (fun x hx => hx) nd
  · obtain ⟨q, hq, rfl⟩ := List.mem_map.mp hx
    rw [dedK_mem]
    show _ ∈ numK (keysM rs (clsN rs k))
    exact List.mem_map_of_mem (dedK_mem.mp hq)
theorem hC_onto (k : Nat) {c : Nat} (hc : c < NC rs (k + 1)) : ∃ i, i < rs.length ∧ hC rs (k + 1) i = c := by
  have nd := dedK_nd (clsN rs (k + 1))
  have all : ∀ x ∈ dedK (clsN rs (k + 1)), x < NC rs (k + 1) := fun x hx => by
    rw [dedK_mem, ← hC_range] at hx
    obtain ⟨i, hi, rfl⟩ := List.mem_map.mp hx
    exact hC_lt k (List.mem_range.mp hi)
  by_cases z : c ∈ dedK (clsN rs (k + 1))
  · rw [dedK_mem, ← hC_range] at z
    obtain ⟨i, hi, rfl⟩ := List.mem_map.mp z
    exact ⟨i, List.mem_range.mp hi, rfl⟩
  · exfalso
    have h := nd_lt (n := NC rs (k + 1)) (l := c :: dedK (clsN rs (k + 1))) (List.nodup_cons.mpr ⟨z, nd⟩) fun x hx => by
      rcases List.mem_cons.mp hx with rfl | hx
      · exact hc
      · exact all x hx
    rw [List.length_cons] at h
    have : NC rs (k + 1) = (dedK (clsN rs (k + 1))).length := rfl
    omega
theorem gM_ok (T : TabOk rs) {k : Nat} (c : ndist (clsN rs (k + 1)) ≤ ndist (clsN rs k)) : RowsOk (NC rs (k + 1)) (gM rs (k + 1)) := by
  have key : ∀ a, a < NC rs (k + 1) → ∃ i, i < rs.length ∧ gM rs (k + 1) a = renR (hC rs (k + 1)) (getR rs i) := fun a ha => by
    obtain ⟨i, hi, rfl⟩ := hC_onto k ha
    exact ⟨i, hi, gM_at T c hi⟩
  refine ⟨fun a ha b hb => ?_, fun a ha => ?_, fun a ha => ?_⟩
  · obtain ⟨i, hi, e⟩ := key a ha
    rw [e] at hb
    obtain ⟨y, hy, e2⟩ := List.mem_map.mp hb
    cases y with
    | inl y =>
      have e2 : hC rs (k + 1) y = b := Sum.inl.inj e2
      rw [← e2]
      exact hC_lt k (T.ro.ok i hi y hy)
    | inr s => cases e2
  · obtain ⟨i, hi, e⟩ := key a ha
    rw [e]
    intro z
    have := congrArg List.length z
    rw [show (renR (hC rs (k + 1)) (getR rs i)).2.length = (getR rs i).2.length from List.length_map ..] at this
    exact T.ro.ne i hi (List.length_eq_zero_iff.mp this)
  · obtain ⟨i, hi, e⟩ := key a ha
    rw [e, show (renR (hC rs (k + 1)) (getR rs i)).2.length = (getR rs i).2.length from List.length_map ..]
    exact T.ro.le i hi
end
end Fc
set_option maxRecDepth 100000
set_option maxHeartbeats 4000000
namespace Fc
open PySem PySem.Spec PyProof.Rows L2 FcR
open Evl (Ex)
def mrgT (rs : List TRow) (k : Nat) : List TRow := ordT (gM rs (k + 1)) (hC rs (k + 1) 0) (NC rs (k + 1))
theorem getR_mem {rs : List TRow} {a : Nat} (h : a < rs.length) : getR rs a ∈ rs := by
  unfold getR
  rw [List.getD_eq_getElem?_getD, List.getElem?_eq_getElem h]
  exact List.getElem_mem h
theorem tabOk_of {rows : List Row} {rs : List TRow} (tv : ∀ r ∈ rs, TV rows rs.length r) : TabOk rs := by
  refine ⟨⟨fun a ha b hb => ?_, fun a ha z => ?_, fun a ha => ?_⟩, fun a b ha hb e => ?_⟩
  · rcases (tv _ (getR_mem ha)).it _ hb with ⟨b', e, h⟩ | ⟨s, e, _⟩
    · cases e; exact h
    · cases e
  · have := (tv _ (getR_mem ha)).ln
    rw [z] at this
    simp at this
    omega
  · rw [(tv _ (getR_mem ha)).ln]
    split <;> decide
  · rw [(tv _ (getR_mem ha)).ln, (tv _ (getR_mem hb)).ln, e]
theorem putK_len {κ : Type} [DecidableEq κ] (kvs : List (κ × V)) (k : κ) (v : V) : (putK kvs k v).length ≤ kvs.length + 1 := by
  unfold putK
  split
  · rw [List.length_map]; omega
  · rw [List.length_append]; simp
def sp_mrg (K : PySem.W.Frag) : Sp := fun vs H Q _ => ∃ (F : Hp) (A : CAd) (rows : List Row) (la : Addr) (ts : List Addr) (rs : List TRow), vs = [.ref A.p, .ref la] ∧ CodeH K F F A rows ∧ Ex F H ∧ rows.length ≤ 400 ∧ H la = some (.lst (ts.map V.ref)) ∧ RowsAt K H ts rs ∧ 1 ≤ rs.length ∧ rs.length ≤ 200 ∧ (∀ r ∈ rs, TV rows rs.length r) ∧
  ∀ (H' : Hp) (a : Addr) (us : List Addr) (k : Nat), Ex H H' → H a = none → H' a = some (.lst (us.map V.ref)) → RowsAt K H' us (mrgT rs k) → StopK rs k → Q (.ref a) H'
section
variable {P : Program} {w : World} {h : Heap} {K : PySem.W.Frag} {mg : Str → Option Value} {base : Heap}
abbrev N_merged : List Str := ["code", "rows", "marks", "some", "mark", "row"]
theorem sc_merged : FnScope N_merged ["code", "rows"] (defScope sd_merged) := ⟨rfl, rfl, rfl, by decide +kernel, rfl, by decide +kernel, by decide +kernel⟩
theorem okF_merged (T : Tx w h K mg) : ∃ fd, FnOk P w K mg base (CX P w) 10 (He.fAd K ("merged", none)) fd ["code", "rows"] (sp_mrg K) ∧ Binds K fd ["code", "rows"] [] ∧ PySem.W.keepIn K (.ref (He.fAd K ("merged", none))) = true ∧ FunD K "merged" "merged" (defArgs sd_merged) (defBody sd_merged) (defScope sd_merged) [] [] (He.fAd K ("merged", none)) fd := by
  obtain ⟨fd, F⟩ := F_merged T
  refine ⟨fd, ?_, F.bindsN (fun _ _ _ _ _ _ us hl => match us, hl with | [_, _], _ => rfl), F.kp, F⟩
  obtain ⟨fd_check_rows, G_check_rows, bi_check_rows, kp_check_rows⟩ := ok_check_rows (P := P) (base := base) T
  obtain ⟨fd_classes_of, G_classes_of, bi_classes_of, kp_classes_of⟩ := ok_classes_of (P := P) (base := base) T
  obtain ⟨fd_ordered, G_ordered, bi_ordered, kp_ordered⟩ := ok_orderedD (P := P) (base := base) T
  obtain ⟨fd_renumbered, G_renumbered, bi_renumbered, kp_renumbered⟩ := ok_renumbered (P := P) (base := base) T
  refine F.ok sc_merged (fun vs H Q E h => ?_) (fun cdv A outer s H vs Q E hr h => ?_)
  · obtain ⟨F, A, rows, la, ts, rs, rfl, C, xF, hl, hla, RA, n1, n2, tv, q⟩ := h
    rfl
  · obtain ⟨F, A, rows, la, ts, rs, rfl, C, xF, hl, hla, RA, n1, n2, tv, q⟩ := h
    refine ⟨_, PSs.nox (pss_cons (ps_expr (pe_call G_check_rows (hr.mono (by decide)) rfl (g_check_rows T) kp_check_rows bi_check_rows .nil passF (pa_cons (pv 0) (pa_cons (pv 1) pa_nil)))) (pss_cons (ps_set (i := 2) sc_merged.nd rfl (Or.inl rfl) (pe_call G_classes_of (hr.mono (by decide)) rfl (g_classes_of T) kp_classes_of bi_classes_of .nil passF (pa_cons (pv 1) pa_nil))) (pss_cons (ps_set (i := 3) sc_merged.nd rfl (Or.inl rfl) pe_dnewK) (pss_cons (ps_for PassesOwn.never rfl (pi_zip rfl (fr_zip T) (pa_cons (pv 2) (pa_cons (pv 1) pa_nil))) (pg_tup rfl (pgs_cons (pg_name (i := 4) sc_merged.nd rfl (Or.inl rfl)) (pgs_cons (pg_name (i := 5) sc_merged.nd rfl (Or.inl rfl)) pgs_nil))) (pss_one (ps_asg (pe_call G_renumbered (hr.mono (by decide)) rfl (g_renumbered T) kp_renumbered bi_renumbered .nil passF (pa_cons (pv 5) (pa_cons (pv 2) pa_nil))) (pg_sub (pv 3) (pv 4) (set_dict (hu_of hr)))))) (pss_one (ps_ret (pe_call G_ordered (hr.mono (by decide)) rfl (g_ordered T) kp_ordered bi_ordered .nil passF (pa_cons (pv 3) (pa_cons (pe_ix ix_list (pv 2) pe_int (fun _ _ => rfl)) pa_nil))))))))), ?_⟩
    have tl := rowsAt_len RA
    have TO := tabOk_of tv
    refine ⟨_, rfl, _, rfl, F, A, rows, la, ts, rs, rfl, C, xF, hl, hla, RA, n1, n2, tv, fun H1 x1 => ?_⟩
    refine ⟨_, rfl, la, ts, rs, rfl, x1 _ _ hla, rowsAt_ex x1 RA, n1, by omega, TO.ro, fun H2 a2 k x2 na2 s2 cs => ?_⟩
    have c := cs.le
    have x02 := x1.trans x2
    show ∀ (p3 : Addr), H2 p3 = none → _
    intro p3 n3
    generalize e3 : upd _ p3 _ = H3
    obtain ⟨x3, s3, o3⟩ := new_of e3 n3
    clear e3
    have x03 := x02.trans x3
    have ln := clsN_len rs (k + 1)
    have mi : ∀ x, x < rs.length → (intsV (clsN rs (k + 1)))[x]? = some (.int (hC rs (k + 1) x : Int)) := fun x hx => getElem?_ints (by rw [ln]; exact hx)
    have n3H : H p3 = none := ex_none x02 n3
    have a23 : a2 ≠ p3 := fun z => by rw [z, ← z, z] at s2; rw [s2] at n3; cases n3
    refine ⟨_, rfl, _, rfl, a2, la, _, _, rfl, Evl.sq_of (x3 _ _ s2), Evl.sq_of (x03 _ _ hla), ?_⟩
    refine for_it (walk_zip (n := rs.length) (xs := intsV (clsN rs (k + 1))) (ys := ts.map V.ref) (by rw [show (intsV (clsN rs (k + 1))).length = (clsN rs (k + 1)).length from List.length_map .., ln, List.length_map, tl, Nat.min_self])) (fun i σ' H' => ∃ (u4 u5 : Option V) (kvs : List (Key × V)), σ' = [some (.ref A.p), some (.ref la), some (.ref a2), some (.ref p3), u4, u5] ∧ Ex H H' ∧ H' a2 = some (.lst (intsV (clsN rs (k + 1)))) ∧ H' p3 = some (.dK kvs) ∧ kvs.length ≤ i ∧ ∀ j, j < i → ∃ t, valV kvs (.inl (hC rs (k + 1) j : Int)) = some (.ref t) ∧ RowAt K H' t (gM rs (k + 1) (hC rs (k + 1) j))) ?_ ?_ ?_ ?_
    · exact ⟨_, _, [], rfl, x03, x3 _ _ s2, s3, Nat.le_refl _, fun j hj => absurd hj (Nat.not_lt_zero j)⟩
    · exact fun i σ' H' _ ⟨_, _, _, _, e, l, _⟩ => ⟨Evl.sq_of l, Evl.sq_of (e _ _ hla)⟩
    · rintro i v σ' Hq Hr hi ⟨u4, u5, kvs, rfl, e, l, d, kl, kj⟩ ⟨tp, y1, y2, rfl, n2', rfl, z1, z2⟩
      have hi : i < rs.length := hi
      replace z1 : (intsV (clsN rs (k + 1)))[i]? = some y1 := z1
      rw [mi i hi] at z1
      cases z1
      obtain ⟨t, ht, rt⟩ := paired_getT RA hi
      replace z2 : (ts.map V.ref)[i]? = some y2 := z2
      rw [List.getElem?_map, ht] at z2
      cases z2
      generalize e2 : upd Hq tp _ = H7
      obtain ⟨x7, s7, o7⟩ := new_of e2 n2'
      clear e2
      refine ⟨tp, _, rfl, SqT.of s7, rfl, _, _, rfl, _, _, rfl, rfl, ?_⟩
      refine ⟨_, rfl, _, rfl, t, a2, getR rs i, clsN rs (k + 1), rfl, Evl.ex_t (e.trans x7) rt, x7 _ _ l, TO.ro.ne i hi, TO.ro.le i hi, fun b hb => by rw [ln]; exact TO.ro.ok i hi b hb, fun H8 t8 x8 n8 s8 => ?_⟩
      have x78 := x7.trans x8
      refine ⟨_, rfl, _, rfl, p3, _, rfl, DPut.k (k := .inl (hC rs (k + 1) i : Int)) (x78 _ _ d) (szl (by omega)), ?_⟩
      generalize e9 : upd _ p3 _ = H9
      obtain ⟨s9, o9⟩ := set_of e9
      clear e9
      have d8 := x78 _ _ d
      have k9 : ∀ c ys, SqT K H8 c ys → SqT K H9 c ys := fun c ys h => by
        rcases h with h | h
        · refine .inl ?_
          rcases h with h | ⟨o, h⟩
          · exact .inl (by rw [o9 c (fun z => by rw [z, d8] at h; cases h)]; exact h)
          · exact .inr ⟨o, by rw [o9 c (fun z => by rw [z, d8] at h; cases h)]; exact h⟩
        · exact .inr h
      refine ⟨_, _, _, rfl, fun b o eb => (o9 b (fun z => by rw [z, n3H] at eb; cases eb)).trans ((e.trans x78) _ _ eb), (o9 _ a23).trans (x78 _ _ l), s9, by have := putK_len kvs (.inl (hC rs (k + 1) i : Int) : Key) (.ref t8); omega, fun j hj => ?_⟩
      have new : RowAt K H9 t8 (gM rs (k + 1) (hC rs (k + 1) i)) := by
        rw [gM_at TO c hi]
        exact k9 _ _ (SqT.of s8)
      rw [valV_put]
      by_cases z : hC rs (k + 1) j = hC rs (k + 1) i
      · rw [if_pos (by rw [z]), z]
        exact ⟨t8, rfl, new⟩
      · rw [if_neg (fun y => z (by have y := Sum.inl.inj y; omega))]
        have jl : j < i := by
          by_cases q : j = i
          · exact absurd (by rw [q]) z
          · omega
        obtain ⟨t', h1, h2⟩ := kj j jl
        exact ⟨t', h1, k9 _ _ (Evl.ex_t x78 h2)⟩
    rintro σ' H10 ⟨u4, u5, kvs, rfl, e, l, d, kl, kj⟩
    have nc : NC rs (k + 1) ≤ rs.length := by
      have := dedK_le (clsN rs (k + 1))
      rw [ln] at this
      exact this
    refine ⟨_, rfl, _, rfl, a2, _, (0 : Int), _, rfl, rfl, Evl.sq_of l, atI_nat (j := 0) (mi 0 (by omega)), p3, hC rs (k + 1) 0, NC rs (k + 1), kvs, gM rs (k + 1), rfl, d, fun c' hc' => ?_, by omega, hC_lt k (by omega), gM_ok TO c, fun H' a us x na ha ra => ?_⟩
    · obtain ⟨i, hi, rfl⟩ := hC_onto k hc'
      exact kj i hi
    · exact q H' a us k (e.trans x) (ex_none e na) ha ra cs
end
end Fc
set_option maxRecDepth 100000
set_option maxHeartbeats 4000000
namespace Fc
open PySem PySem.Spec PyProof.Rows L2 FcR
open Evl (Ex)
theorem idx_ix (L : List Nat) (b : Nat) : L.idxOf b = ixK L b := rfl
theorem ix_pre {L M : List Nat} (h : M <+: L) {b : Nat} (hb : b ∈ M) : ixK L b = ixK M b := by
  obtain ⟨t, rfl⟩ := h
  unfold ixK
  rw [List.idxOf_append, if_pos hb]
theorem ix_new {L M : List Nat} {b : Nat} (h : M ++ [b] <+: L) (hb : ¬ b ∈ M) : ixK L b = M.length := by
  obtain ⟨t, rfl⟩ := h
  unfold ixK
  rw [List.append_assoc, List.idxOf_append, if_neg hb, List.singleton_append, List.idxOf_cons_self, Nat.zero_add]
theorem addN_idx {L : List Nat} : ∀ (ys : List Itm) (Cur : List Nat), addN Cur ys <+: L → addN (List.range Cur.length) (ys.map (renI (ixK L))) = List.range (addN Cur ys).length
  | [], _, _ => rfl
  | y :: ys, Cur, h => by
    have p1 : addI Cur y <+: L := (addN_pre ys (addI Cur y)).trans h
    have e : addI (List.range Cur.length) (renI (ixK L) y) = List.range (addI Cur y).length := by
      cases y with
      | inr s => rfl
      | inl b =>
        show (if ixK L b ∈ List.range Cur.length then List.range Cur.length else List.range Cur.length ++ [ixK L b]) = List.range (if b ∈ Cur then Cur else Cur ++ [b]).length
        have p1 : (if b ∈ Cur then Cur else Cur ++ [b]) <+: L := p1
        by_cases z : b ∈ Cur
        · rw [if_pos z] at p1 ⊢
          rw [if_pos (List.mem_range.mpr (by rw [ix_pre p1 z]; exact ix_lt z))]
        · rw [if_neg z] at p1 ⊢
          rw [ix_new p1 z, if_neg (fun y => by have := List.mem_range.mp y; omega), List.length_append, List.length_singleton, List.range_succ]
    show addN (addI (List.range Cur.length) (renI (ixK L) y)) (ys.map (renI (ixK L))) = List.range (addN (addI Cur y) ys).length
    rw [e]
    exact addN_idx ys (addI Cur y) h
section
variable {n s : Nat} {g : Nat → TRow}
theorem ord_all (R : RowsOk n g) (hs : s < n) (j : Nat) : ordN g s j <+: ordN g s n := by
  obtain ⟨h1, h2, _, _⟩ := ordN_ok R.ok hs n
  have hl := nd_lt h1 h2
  by_cases z : j ≤ n
  · exact ordN_pre g s j n z
  · rw [ordN_stay hl j (by omega)]
    exact List.prefix_refl _
theorem ordT_len : (ordT g s n).length = (ordN g s n).length := List.length_map ..
theorem ordT_at {j c : Nat} (h : (ordN g s n)[j]? = some c) : getR (ordT g s n) j = renR (ixK (ordN g s n)) (g c) := by
  unfold getR ordT
  rw [List.getD_eq_getElem?_getD, List.getElem?_map, h] <;> rfl
theorem ord_lt {j c : Nat} (h : (ordN g s n)[j]? = some c) : j < (ordT g s n).length := by
  rw [ordT_len]
  exact (List.getElem?_eq_some_iff.mp h).1
theorem ord_ex {j : Nat} (h : j < (ordT g s n).length) : ∃ c, (ordN g s n)[j]? = some c := by
  rw [ordT_len] at h
  exact ⟨_, List.getElem?_eq_getElem h⟩
theorem ord_c (R : RowsOk n g) (hs : s < n) {j c : Nat} (h : (ordN g s n)[j]? = some c) : c < n := (ordN_ok R.ok hs n).2.1 c (List.mem_of_getElem? h)
theorem ord_cl (R : RowsOk n g) (hs : s < n) {c : Nat} (h : c ∈ ordN g s n) {b : Nat} (hb : Sum.inl b ∈ (g c).2) : b ∈ ordN g s n := by
  obtain ⟨h1, h2, _, _⟩ := ordN_ok R.ok hs n
  exact ordN_cl (nd_lt h1 h2) c h b hb
theorem ord_0 (R : RowsOk n g) (hs : s < n) : (ordN g s n)[0]? = some s := by
  obtain ⟨t, ht⟩ := (ordN_ok R.ok hs n).2.2.2
  rw [← ht] <;> rfl
theorem ord_inj (R : RowsOk n g) (hs : s < n) {i j c : Nat} (h1 : (ordN g s n)[i]? = some c) (h2 : (ordN g s n)[j]? = some c) : i = j := by
  have nd := (ordN_ok R.ok hs n).1
  rw [← ix_getK nd h1, ← ix_getK nd h2]
theorem itR_map {f : Nat → Nat} {S : Nat → Nat → Prop} {xs : List Itm} (h : ∀ b : Nat, Sum.inl b ∈ xs → S b (f b)) : Paired (ItR S) xs (xs.map (renI f)) :=
  paired_mapR fun y hy => by
    cases y with
    | inl b => exact h b hy
    | inr s => exact rfl
/-- a row is as the one that it is made of -/
theorem ord_bis (R : RowsOk n g) (hs : s < n) : Bis n (ordT g s n).length g (getR (ordT g s n)) (fun c j => (ordN g s n)[j]? = some c) :=
  ⟨fun c j h => ⟨ord_c R hs h, ord_lt h⟩, fun c j h => by rw [ordT_at h] <;> rfl, fun c j h => by
    rw [ordT_at h]
    exact itR_map fun b hb => ix_at (ord_cl R hs (List.mem_of_getElem? h) hb)⟩
theorem ord_ok (R : RowsOk n g) (hs : s < n) : RowsOk (ordT g s n).length (getR (ordT g s n)) := by
  refine ⟨fun a ha b hb => ?_, fun a ha => ?_, fun a ha => ?_⟩
  · obtain ⟨c, hc⟩ := ord_ex ha
    rw [ordT_at hc] at hb
    obtain ⟨y, hy, e⟩ := List.mem_map.mp hb
    cases y with
    | inl y =>
      have e : ixK (ordN g s n) y = b := Sum.inl.inj e
      rw [← e, ordT_len]
      exact ix_lt (ord_cl R hs (List.mem_of_getElem? hc) hy)
    | inr s => cases e
  · obtain ⟨c, hc⟩ := ord_ex ha
    rw [ordT_at hc]
    intro z
    have := congrArg List.length z
    rw [show (renR (ixK (ordN g s n)) (g c)).2.length = (g c).2.length from List.length_map ..] at this
    exact R.ne c (ord_c R hs hc) (List.length_eq_zero_iff.mp this)
  · obtain ⟨c, hc⟩ := ord_ex ha
    rw [ordT_at hc, show (renR (ixK (ordN g s n)) (g c)).2.length = (g c).2.length from List.length_map ..]
    exact R.le c (ord_c R hs hc)
/-- its rows are in the order of their first occurrence -/
theorem ord_range (R : RowsOk n g) (hs : s < n) : ∀ k, ordN (getR (ordT g s n)) 0 k = List.range (ordN g s k).length
  | 0 => rfl
  | k + 1 => by
    have ih := ord_range R hs k
    have pre := ord_all R hs (k + 1)
    show (match (ordN (getR (ordT g s n)) 0 k)[k]? with
      | some m => addN (ordN (getR (ordT g s n)) 0 k) (getR (ordT g s n) m).2
      | none => ordN (getR (ordT g s n)) 0 k) = _
    by_cases z : k < (ordN g s k).length
    · obtain ⟨x, hx⟩ : ∃ x, (ordN g s k)[k]? = some x := ⟨_, List.getElem?_eq_getElem z⟩
      have nx := ordN_next hx
      obtain ⟨t, ht⟩ := ord_all R hs k
      have hx2 : (ordN g s n)[k]? = some x := by rw [← ht, List.getElem?_append_left z]; exact hx
      rw [ih, List.getElem?_range z]
      show addN (List.range (ordN g s k).length) (getR (ordT g s n) k).2 = _
      rw [ordT_at hx2, nx]
      rw [nx] at pre
      exact addN_idx (g x).2 (ordN g s k) pre
    · rw [ih, List.getElem?_eq_none (by simp; omega), ordN_up (by omega)]
theorem ord_more (R : RowsOk n g) (hs : s < n) {k : Nat} (hk : k < (ordT g s n).length) : k < (ordN g s k).length := by
  by_cases z : k < (ordN g s k).length
  · exact z
  · exfalso
    rw [ordT_len] at hk
    have hl : (ordN g s n).length = (ordN g s k).length := by
      by_cases y : k ≤ n
      · rw [ordN_stay (by omega) n y]
      · obtain ⟨h1, h2, _, _⟩ := ordN_ok R.ok hs n
        rw [ordN_stay (nd_lt h1 h2) k (by omega)]
    omega
theorem ord_full (R : RowsOk n g) (hs : s < n) : ordN (getR (ordT g s n)) 0 (ordT g s n).length = List.range (ordT g s n).length := by
  rw [ord_range R hs]
  congr 1
  have h1 := ord_all R hs (ordT g s n).length
  have h2 := h1.length_le
  have e0 := ordT_len (g := g) (s := s) (n := n)
  have hk : (ordN g s (ordT g s n).length).length = (ordT g s n).length := by
    by_cases z : (ordN g s (ordT g s n).length).length ≤ (ordT g s n).length - 1
    · exfalso
      have hp : 0 < (ordT g s n).length := ord_lt (ord_0 R hs)
      have := ord_more R hs (k := (ordT g s n).length - 1) (by omega)
      have l2 := (ordN_pre g s ((ordT g s n).length - 1) (ordT g s n).length (by omega)).length_le
      omega
    · omega
  exact hk
end
section
variable {rs : List TRow} {k : Nat}
theorem cls_bis (T : TabOk rs) (c : ndist (clsN rs (k + 1)) ≤ ndist (clsN rs k)) : Bis rs.length (NC rs (k + 1)) (getR rs) (gM rs (k + 1)) (fun i c => i < rs.length ∧ c = hC rs (k + 1) i) :=
  ⟨fun i c ⟨hi, e⟩ => ⟨hi, by rw [e]; exact hC_lt k hi⟩, fun i a ⟨hi, e⟩ => by rw [e, gM_at T c hi] <;> rfl, fun i a ⟨hi, e⟩ => by
    rw [e, gM_at T c hi]
    exact itR_map fun b hb => ⟨T.ro.ok i hi b hb, rfl⟩⟩
abbrev mL (rs : List TRow) (k : Nat) : List Nat := ordN (gM rs (k + 1)) (hC rs (k + 1) 0) (NC rs (k + 1))
theorem mrg_bis (T : TabOk rs) (h1 : 1 ≤ rs.length) (c : ndist (clsN rs (k + 1)) ≤ ndist (clsN rs k)) : Bis rs.length (mrgT rs k).length (getR rs) (getR (mrgT rs k)) (fun i j => ∃ y, (i < rs.length ∧ y = hC rs (k + 1) i) ∧ (mL rs k)[j]? = some y) :=
  (cls_bis T c).comp (ord_bis (gM_ok T c) (hC_lt k h1))
/-- it runs like the table that it is made of -/
theorem mrg_alike (T : TabOk rs) (h1 : 1 ≤ rs.length) (c : ndist (clsN rs (k + 1)) ≤ ndist (clsN rs k)) : Alike (mrgT rs k).length rs.length (getR (mrgT rs k)) (getR rs) 0 0 :=
  ⟨_, (mrg_bis T h1 c).flip, _, ⟨h1, rfl⟩, ord_0 (gM_ok T c) (hC_lt k h1)⟩
/-- no two of its rows are alike -/
theorem mrg_apart (T : TabOk rs) (h1 : 1 ≤ rs.length) (c : ndist (clsN rs (k + 1)) ≤ ndist (clsN rs k)) {a b : Nat} (h : Alike (mrgT rs k).length (mrgT rs k).length (getR (mrgT rs k)) (getR (mrgT rs k)) a b) : a = b := by
  obtain ⟨R, B, r⟩ := h
  have M := mrg_bis T h1 c
  have R0 := gM_ok T c
  have s0 := hC_lt k h1
  obtain ⟨ha, hb⟩ := B.lt _ _ r
  obtain ⟨x, hx⟩ := ord_ex (g := gM rs (k + 1)) (s := hC rs (k + 1) 0) (n := NC rs (k + 1)) ha
  obtain ⟨y, hy⟩ := ord_ex (g := gM rs (k + 1)) (s := hC rs (k + 1) 0) (n := NC rs (k + 1)) hb
  obtain ⟨i, hi, ei⟩ := hC_onto k (ord_c R0 s0 hx)
  obtain ⟨j, hj, ej⟩ := hC_onto k (ord_c R0 s0 hy)
  have e := coarse ((M.comp B).comp M.flip) (k + 1) i j ⟨b, ⟨a, ⟨x, ⟨hi, ei.symm⟩, hx⟩, r⟩, y, ⟨hj, ej.symm⟩, hy⟩
  rw [ei, ej] at e
  subst e
  exact ord_inj R0 s0 hx hy
theorem mrg_tv {rows : List Row} (tv : ∀ r ∈ rs, TV rows rs.length r) (h1 : 1 ≤ rs.length) (c : ndist (clsN rs (k + 1)) ≤ ndist (clsN rs k)) : ∀ r ∈ mrgT rs k, TV rows (mrgT rs k).length r := fun r hr => by
  have T := tabOk_of tv
  have R0 := gM_ok T c
  have s0 := hC_lt k h1
  obtain ⟨j, hj⟩ := List.getElem?_of_mem hr
  have lj : j < (mrgT rs k).length := (List.getElem?_eq_some_iff.mp hj).1
  have er : getR (mrgT rs k) j = r := by
    unfold getR
    rw [List.getD_eq_getElem?_getD, hj] <;> rfl
  obtain ⟨y, hy⟩ := ord_ex (g := gM rs (k + 1)) (s := hC rs (k + 1) 0) (n := NC rs (k + 1)) lj
  obtain ⟨i, hi, ei⟩ := hC_onto k (ord_c R0 s0 hy)
  have v := tv _ (getR_mem hi)
  have e1 : getR (mrgT rs k) j = renR (ixK (mL rs k)) (gM rs (k + 1) y) := ordT_at hy
  rw [← ei, gM_at T c hi] at e1
  rw [← er]
  refine ⟨by rw [e1]; exact v.pl, ?_, fun z hz => ?_⟩
  · rw [e1]
    show (((getR rs i).2.map _).map _).length = _
    rw [List.length_map, List.length_map]
    exact v.ln
  · have ok := (ord_ok R0 s0).ok j lj
    cases z with
    | inl b => exact .inl ⟨b, rfl, ok b hz⟩
    | inr s =>
      right
      rw [e1] at hz
      obtain ⟨z1, hz1, q1⟩ := List.mem_map.mp hz
      obtain ⟨z2, hz2, q2⟩ := List.mem_map.mp hz1
      cases z2 with
      | inl b =>
        rw [← q2] at q1
        cases q1
      | inr s2 =>
        rw [← q2] at q1
        have q1 : s2 = s := Sum.inr.inj q1
        subst q1
        rcases v.it _ hz2 with ⟨b, e, _⟩ | ⟨s3, e, h3⟩
        · cases e
        · cases e
          exact ⟨_, rfl, h3⟩
theorem mrg_pos (T : TabOk rs) (h1 : 1 ≤ rs.length) (c : ndist (clsN rs (k + 1)) ≤ ndist (clsN rs k)) : 1 ≤ (mrgT rs k).length := ord_lt (ord_0 (gM_ok T c) (hC_lt k h1))
theorem mrg_le (T : TabOk rs) (h1 : 1 ≤ rs.length) (c : ndist (clsN rs (k + 1)) ≤ ndist (clsN rs k)) : (mrgT rs k).length ≤ rs.length := by
  obtain ⟨a, b, _, _⟩ := ordN_ok (gM_ok T c).ok (hC_lt k h1) (NC rs (k + 1))
  have h := nd_lt a b
  have : NC rs (k + 1) ≤ rs.length := by
    have := dedK_le (clsN rs (k + 1))
    rw [clsN_len] at this
    exact this
  unfold mrgT
  rw [ordT_len]
  omega
end
/-- a table whose rows are all unlike, in the order of their first occurrence, is its own merged one -/
theorem mrg_same {rs : List TRow} {k : Nat} (T : TabOk rs) (h1 : 1 ≤ rs.length) (c : ndist (clsN rs (k + 1)) ≤ ndist (clsN rs k)) (ap : ∀ a b, Alike rs.length rs.length (getR rs) (getR rs) a b → a = b) (od : ordN (getR rs) 0 rs.length = List.range rs.length) : mrgT rs k = rs := by
  have inj : ∀ i j, i < rs.length → j < rs.length → hC rs (k + 1) i = hC rs (k + 1) j → i = j := fun i j hi hj e => by
    refine ap i j ⟨fun a b => a < rs.length ∧ b < rs.length ∧ hC rs (k + 1) a = hC rs (k + 1) b, ⟨fun a b ⟨x, y, _⟩ => ⟨x, y⟩, fun a b ⟨x, y, z⟩ => ?_, fun a b ⟨x, y, z⟩ => ?_⟩, hi, hj, e⟩
    · have q := congrArg Prod.fst (stable T c x y z)
      exact q
    · have e2 : (getR rs a).2.map (renI (hC rs (k + 1))) = (getR rs b).2.map (renI (hC rs (k + 1))) := congrArg (fun r : TRow => r.2) (stable T c x y z)
      have ba := T.ro.ok a x
      have bb := T.ro.ok b y
      generalize (getR rs a).2 = xs at e2 ba
      generalize (getR rs b).2 = ys at e2 bb
      induction xs generalizing ys with
      | nil =>
        cases ys with
        | nil => exact .nil
        | cons y ys => cases e2
      | cons x xs ih =>
        cases ys with
        | nil => cases e2
        | cons y ys =>
          rw [List.map_cons, List.map_cons] at e2
          injection e2 with q1 q2
          refine .cons ?_ (ih (fun b hb => ba b (List.mem_cons_of_mem _ hb)) (ys := ys) (e2 := q2) (bb := fun b hb => bb b (List.mem_cons_of_mem _ hb)))
          cases x with
          | inl x =>
            cases y with
            | inl y => exact ⟨ba x List.mem_cons_self, bb y List.mem_cons_self, Sum.inl.inj q1⟩
            | inr t => cases q1
          | inr s =>
            cases y with
            | inl y => cases q1
            | inr t => exact Sum.inr.inj q1
  have hid : ∀ i, i < rs.length → hC rs (k + 1) i = i := fun i hi => by
    have ka : ∀ j, j < rs.length → (keysM rs (clsN rs k))[j]? = some (keyM (clsN rs k) (hC rs k j) (getR rs j)) := fun j hj => keys_at k hj
    have nd : (keysM rs (clsN rs k)).Nodup := by
      refine List.pairwise_iff_getElem.mpr fun a b ha hb hab z => ?_
      rw [keys_len] at ha hb
      have qa := ka a ha
      have qb := ka b hb
      rw [List.getElem?_eq_getElem (by rw [keys_len]; exact ha)] at qa
      rw [List.getElem?_eq_getElem (by rw [keys_len]; exact hb)] at qb
      have qa := Option.some.inj qa
      have qb := Option.some.inj qb
      have : a = b := inj a b ha hb (by rw [hC_succ k ha, hC_succ k hb, ← qa, ← qb, z])
      omega
    rw [hC_succ k hi, ded_self nd]
    exact ix_getK nd (ka i hi)
  have hcl : clsN rs (k + 1) = List.range rs.length := by
    rw [← hC_range]
    refine List.ext_getElem? fun i => ?_
    rw [List.getElem?_map]
    by_cases hi : i < rs.length
    · rw [List.getElem?_range hi]
      exact congrArg some (hid i hi)
    · rw [List.getElem?_eq_none (by simp; omega)] <;> rfl
  have hnc : NC rs (k + 1) = rs.length := by
    unfold NC ndist
    rw [hcl, ded_self List.nodup_range, List.length_range]
  have ren : ∀ i, i < rs.length → renR (hC rs (k + 1)) (getR rs i) = getR rs i := fun i hi => by
    refine Prod.ext rfl ?_
    show (getR rs i).2.map (renI (hC rs (k + 1))) = (getR rs i).2
    have : (getR rs i).2.map (renI (hC rs (k + 1))) = (getR rs i).2.map id := List.map_congr_left fun y hy => by
      cases y with
      | inl b => exact congrArg Sum.inl (hid b (T.ro.ok i hi b hy))
      | inr s => rfl
    rw [this, List.map_id]
  have hg : ∀ i, i < rs.length → gM rs (k + 1) i = getR rs i := fun i hi => by
    have := gM_at T c hi
    rw [hid i hi] at this
    rw [this, ren i hi]
  have hord : ∀ j, ordN (gM rs (k + 1)) 0 j = ordN (getR rs) 0 j := by
    intro j
    induction j with
    | zero => rfl
    | succ j ih =>
      show (match (ordN (gM rs (k + 1)) 0 j)[j]? with
        | some m => addN (ordN (gM rs (k + 1)) 0 j) (gM rs (k + 1) m).2
        | none => ordN (gM rs (k + 1)) 0 j) = (match (ordN (getR rs) 0 j)[j]? with
        | some m => addN (ordN (getR rs) 0 j) (getR rs m).2
        | none => ordN (getR rs) 0 j)
      rw [ih]
      cases e : (ordN (getR rs) 0 j)[j]? with
      | none => rfl
      | some m =>
        have hm := (ordN_ok T.ro.ok h1 j).2.1 m (List.mem_of_getElem? e)
        dsimp only
        rw [hg m hm]
  unfold mrgT ordT
  rw [hnc, hid 0 h1, hord, od]
  refine List.ext_getElem? fun i => ?_
  rw [List.getElem?_map]
  by_cases hi : i < rs.length
  · rw [List.getElem?_range hi]
    show some (renR (fun b => (List.range rs.length).idxOf b) (gM rs (k + 1) i)) = rs[i]?
    rw [hg i hi]
    have e1 : renR (fun b => (List.range rs.length).idxOf b) (getR rs i) = getR rs i := by
      refine Prod.ext rfl ?_
      show (getR rs i).2.map (renI _) = (getR rs i).2
      have : (getR rs i).2.map (renI (fun b => (List.range rs.length).idxOf b)) = (getR rs i).2.map id := List.map_congr_left fun y hy => by
        cases y with
        | inl b =>
          have hb := T.ro.ok i hi b hy
          show Sum.inl ((List.range rs.length).idxOf b) = Sum.inl b
          rw [idx_ix, ix_getK List.nodup_range (List.getElem?_range hb)]
        | inr s => rfl
      rw [this, List.map_id]
    rw [e1]
    unfold getR
    rw [List.getD_eq_getElem?_getD, List.getElem?_eq_getElem hi] <;> rfl
  · rw [List.getElem?_eq_none (by simp; omega), List.getElem?_eq_none (by omega)] <;> rfl
/-- merging again changes nothing -/
theorem mrg_again {rows : List Row} {rs : List TRow} {k k' : Nat} (tv : ∀ r ∈ rs, TV rows rs.length r) (h1 : 1 ≤ rs.length) (c : ndist (clsN rs (k + 1)) ≤ ndist (clsN rs k)) (c' : ndist (clsN (mrgT rs k) (k' + 1)) ≤ ndist (clsN (mrgT rs k) k')) : mrgT (mrgT rs k) k' = mrgT rs k := by
  have T := tabOk_of tv
  exact mrg_same (tabOk_of (mrg_tv tv h1 c)) (mrg_pos T h1 c) c' (fun a b h => mrg_apart T h1 c h) (ord_full (gM_ok T c) (hC_lt k h1))
end Fc
set_option maxRecDepth 100000
set_option maxHeartbeats 4000000
namespace Fc
open PySem PySem.Spec PyProof.Rows L2 FcR
open Evl (Ex)
structure TwoOk (rs qs : List TRow) : Prop where
  a : RowsOk rs.length (getR rs)
  b : RowsOk qs.length (getR qs)
  ln : ∀ x y, x < rs.length → y < qs.length → (getR rs x).1 = (getR qs y).1 → (getR rs x).2.length = (getR qs y).2.length
abbrev AlikeT (rs qs : List TRow) (x y : Nat) : Prop := Alike rs.length qs.length (getR rs) (getR qs) x y
abbrev IP := Itm × Itm
def CovR (KL : List (Nat × Nat)) (pend : List IP) (u v : Itm) : Prop := (∃ s, u = .inr s ∧ v = .inr s) ∨ (∃ a b, u = .inl a ∧ v = .inl b ∧ (a, b) ∈ KL) ∨ (u, v) ∈ pend
structure Lg (rs qs : List TRow) (x0 y0 : Nat) (KL : List (Nat × Nat)) (pend : List IP) : Prop where
  nd : KL.Nodup
  inb : ∀ p ∈ KL, p.1 < rs.length ∧ p.2 < qs.length
  pl : ∀ p ∈ KL, (getR rs p.1).1 = (getR qs p.2).1
  cov : ∀ p ∈ KL, Paired (CovR KL pend) (getR rs p.1).2 (getR qs p.2).2
  st : CovR KL pend (.inl x0) (.inl y0)
  al : AlikeT rs qs x0 y0 → ∀ e ∈ pend, ItR (AlikeT rs qs) e.1 e.2
  ib : ∀ e ∈ pend, (∀ a, e.1 = .inl a → a < rs.length) ∧ (∀ b, e.2 = .inl b → b < qs.length)
section
variable {rs qs : List TRow} {x0 y0 : Nat} {KL : List (Nat × Nat)} {pend : List IP}
theorem Lg.len (L : Lg rs qs x0 y0 KL pend) : KL.length ≤ rs.length * qs.length := by
  have h := nodup_lenK (l' := (List.range rs.length).flatMap fun a => (List.range qs.length).map fun b => (a, b)) L.nd fun p hp => by
    obtain ⟨h1, h2⟩ := L.inb p hp
    exact List.mem_flatMap.mpr ⟨p.1, List.mem_range.mpr h1, List.mem_map.mpr ⟨p.2, List.mem_range.mpr h2, rfl⟩⟩
  have e : ((List.range rs.length).flatMap fun a => (List.range qs.length).map fun b => (a, b)).length = rs.length * qs.length := by
    rw [List.length_flatMap]
    simp [List.map_const', List.sum_replicate_nat]
  omega
theorem Lg.start (hx : x0 < rs.length) (hy : y0 < qs.length) : Lg rs qs x0 y0 [] [(.inl x0, .inl y0)] :=
  ⟨List.nodup_nil, (fun p hp => nomatch hp), (fun p hp => nomatch hp), (fun p hp => nomatch hp), .inr (.inr List.mem_cons_self), fun A e he => by
    rw [List.mem_singleton.mp he]
    exact A, fun e he => by
    rw [List.mem_singleton.mp he]
    exact ⟨(fun a h => by cases h; exact hx), (fun b h => by cases h; exact hy)⟩⟩
theorem alike_it {a b : Nat} (A : AlikeT rs qs a b) : (getR rs a).1 = (getR qs b).1 ∧ Paired (ItR (AlikeT rs qs)) (getR rs a).2 (getR qs b).2 := by
  obtain ⟨R, B, r⟩ := A
  refine ⟨B.pl _ _ r, paired_mono (fun u v h => ?_) (B.it _ _ r)⟩
  cases u <;> cases v
  · exact ⟨R, B, h⟩
  · exact h
  · exact h
  · exact h
/-- the pair at hand is covered -/
theorem Lg.drop {u v : Itm} (L : Lg rs qs x0 y0 KL ((u, v) :: pend)) (c : (∃ s, u = .inr s ∧ v = .inr s) ∨ ∃ a b, u = .inl a ∧ v = .inl b ∧ (a, b) ∈ KL) : Lg rs qs x0 y0 KL pend := by
  have key : ∀ a b, CovR KL ((u, v) :: pend) a b → CovR KL pend a b := fun a b h => by
    rcases h with h | h | h
    · exact .inl h
    · exact .inr (.inl h)
    · rcases List.mem_cons.mp h with h | h
      · cases h
        exact c.elim .inl fun c => .inr (.inl c)
      · exact .inr (.inr h)
  exact ⟨L.nd, L.inb, L.pl, fun p hp => paired_mono key (L.cov p hp), key _ _ L.st, fun A e he => L.al A e (List.mem_cons_of_mem _ he), fun e he => L.ib e (List.mem_cons_of_mem _ he)⟩
/-- a new pair is known -/
theorem Lg.add {a b : Nat} {new : List IP} (L : Lg rs qs x0 y0 KL ((.inl a, .inl b) :: pend)) (T : TwoOk rs qs) (nk : ¬ (a, b) ∈ KL) (pe : (getR rs a).1 = (getR qs b).1) (hn : ∀ e ∈ new, e ∈ pend ∨ (∃ s, e = (.inr s, .inr s)) ∨ ∃ i : Nat, (getR rs a).2[i]? = some e.1 ∧ (getR qs b).2[i]? = some e.2) (hp : ∀ e ∈ pend, e ∈ new) (hc : Paired (fun u v => (u, v) ∈ new) (getR rs a).2 (getR qs b).2) : Lg rs qs x0 y0 (KL ++ [(a, b)]) new := by
  obtain ⟨ia, ib⟩ := L.ib _ List.mem_cons_self
  have ha : a < rs.length := ia a rfl
  have hb : b < qs.length := ib b rfl
  have key : ∀ u v, CovR KL ((.inl a, .inl b) :: pend) u v → CovR (KL ++ [(a, b)]) new u v := fun u v h => by
    rcases h with h | ⟨c, d, h1, h2, h3⟩ | h
    · exact .inl h
    · exact .inr (.inl ⟨c, d, h1, h2, List.mem_append_left _ h3⟩)
    · rcases List.mem_cons.mp h with h | h
      · cases h
        exact .inr (.inl ⟨a, b, rfl, rfl, by simp⟩)
      · exact .inr (.inr (hp _ h))
  refine ⟨?_, fun p hp => ?_, fun p hp => ?_, fun p hp => ?_, key _ _ L.st, fun A e he => ?_, fun e he => ?_⟩
  · exact List.nodup_append.mpr ⟨L.nd, List.nodup_cons.mpr ⟨List.not_mem_nil, List.nodup_nil⟩, fun x hx y hy e => nk (by rw [List.mem_singleton.mp hy] at e; rw [← e]; exact hx)⟩
  · rcases List.mem_append.mp hp with hp | hp
    · exact L.inb p hp
    · rw [List.mem_singleton.mp hp]; exact ⟨ha, hb⟩
  · rcases List.mem_append.mp hp with hp | hp
    · exact L.pl p hp
    · rw [List.mem_singleton.mp hp]; exact pe
  · rcases List.mem_append.mp hp with hp | hp
    · exact paired_mono key (L.cov p hp)
    · rw [List.mem_singleton.mp hp]; exact paired_mono (fun u v h => .inr (.inr h)) hc
  · rcases hn e he with h | ⟨s, rfl⟩ | ⟨i, h1, h2⟩
    · exact L.al A e (List.mem_cons_of_mem _ h)
    · exact rfl
    · have A2 : AlikeT rs qs a b := L.al A _ List.mem_cons_self
      obtain ⟨z, e1, e2⟩ := paired_getP (alike_it A2).2 h2
      rw [h1] at e1
      cases e1
      exact e2
  · rcases hn e he with h | ⟨s, rfl⟩ | ⟨i, h1, h2⟩
    · exact L.ib e (List.mem_cons_of_mem _ h)
    · exact ⟨(fun a h => by cases h), (fun b h => by cases h)⟩
    · exact ⟨fun c h => T.a.ok a ha c (by rw [← h]; exact List.mem_of_getElem? h1), fun c h => T.b.ok b hb c (by rw [← h]; exact List.mem_of_getElem? h2)⟩
theorem Lg.done (L : Lg rs qs x0 y0 KL []) : AlikeT rs qs x0 y0 := by
  have key : ∀ u v, CovR KL [] u v → ItR (fun a b => (a, b) ∈ KL) u v := fun u v h => by
    rcases h with ⟨s, rfl, rfl⟩ | ⟨a, b, rfl, rfl, h⟩ | h
    · exact rfl
    · exact h
    · cases h
  exact ⟨fun a b => (a, b) ∈ KL, ⟨fun a b h => L.inb _ h, fun a b h => L.pl _ h, fun a b h => paired_mono key (L.cov _ h)⟩, key _ _ L.st⟩
/-- a table compared with itself -/
theorem two_self {rows : List Row} {rs qs : List TRow} (ta : ∀ r ∈ rs, TV rows rs.length r) (tb : ∀ r ∈ qs, TV rows qs.length r) : TwoOk rs qs :=
  ⟨(tabOk_of ta).ro, (tabOk_of tb).ro, fun x y hx hy e => by rw [(ta _ (getR_mem hx)).ln, (tb _ (getR_mem hy)).ln, e]⟩
end
end Fc
set_option maxRecDepth 100000
set_option maxHeartbeats 4000000
namespace Fc
open PySem PySem.Spec PyProof.Rows L2 FcR
open Evl (Ex)
abbrev WEnt := List Nat × Itm × Itm
def WaA (K : PySem.W.Frag) (H0 : Hp) (pw : Addr) (H : Hp) (t : Addr) (e : WEnt) : Prop := ∃ al, SqT K H t [.ref al, itV e.2.1, itV e.2.2] ∧ H al = some (.lst (intsV e.1)) ∧ H0 al = none ∧ al ≠ pw
abbrev keyP (p : Nat × Nat) : List Key := [.inl (p.1 : Int), .inl (p.2 : Int)]
abbrev kvK (KL : List (Nat × Nat)) : List (List Key × V) := KL.map fun p => (keyP p, V.bl true)
theorem keyP_inj {p q : Nat × Nat} (h : keyP p = keyP q) : p = q := by
  injection h with h1 h2
  injection h2 with h2 h3
  have h1 := Sum.inl.inj h1
  have h2 := Sum.inl.inj h2
  exact Prod.ext (by omega) (by omega)
theorem kvK_val : ∀ (KL : List (Nat × Nat)) (p : Nat × Nat), (valV (kvK KL) (keyP p)).isSome = decide (p ∈ KL)
  | [], p => rfl
  | q :: KL, p => by
    by_cases e : q = p
    · rw [show kvK (q :: KL) = (keyP q, V.bl true) :: kvK KL from rfl, valV_pos (congrArg keyP e), decide_eq_true (by rw [e]; exact List.mem_cons_self)] <;> rfl
    · rw [show kvK (q :: KL) = (keyP q, V.bl true) :: kvK KL from rfl, valV_neg (fun z => e (keyP_inj z)), kvK_val KL p]
      exact decide_eq_decide.mpr ⟨fun z => List.mem_cons_of_mem _ z, fun z => (List.mem_cons.mp z).resolve_left (Ne.symm e)⟩
theorem itV_inj : ∀ {a b : Itm}, itV a = itV b → a = b
  | .inl a, .inl b, h => by
    have h : V.int (a : Int) = .int (b : Int) := h
    cases h
    rfl
  | .inr _, .inr _, h => by
    injection h with h
    rw [h]
  | .inl _, .inr _, h => by cases h
  | .inr _, .inl _, h => by cases h
theorem paired_zip {α β : Type} {R : α → β → Prop} : ∀ {xs : List α} {ys : List β}, xs.length = ys.length → (∀ u v, (u, v) ∈ xs.zip ys → R u v) → Paired R xs ys
  | [], [], _, _ => .nil
  | x :: xs, y :: ys, e, h => .cons (h x y List.mem_cons_self) (paired_zip (by simpa using e) fun u v z => h u v (List.mem_cons_of_mem _ z))
structure SA46 (P : Program) (w : World) (K : PySem.W.Frag) (H0 : Hp) (pw pk : Addr) (H : Hp) (W : List WEnt) (KL : List (Nat × Nat)) : Prop where
  ex : Ex H0 H
  wa : ∃ wl : List Addr, H pw = some (.lst (wl.map V.ref)) ∧ Paired (WaA K H0 pw H) wl W
  k : ∃ XS ob, FcW.WD P w K H pk ob XS ∧ FcW.kvs XS = kvK KL
theorem SA46.fr {P : Program} {w : World} {K : PySem.W.Frag} {H0 H H' : Hp} {pw pk : Addr} {W : List WEnt} {KL : List (Nat × Nat)} (s : SA46 P w K H0 pw pk H W KL) (e : Ex H H') : SA46 P w K H0 pw pk H' W KL := by
  obtain ⟨wl, h1, h2⟩ := s.wa
  obtain ⟨XS, ob, h3, h4⟩ := s.k
  exact ⟨s.ex.trans e, ⟨wl, e _ _ h1, L2.Paired.mapP h2 fun _ _ ⟨al, a1, a2, a3, a4⟩ => ⟨al, Evl.ex_t e a1, e _ _ a2, a3, a4⟩⟩, XS, ob, ⟨e _ _ h3.1, fun x hx => Evl.ex_t e (h3.2 x hx)⟩, h4⟩
theorem SA46.push {P : Program} {w : World} {K : PySem.W.Frag} {H0 H H' : Hp} {pw pk al t : Addr} {W : List WEnt} {KL : List (Nat × Nat)} {ans : List Nat} {x y : Itm} {wl : List Addr} (s : SA46 P w K H0 pw pk H W KL) (n : H0 pw = none) (kw : pk ≠ pw) (h1 : H pw = some (.lst (wl.map V.ref))) (h2 : Paired (WaA K H0 pw H) wl W) (ht : SqT K H t [.ref al, itV x, itV y]) (ha : H al = some (.lst (intsV ans))) (na : H0 al = none) (nw : al ≠ pw) (e : H' pw = some (.lst (wl.map V.ref ++ [V.ref t]))) (o : ∀ b, b ≠ pw → H' b = H b) : SA46 P w K H0 pw pk H' (W ++ [(ans, x, y)]) KL := by
  obtain ⟨XS, ob, h3, h4⟩ := s.k
  have k : ∀ c ys, SqT K H c ys → SqT K H' c ys := fun c ys h => row_setL h h1 o
  refine ⟨fun b u eb => (o b (fun z => by rw [z, n] at eb; cases eb)).trans (s.ex _ _ eb), ⟨wl ++ [t], by rw [e, List.map_append] <;> rfl, ?_⟩, XS, ob, ⟨(o pk kw).trans h3.1, fun x hx => k _ _ (h3.2 x hx)⟩, h4⟩
  have key : ∀ {ts : List Addr} {rs : List WEnt}, Paired (WaA K H0 pw H') ts rs → Paired (WaA K H0 pw H') (ts ++ [t]) (rs ++ [(ans, x, y)]) := by
    intro ts rs h
    induction h with
    | nil => exact .cons ⟨al, k _ _ ht, (o al nw).trans ha, na, nw⟩ .nil
    | cons r t ih => exact .cons r ih
  exact key (L2.Paired.mapP h2 fun _ _ ⟨al, a1, a2, a3, a4⟩ => ⟨al, k _ _ a1, (o al a4).trans a2, a3, a4⟩)
theorem SA46.know {P : Program} {w : World} {K : PySem.W.Frag} {H0 H H' : Hp} {pw pk : Addr} {W : List WEnt} {KL : List (Nat × Nat)} {p : Nat × Nat} {b : Addr} {XS : List FcW.Ent} {ob ob' : Obj} (s : SA46 P w K H0 pw pk H W KL) (n : H0 pk = none) (kw : pk ≠ pw) (wd : FcW.WD P w K H pk ob XS) (ek : FcW.kvs XS = kvK KL) (nk : ¬ p ∈ KL) (hb : SqT K H b ((keyP p).map kV)) (e : H' pk = some (FcW.dW P w pk ob' (FcW.putW XS (keyP p) b (.bl true)))) (o : ∀ b, b ≠ pk → H' b = H b) : SA46 P w K H0 pw pk H' W (KL ++ [p]) := by
  obtain ⟨wl, h1, h2⟩ := s.wa
  have k : ∀ c ys, SqT K H c ys → SqT K H' c ys := fun c ys h => by
    rcases h with h | h
    · refine .inl ?_
      rcases h with h | ⟨q, h⟩
      · exact .inl (by rw [o c (fun z => by rw [z, wd.1] at h; cases h)]; exact h)
      · exact .inr ⟨q, by rw [o c (fun z => by rw [z, wd.1] at h; cases h)]; exact h⟩
    · exact .inr h
  refine ⟨fun b u eb => (o b (fun z => by rw [z, n] at eb; cases eb)).trans (s.ex _ _ eb), ⟨wl, (o pw (Ne.symm kw)).trans h1, L2.Paired.mapP h2 fun _ _ ⟨al, a1, a2, a3, a4⟩ => ⟨al, k _ _ a1, (o al (fun z => by rw [z, wd.1] at a2; cases a2)).trans a2, a3, a4⟩⟩, _, ob', ⟨e, FcW.keysT_put wd.2 hb k⟩, ?_⟩
  rw [FcW.kvs_put, ek]
  unfold putK
  have v := kvK_val KL p
  rw [decide_eq_false nk] at v
  rw [valV_any, v, if_neg (by decide)]
  show _ = List.map _ (KL ++ [p])
  rw [List.map_append] <;> rfl
def sp_apart (K : PySem.W.Frag) : Sp := fun vs H Q _ => ∃ (la lb : Addr) (ts us : List Addr) (rs qs : List TRow) (x y : Nat), vs = [.ref la, .int (x : Int), .ref lb, .int (y : Int)] ∧ H la = some (.lst (ts.map V.ref)) ∧ RowsAt K H ts rs ∧ H lb = some (.lst (us.map V.ref)) ∧ RowsAt K H us qs ∧ rs.length ≤ 200 ∧ qs.length ≤ 200 ∧ TwoOk rs qs ∧ x < rs.length ∧ y < qs.length ∧
  (AlikeT rs qs x y → ∀ H', Ex H H' → Q .non H') ∧ (¬ AlikeT rs qs x y → ∀ (H' : Hp) (a : Addr) (as : List Nat), Ex H H' → H a = none → H' a = some (.lst (intsV as)) → Q (.ref a) H')
section
variable {P : Program} {w : World} {h : Heap} {K : PySem.W.Frag} {mg : Str → Option Value} {base : Heap}
abbrev N_law_apart : List Str := ["_law_one", "_law_first", "_law_two", "_law_second", "_law_waiting", "_law_known", "_law_at", "_law_answers", "_law_here", "_law_there", "_law_row", "_law_other"]
theorem sc_law_apart : FnScope N_law_apart ["_law_one", "_law_first", "_law_two", "_law_second"] (defScope sd_law_apart) := ⟨rfl, rfl, rfl, by decide +kernel, rfl, by decide +kernel, by decide +kernel⟩
theorem ok_law_apart (T : Tx w h K mg) : Ok P w K mg base 6 ("_law_apart", none) ["_law_one", "_law_first", "_law_two", "_law_second"] (sp_apart K) := by
  obtain ⟨fd, F⟩ := F_law_apart T
  refine ⟨fd, ?_, F.bindsN (fun _ _ _ _ _ _ us hl => match us, hl with | [_, _, _, _], _ => rfl), F.kp⟩
  refine F.ok sc_law_apart (fun vs H Q E h => ?_) (fun cdv A outer s H vs Q E hr h => ?_)
  · obtain ⟨la, lb, ts, us, rs, qs, x0, y0, rfl, hla, RA, hlb, RB, rl, ql, TO, hx0, hy0, qN, qS⟩ := h
    rfl
  · obtain ⟨la, lb, ts, us, rs, qs, x0, y0, rfl, hla, RA, hlb, RB, rl, ql, TO, hx0, hy0, qN, qS⟩ := h
    refine ⟨_, PSs.nox (pss_cons (ps_par3 rfl sc_law_apart.nd (i := 4) (j := 5) (l := 6) rfl rfl rfl (by decide) (by decide) (by decide) rfl rfl rfl (pa_cons (pe_lst (pa_cons (pe_tup (pa_cons (pe_lst pa_nil) (pa_cons (pv 1) (pa_cons (pv 3) pa_nil)))) pa_nil)) (pa_cons FcW.pe_wnew (pa_cons pe_int pa_nil))) (by rfl)) (pss_cons (ps_while PassesOwn.never (pt_cmpR op_lt (pv 6) (pe_callB call_len_seq rfl (fr_len T) b_len (pa_cons (pv 4) pa_nil)) (nomark _)) (pss_cons (ps_asg (pe_ix ix_list (pv 4) (pv 6) (fun _ _ => rfl)) (pg_tup rfl (pgs_cons (pg_name (i := 7) sc_law_apart.nd rfl (Or.inl rfl)) (pgs_cons (pg_name (i := 8) sc_law_apart.nd rfl (Or.inl rfl)) (pgs_cons (pg_name (i := 9) sc_law_apart.nd rfl (Or.inl rfl)) pgs_nil))))) (pss_cons (ps_set (i := 6) sc_law_apart.nd rfl (Or.inl rfl) (pe_op op_add (pv 6) pe_int)) (pss_cons (ps_while PassesOwn.never (PW.pt (pw_and (pt_not (pt_val (pe_callB call_isi rfl (fr_isinstance T) b_isinstance (pa_cons (pv 8) (pa_cons (pe_bltn (v := .ty "str") rfl (fr_str T) b_str rfl) pa_nil))))) (pw_and (pt_not (pt_val (pe_callB call_isi rfl (fr_isinstance T) b_isinstance (pa_cons (pv 9) (pa_cons (pe_bltn (v := .ty "str") rfl (fr_str T) b_str rfl) pa_nil))))) (pw_and1 (pt_cmpR (FcW.op_notinW (hu_of hr)) (pe_tup (pa_cons (pv 8) (pa_cons (pv 9) pa_nil))) (pv 5) (by rfl)))))) (pss_cons (ps_asg pe_bl (pg_sub (pv 5) (pe_tup (pa_cons (pv 8) (pa_cons (pv 9) pa_nil))) (FcW.set_way (hu_of hr)))) (pss_cons (ps_par rfl sc_law_apart.nd (i := 10) (j := 11) rfl rfl (by decide) rfl rfl (pa_cons (pe_ix ix_list (pv 0) (pv 8) (fun _ _ => rfl)) (pa_cons (pe_ix ix_list (pv 2) (pv 9) (fun _ _ => rfl)) pa_nil)) (by rfl)) (pss_cons (ps_if (pt_cmpR op_ne (pe_ix ix_tup (pv 10) pe_int (fun _ _ => rfl)) (pe_ix ix_tup (pv 11) pe_int (fun _ _ => rfl)) (nomark _)) (pss_one (ps_ret (pv 7))) pss_nil) (pss_cons (ps_if (pt_cmpR op_eq (pe_callB call_len_seq rfl (fr_len T) b_len (pa_cons (pv 10) pa_nil)) pe_int (nomark _)) (pss_cons (ps_expr (pe_bm PySem.F.plainAttrs_list PySem.F.slot_list_append PySem.F.type_list_append mt_append (pv 4) (pa_cons (pe_tup (pa_cons (pe_op op_cat (pv 7) (pe_lst (pa_cons pe_int pa_nil))) (pa_cons (pe_ix ix_tup (pv 10) pe_int (fun _ _ => rfl)) (pa_cons (pe_ix ix_tup (pv 11) pe_int (fun _ _ => rfl)) pa_nil)))) pa_nil))) (pss_one (ps_expr (pe_bm PySem.F.plainAttrs_list PySem.F.slot_list_append PySem.F.type_list_append mt_append (pv 4) (pa_cons (pe_tup (pa_cons (pe_op op_cat (pv 7) (pe_lst (pa_cons pe_int pa_nil))) (pa_cons (pe_ix ix_tup (pv 10) pe_int (fun _ _ => rfl)) (pa_cons (pe_ix ix_tup (pv 11) pe_int (fun _ _ => rfl)) pa_nil)))) pa_nil))))) pss_nil) (pss_one (ps_asg (pe_ifExp (pt_cmpR op_eq (pe_callB call_len_seq rfl (fr_len T) b_len (pa_cons (pv 10) pa_nil)) pe_int (nomark _)) (pe_tup (pa_cons pe_str (pa_cons pe_str pa_nil))) (pe_tup (pa_cons (pe_ix ix_tup (pv 10) pe_int (fun _ _ => rfl)) (pa_cons (pe_ix ix_tup (pv 11) pe_int (fun _ _ => rfl)) pa_nil)))) (pg_tup rfl (pgs_cons (pg_name (i := 8) sc_law_apart.nd rfl (Or.inl rfl)) (pgs_cons (pg_name (i := 9) sc_law_apart.nd rfl (Or.inl rfl)) pgs_nil)))))))))) (pss_one (ps_if (PW.pt (pw_and (pt_cmpR op_ne (pv 8) (pv 9) (nomark _)) (pw_and1 (PW.pt (pw_or (pt_val (pe_callB call_isi rfl (fr_isinstance T) b_isinstance (pa_cons (pv 8) (pa_cons (pe_bltn (v := .ty "str") rfl (fr_str T) b_str rfl) pa_nil)))) (pw_or1 (pt_val (pe_callB call_isi rfl (fr_isinstance T) b_isinstance (pa_cons (pv 9) (pa_cons (pe_bltn (v := .ty "str") rfl (fr_str T) b_str rfl) pa_nil)))))))))) (pss_one (ps_ret (pv 7))) pss_nil)))))) (pss_one (ps_ret pe_non)))), ?_⟩
    refine ⟨sz (by simp), ?_⟩
    intro p1 n1
    generalize e1 : upd _ p1 _ = H1
    obtain ⟨x1, s1, o1⟩ := new_of e1 n1
    clear e1
    refine ⟨_, rfl, _, rfl, sz (by simp), ?_⟩
    intro p2 n2
    generalize e2 : upd _ p2 _ = H2
    obtain ⟨x2, s2, o2⟩ := new_of e2 n2
    clear e2
    refine ⟨sz (by simp), ?_⟩
    intro p3 n3
    generalize e3 : upd _ p3 _ = H3
    obtain ⟨x3, s3, o3⟩ := new_of e3 n3
    clear e3
    intro p4 ob4 n4
    generalize e4 : upd _ p4 _ = H4
    obtain ⟨x4, s4, o4⟩ := new_of e4 n4
    clear e4
    have n3H : H p3 = none := ex_none (x1.trans x2) n3
    have n4H : H p4 = none := ex_none (x1.trans (x2.trans x3)) n4
    have p13 : p1 ≠ p3 := fun z => by rw [← z, x2 _ _ s1] at n3; cases n3
    have p34 : p3 ≠ p4 := fun z => by rw [← z, s3] at n4; cases n4
    have sa4 : SA46 P w K H p3 p4 H4 [([], .inl x0, .inl y0)] [] := ⟨x1.trans (x2.trans (x3.trans x4)), ⟨[p2], x4 _ _ s3, .cons ⟨p1, SqT.of (x4 _ _ (x3 _ _ s2)), x4 _ _ (x3 _ _ (x2 _ _ s1)), n1, p13⟩ .nil⟩, [], ob4, ⟨s4, fun x hx => nomatch hx⟩, rfl⟩
    refine ⟨_, _, _, rfl, ?_⟩
    have NN : rs.length * qs.length ≤ 40000 := Nat.le_trans (Nat.mul_le_mul rl ql) (by decide)
    obtain ⟨N, hN⟩ : ∃ N, N = rs.length * qs.length := ⟨_, rfl⟩
    refine ⟨fun m σ' H' => ∃ (W : List WEnt) (KL : List (Nat × Nat)) (at_ : Nat) (o7 o8 o9 o10 o11 : Option V), σ' = [some (.ref la), some (.int (x0 : Int)), some (.ref lb), some (.int (y0 : Int)), some (.ref p3), some (.ref p4), some (.int (at_ : Int)), o7, o8, o9, o10, o11] ∧ SA46 P w K H p3 p4 H' W KL ∧ Lg rs qs x0 y0 KL ((W.drop at_).map (·.2)) ∧ m = 3 * (N - KL.length) + (W.length - at_) ∧ at_ ≤ W.length ∧ W.length ≤ 1 + 2 * KL.length ∧ ∀ e ∈ W, e.1.length ≤ KL.length,
      ⟨3 * N + 1, [([], .inl x0, .inl y0)], [], 0, none, none, none, none, none, rfl, sa4, Lg.start hx0 hy0, (by simp), Nat.zero_le _, (by simp), (fun e he => by rw [List.mem_singleton.mp he]; exact Nat.le_refl _)⟩, ?_⟩
    rintro m σ' H5 ⟨W, KL, at_, o7, o8, o9, o10, o11, rfl, sa, lg, hm, hat, hW, hans⟩
    have kln := lg.len
    rw [← hN] at kln
    obtain ⟨wl, hwl, wat⟩ := sa.wa
    have wll := paired_lenT wat
    refine ⟨_, rfl, _, rfl, p3, _, rfl, .inl (Evl.sq_of hwl), _, _, rfl, rfl, ?_⟩
    rw [List.length_map, wll]
    refine ⟨_, rfl, ite_of (fun c => ?_) (fun c => ?_)⟩
    rotate_left
    · have c : W.length ≤ at_ := by have := of_decide_eq_false c; omega
      rw [List.drop_eq_nil_of_le c] at lg
      exact qN lg.done _ sa.ex
    have c : at_ < W.length := by have := of_decide_eq_true c; omega
    refine ⟨fun σ' H' => ∃ m', m' < m ∧ ∃ (W : List WEnt) (KL : List (Nat × Nat)) (at_ : Nat) (o7 o8 o9 o10 o11 : Option V), σ' = [some (.ref la), some (.int (x0 : Int)), some (.ref lb), some (.int (y0 : Int)), some (.ref p3), some (.ref p4), some (.int (at_ : Int)), o7, o8, o9, o10, o11] ∧ SA46 P w K H p3 p4 H' W KL ∧ Lg rs qs x0 y0 KL ((W.drop at_).map (·.2)) ∧ m' = 3 * (N - KL.length) + (W.length - at_) ∧ at_ ≤ W.length ∧ W.length ≤ 1 + 2 * KL.length ∧ ∀ e ∈ W, e.1.length ≤ KL.length, fun σ' H' h => h, ?_⟩
    obtain ⟨e0, he0⟩ : ∃ e0, W[at_]? = some e0 := ⟨_, List.getElem?_eq_getElem c⟩
    have dr : W.drop at_ = e0 :: W.drop (at_ + 1) := by
      rw [List.drop_eq_getElem_cons c]
      rw [List.getElem?_eq_getElem c] at he0
      rw [Option.some.inj he0]
    rw [dr] at lg
    obtain ⟨t, ht, al, at1, at2, at3, at4⟩ := paired_getP wat he0
    obtain ⟨ans, u0, v0⟩ := e0
    have anl : ans.length ≤ KL.length := hans _ (List.mem_of_getElem? he0)
    refine ⟨_, rfl, _, rfl, p3, _, (at_ : Int), _, rfl, rfl, Evl.sq_of hwl, atI_nat (j := at_) (by rw [List.getElem?_map, ht] <;> rfl), t, _, rfl, at1, rfl, _, _, rfl, _, _, rfl, _, _, rfl, rfl, ?_⟩
    refine ⟨_, rfl, _, _, rfl, rfl, ?_⟩
    refine ⟨fun m2 σ' H' => ∃ (W : List WEnt) (KL : List (Nat × Nat)) (u v : Itm) (o10 o11 : Option V), σ' = [some (.ref la), some (.int (x0 : Int)), some (.ref lb), some (.int (y0 : Int)), some (.ref p3), some (.ref p4), some (.int ((at_ + 1 : Nat) : Int)), some (.ref al), some (itV u), some (itV v), o10, o11] ∧ SA46 P w K H p3 p4 H' W KL ∧ Lg rs qs x0 y0 KL ((u, v) :: (W.drop (at_ + 1)).map (·.2)) ∧ m2 + KL.length = N ∧ at_ + 1 ≤ W.length ∧ W.length ≤ 1 + 2 * KL.length ∧ (∀ e ∈ W, e.1.length ≤ KL.length) ∧ H' al = some (.lst (intsV ans)) ∧ 3 * (N - KL.length) + (W.length - (at_ + 1)) < m ∧ ans.length ≤ KL.length,
      ⟨N - KL.length, W, KL, u0, v0, o10, o11, rfl, sa, lg, by omega, by omega, hW, hans, at2, by omega, anl⟩, ?_⟩
    clear dr lg sa hwl wat wll hW hans hm hat c he0 kln ht at1 at2 anl
    rintro m2 σ' H6 ⟨W, KL, u, v, w10, w11, rfl, sa, lg, hm2, hat, hW, hans, hal, hmm, anl⟩
    have kln := lg.len
    rw [← hN] at kln
    have tyu : ∀ {J : Hp}, TyX K J (itV u) (.type (tyD (itD u))) := dp_ty (dp_it u)
    have tyv : ∀ {J : Hp}, TyX K J (itV v) (.type (tyD (itD v))) := dp_ty (dp_it v)
    refine ⟨_, rfl, itV u, .ty "str", _, _, _, rfl, .ty _, tyu, k_str _, ?_⟩
    have stop : (∀ a b, u = .inl a → v = .inl b → (a, b) ∈ KL) → (u = v ∨ isN u = true ∧ isN v = true) → Lg rs qs x0 y0 KL ((W.drop (at_ + 1)).map (·.2)) := fun hx h => lg.drop (by
      rcases h with h | ⟨h1, h2⟩
      · subst h
        cases u with
        | inl a => exact .inr ⟨a, a, rfl, rfl, hx a a rfl rfl⟩
        | inr s => exact .inl ⟨s, rfl, rfl⟩
      · cases u with
        | inr s => cases h1
        | inl a =>
          cases v with
          | inr s => cases h2
          | inl b => exact .inr ⟨a, b, rfl, rfl, hx a b rfl rfl⟩)
    have apart : ¬ (u = v ∨ isN u = true ∧ isN v = true) → ¬ AlikeT rs qs x0 y0 := fun h A => by
      have z := lg.al A _ List.mem_cons_self
      cases u with
      | inl a =>
        cases v with
        | inl b => exact h (.inr ⟨rfl, rfl⟩)
        | inr s => exact z
      | inr s =>
        cases v with
        | inl b => exact z
        | inr s2 => exact h (.inl (congrArg Sum.inr z))
    have alN : H al = none := at3
    cases u with
    | inr s =>
      refine ⟨_, rfl, ?_⟩
      have hx : ∀ a b, (Sum.inr s : Itm) = .inl a → v = .inl b → (a, b) ∈ KL := fun a b h => by cases h
      refine ⟨_, rfl, _, rfl, (by cases v <;> rfl), _, rfl, ?_⟩
      by_cases ee : (Sum.inr s : Itm) = v
      · rw [decide_eq_true (congrArg itV ee)]
        exact ⟨_, hmm, W, KL, at_ + 1, _, _, _, _, _, rfl, sa, stop hx (.inl ee), rfl, hat, hW, hans⟩
      · rw [decide_eq_false (fun z => ee (itV_inj z))]
        refine ⟨_, rfl, itV (.inr s), .ty "str", _, _, _, rfl, .ty _, tyu, k_str _, _, rfl, _, rfl, qS (apart (fun z => z.elim ee fun z => nomatch z.1)) _ al ans sa.ex alN hal⟩
    | inl a =>
      refine ⟨_, rfl, ?_⟩
      refine ⟨_, rfl, itV v, .ty "str", _, _, _, rfl, .ty _, tyv, k_str _, ?_⟩
      cases v with
      | inr s =>
        refine ⟨_, rfl, ?_⟩
        have hx : ∀ a' b, (Sum.inl a : Itm) = .inl a' → (Sum.inr s : Itm) = .inl b → (a', b) ∈ KL := fun a b _ h => by cases h
        refine ⟨_, rfl, _, rfl, rfl, _, rfl, ?_⟩
        by_cases ee : (Sum.inl a : Itm) = (Sum.inr s : Itm)
        · rw [decide_eq_true (congrArg itV ee)]
          exact ⟨_, hmm, W, KL, at_ + 1, _, _, _, _, _, rfl, sa, stop hx (.inl ee), rfl, hat, hW, hans⟩
        · rw [decide_eq_false (fun z => ee (itV_inj z))]
          refine ⟨_, rfl, itV (.inl a), .ty "str", _, _, _, rfl, .ty _, tyu, k_str _, _, rfl, _, rfl, itV (.inr s), .ty "str", _, _, _, rfl, .ty _, tyv, k_str _, _, rfl, _, rfl, qS (apart (fun z => z.elim ee fun z => nomatch z.2)) _ al ans sa.ex alN hal⟩
      | inl b =>
        refine ⟨_, rfl, ?_⟩
        refine ⟨_, rfl, _, rfl, sz (by simp), ?_⟩
        intro p7 n7
        generalize e7 : upd _ p7 _ = H7
        obtain ⟨x7, s7, o7⟩ := new_of e7 n7
        clear e7
        have sa7 := sa.fr x7
        obtain ⟨XS, ob, wd, ekv⟩ := sa7.k
        have sp7 : SqT K H7 p7 ((keyP (a, b)).map kV) := SqT.of s7
        refine ⟨_, rfl, p4, p7, ob, XS, keyP (a, b), rfl, rfl, wd, sp7, _, rfl, ?_⟩
        rw [ekv, kvK_val]
        by_cases e : (a, b) ∈ KL
        · rw [decide_eq_true e]
          have hx : ∀ a' b', (Sum.inl a : Itm) = .inl a' → (Sum.inl b : Itm) = .inl b' → (a', b') ∈ KL := fun a' b' h1 h2 => by cases h1; cases h2; exact e
          refine ⟨_, rfl, _, rfl, rfl, _, rfl, ?_⟩
          by_cases ee : (Sum.inl a : Itm) = (Sum.inl b : Itm)
          · rw [decide_eq_true (congrArg itV ee)]
            exact ⟨_, hmm, W, KL, at_ + 1, _, _, _, _, _, rfl, sa7, stop hx (.inl ee), rfl, hat, hW, hans⟩
          · rw [decide_eq_false (fun z => ee (itV_inj z))]
            exact ⟨_, rfl, itV (.inl a), .ty "str", _, _, _, rfl, .ty _, tyu, k_str _, _, rfl, _, rfl, itV (.inl b), .ty "str", _, _, _, rfl, .ty _, tyv, k_str _, _, rfl, _, hmm, W, KL, at_ + 1, _, _, _, _, _, rfl, sa7, stop hx (.inr ⟨rfl, rfl⟩), rfl, hat, hW, hans⟩
        · rw [decide_eq_false e]
          refine ⟨_, fun σ' H' h => h, ?_⟩
          refine ⟨_, rfl, _, rfl, _, rfl, sz (by simp), ?_⟩
          intro p8 n8
          generalize e8 : upd _ p8 _ = H8
          obtain ⟨x8, s8, o8⟩ := new_of e8 n8
          clear e8
          have sa8 := sa7.fr x8
          have wd8 : FcW.WD P w K H8 p4 ob XS := ⟨x8 _ _ wd.1, fun x hx => Evl.ex_t x8 (wd.2 x hx)⟩
          have sp8 : SqT K H8 p8 ((keyP (a, b)).map kV) := SqT.of s8
          have xsl : XS.length = KL.length := by
            have := congrArg List.length ekv
            unfold FcW.kvs at this
            rw [List.length_map, List.length_map] at this
            exact this
          refine ⟨p4, p8, ob, XS, keyP (a, b), rfl, rfl, wd8, sp8, szl (by omega), fun ob' => ?_⟩
          generalize e9 : upd _ p4 _ = H9
          obtain ⟨s9, o9⟩ := set_of e9
          clear e9
          have sa9 := sa8.know n4H (Ne.symm p34) wd8 ekv e sp8 s9 o9
          have hal9 : H9 al = some (.lst (intsV ans)) := (o9 al (fun z => by have h8 := x8 _ _ (x7 _ _ hal); rw [z, wd8.1] at h8; cases h8)).trans (x8 _ _ (x7 _ _ hal))
          obtain ⟨iba, ibb⟩ := lg.ib _ List.mem_cons_self
          have la' : a < rs.length := iba a rfl
          have lb' : b < qs.length := ibb b rfl
          obtain ⟨ta, hta, rta⟩ := paired_getT RA la'
          obtain ⟨tb, htb, rtb⟩ := paired_getT RB lb'
          have rta9 := Evl.ex_t sa9.ex rta
          have rtb9 := Evl.ex_t sa9.ex rtb
          refine ⟨_, rfl, _, rfl, la, _, (a : Int), _, rfl, rfl, Evl.sq_of (sa9.ex _ _ hla), atI_nat (j := a) (by rw [List.getElem?_map, hta] <;> rfl), _, rfl, _, rfl, lb, _, (b : Int), _, rfl, rfl, Evl.sq_of (sa9.ex _ _ hlb), atI_nat (j := b) (by rw [List.getElem?_map, htb] <;> rfl), _, _, rfl, ?_⟩
          refine ⟨_, rfl, ta, _, _, _, rfl, rfl, rta9, atI_nat (j := 0) rfl, _, rfl, tb, _, _, _, rfl, rfl, rtb9, atI_nat (j := 0) rfl, rfl, _, rfl, ?_⟩
          by_cases pe : (getR rs a).1 = (getR qs b).1
          rotate_left
          · rw [decide_eq_false (fun z : V.int ((getR rs a).1 : Int) = .int ((getR qs b).1 : Int) => pe (by injection z with z; omega))]
            exact ⟨_, rfl, qS (fun A => pe (alike_it (lg.al A _ List.mem_cons_self)).1) _ al ans sa9.ex alN hal9⟩
          rw [decide_eq_true (congrArg (fun n : Nat => V.int (n : Int)) pe)]
          have hln := TO.ln a b la' lb' pe
          have rne := TO.a.ne a la'
          have rle := TO.a.le a la'
          have new2 : ∀ {new : List IP}, (∀ e ∈ new, e ∈ (W.drop (at_ + 1)).map (·.2) ∨ (∃ s, e = (.inr s, .inr s)) ∨ ∃ i : Nat, (getR rs a).2[i]? = some e.1 ∧ (getR qs b).2[i]? = some e.2) → (∀ e ∈ (W.drop (at_ + 1)).map (·.2), e ∈ new) → Paired (fun u v => (u, v) ∈ new) (getR rs a).2 (getR qs b).2 → Lg rs qs x0 y0 (KL ++ [(a, b)]) new := fun h1 h2 h3 => lg.add TO e pe h1 h2 h3
          have kl1 : (KL ++ [(a, b)]).length = KL.length + 1 := by simp
          have kl2 : KL.length + 1 ≤ N := by
            have h := (new2 (new := (.inr "asked", .inr "asked") :: ((W.drop (at_ + 1)).map (·.2) ++ (getR rs a).2.zip (getR qs b).2)) (fun e he => by
              rcases List.mem_cons.mp he with h | h
              · exact .inr (.inl ⟨_, h⟩)
              · rcases List.mem_append.mp h with h | h
                · exact .inl h
                · obtain ⟨i, hi⟩ := List.getElem?_of_mem h
                  exact .inr (.inr ⟨i, List.getElem?_zip_eq_some.mp hi⟩)) (fun e he => List.mem_cons_of_mem _ (List.mem_append_left _ he)) (paired_zip hln fun u v h => List.mem_cons_of_mem _ (List.mem_append_right _ h))).len
            rw [kl1, ← hN] at h
            exact h
          have elen : (rowV (getR rs a)).length = 1 + (getR rs a).2.length := by simp [rowV]; omega
          obtain ⟨wl, hwl, wat⟩ := sa9.wa
          have two : (getR rs a).2.length = 1 ∨ (getR rs a).2.length = 2 := by
            have := List.length_pos_iff.mpr rne
            omega
          rcases two with two | two
          · obtain ⟨r1, er⟩ := len_one two
            obtain ⟨q1, eq⟩ := len_one (hln.symm.trans two)
            have vr : rowV (getR rs a) = [.int ((getR rs a).1 : Int), itV r1] := by unfold rowV; rw [er] <;> rfl
            have vq : rowV (getR qs b) = [.int ((getR qs b).1 : Int), itV q1] := by unfold rowV; rw [eq] <;> rfl
            have rta9 : SqT K H9 ta (rowV (getR rs a)) := rta9
            have rtb9 : SqT K H9 tb (rowV (getR qs b)) := rtb9
            rw [vr] at rta9
            rw [vq] at rtb9
            refine ⟨_, rfl, ta, _, rfl, .inr rta9, rfl, _, rfl, itF rfl ?_⟩
            refine ⟨_, rfl, ta, _, rfl, .inr rta9, rfl, _, rfl, itF rfl ?_⟩
            refine ⟨_, rfl, ta, _, _, _, rfl, rfl, rta9, atI_nat (j := 1) rfl, _, rfl, tb, _, _, _, rfl, rfl, rtb9, atI_nat (j := 1) rfl, sz (by simp), ?_⟩
            intro p10 n10
            generalize e10 : upd _ p10 _ = H10
            obtain ⟨x10, s10, o10⟩ := new_of e10 n10
            clear e10
            refine ⟨p10, _, rfl, SqT.of s10, rfl, _, _, rfl, _, _, rfl, rfl, ?_⟩
            refine ⟨m2 - 1, by omega, W, KL ++ [(a, b)], r1, q1, _, _, rfl, sa9.fr x10, new2 (fun e he => ?_) (fun e he => List.mem_cons_of_mem _ he) ?_, by omega, hat, by omega, fun e he => by have := hans e he; omega, x10 _ _ hal9, by omega, by omega⟩
            · rcases List.mem_cons.mp he with h | h
              · exact .inr (.inr ⟨0, by rw [er, h] <;> rfl, by rw [eq, h] <;> rfl⟩)
              · exact .inl h
            · rw [er, eq]
              exact .cons List.mem_cons_self .nil
          · obtain ⟨r1, r2, er⟩ := len_two two
            obtain ⟨q1, q2, eq⟩ := len_two (hln.symm.trans two)
            have vr : rowV (getR rs a) = [.int ((getR rs a).1 : Int), itV r1, itV r2] := by unfold rowV; rw [er] <;> rfl
            have vq : rowV (getR qs b) = [.int ((getR qs b).1 : Int), itV q1, itV q2] := by unfold rowV; rw [eq] <;> rfl
            have rta9 : SqT K H9 ta (rowV (getR rs a)) := rta9
            have rtb9 : SqT K H9 tb (rowV (getR qs b)) := rtb9
            rw [vr] at rta9
            rw [vq] at rtb9
            refine ⟨_, rfl, ta, _, rfl, .inr rta9, rfl, _, rfl, itT rfl ?_⟩
            have wll := paired_lenT wat
            have e3H : ∀ {b : Addr} {o : HO}, H b = some o → b ≠ p3 := fun {b o} h z => by rw [z, n3H] at h; cases h
            -- the first one
            refine ⟨_, rfl, .inl ⟨rfl, _, Evl.sq_of hwl⟩, _, rfl, sz (by simp), ?_⟩
            intro p10 n10
            generalize e10 : upd _ p10 _ = H10
            obtain ⟨x10, s10, o10⟩ := new_of e10 n10
            clear e10
            refine ⟨al, p10, _, _, rfl, rfl, x10 _ _ hal9, s10, szl (by simp [intsV]; omega), ?_⟩
            intro p11 n11
            generalize e11 : upd _ p11 _ = H11
            obtain ⟨x11, s11, o11⟩ := new_of e11 n11
            clear e11
            have x911 := x10.trans x11
            refine ⟨_, rfl, ta, _, _, _, rfl, rfl, Evl.ex_t x911 rta9, atI_nat (j := 1) rfl, _, rfl, tb, _, _, _, rfl, rfl, Evl.ex_t x911 rtb9, atI_nat (j := 1) rfl, sz (by simp), ?_⟩
            intro p12 n12
            generalize e12 : upd _ p12 _ = H12
            obtain ⟨x12, s12, o12⟩ := new_of e12 n12
            clear e12
            have x912 := x911.trans x12
            have hw12 := x912 _ _ hwl
            have n11H : H p11 = none := ex_none sa9.ex (ex_none x10 n11)
            have p113 : p11 ≠ p3 := fun z => by rw [z, x10 _ _ hwl] at n11; cases n11
            refine ⟨p3, _, _, rfl, rfl, hw12, szl (by rw [List.length_map]; omega), ?_⟩
            generalize e13 : upd _ p3 _ = H13
            obtain ⟨s13, o13⟩ := set_of e13
            clear e13
            have s11' : H12 p11 = some (.lst (intsV (ans ++ [0]))) := by rw [x12 _ _ s11]; unfold intsV; rw [List.map_append] <;> rfl
            have wat12 := L2.Paired.mapP wat fun _ _ ⟨al, a1, a2, a3, a4⟩ => (⟨al, Evl.ex_t x912 a1, x912 _ _ a2, a3, a4⟩ : WaA K H p3 H12 _ _)
            have sa13 := (sa9.fr x912).push n3H (Ne.symm p34) hw12 wat12 (SqT.of s12) s11' n11H p113 s13 o13
            -- the second one
            obtain ⟨wl2, hwl2, wat2⟩ := sa13.wa
            have wll2 := paired_lenT wat2
            have hal13 : H13 al = some (.lst (intsV ans)) := (o13 al at4).trans (x912 _ _ hal9)
            refine ⟨_, rfl, .inl ⟨rfl, _, Evl.sq_of hwl2⟩, _, rfl, sz (by simp), ?_⟩
            intro p14 n14
            generalize e14 : upd _ p14 _ = H14
            obtain ⟨x14, s14, o14⟩ := new_of e14 n14
            clear e14
            refine ⟨al, p14, _, _, rfl, rfl, x14 _ _ hal13, s14, szl (by simp [intsV]; omega), ?_⟩
            intro p15 n15
            generalize e15 : upd _ p15 _ = H15
            obtain ⟨x15, s15, o15⟩ := new_of e15 n15
            clear e15
            have x1315 := x14.trans x15
            have rta13 : SqT K H13 ta [.int ((getR rs a).1 : Int), itV r1, itV r2] := row_setL (Evl.ex_t x912 rta9) hw12 o13
            have rtb13 : SqT K H13 tb [.int ((getR qs b).1 : Int), itV q1, itV q2] := row_setL (Evl.ex_t x912 rtb9) hw12 o13
            refine ⟨_, rfl, ta, _, _, _, rfl, rfl, Evl.ex_t x1315 rta13, atI_nat (j := 2) rfl, _, rfl, tb, _, _, _, rfl, rfl, Evl.ex_t x1315 rtb13, atI_nat (j := 2) rfl, sz (by simp), ?_⟩
            intro p16 n16
            generalize e16 : upd _ p16 _ = H16
            obtain ⟨x16, s16, o16⟩ := new_of e16 n16
            clear e16
            have x1316 := x1315.trans x16
            have hw16 := x1316 _ _ hwl2
            have n15H : H p15 = none := ex_none sa13.ex (ex_none x14 n15)
            have p153 : p15 ≠ p3 := fun z => by rw [z, x14 _ _ hwl2] at n15; cases n15
            refine ⟨p3, _, _, rfl, rfl, hw16, szl (by rw [List.length_map, wll2, List.length_append, List.length_singleton]; omega), ?_⟩
            generalize e17 : upd _ p3 _ = H17
            obtain ⟨s17, o17⟩ := set_of e17
            clear e17
            have s15' : H16 p15 = some (.lst (intsV (ans ++ [1]))) := by rw [x16 _ _ s15]; unfold intsV; rw [List.map_append] <;> rfl
            have wat16 := L2.Paired.mapP wat2 fun _ _ ⟨al, a1, a2, a3, a4⟩ => (⟨al, Evl.ex_t x1316 a1, x1316 _ _ a2, a3, a4⟩ : WaA K H p3 H16 _ _)
            have sa17 := (sa13.fr x1316).push n3H (Ne.symm p34) hw16 wat16 (SqT.of s16) s15' n15H p153 s17 o17
            have rta17 : SqT K H17 ta [.int ((getR rs a).1 : Int), itV r1, itV r2] := row_setL (Evl.ex_t x1316 rta13) hw16 o17
            refine ⟨_, rfl, ta, _, rfl, .inr rta17, rfl, _, rfl, itT rfl ?_⟩
            refine ⟨sz (by simp), ?_⟩
            intro p18 n18
            generalize e18 : upd _ p18 _ = H18
            obtain ⟨x18, s18, o18⟩ := new_of e18 n18
            clear e18
            refine ⟨p18, _, rfl, SqT.of s18, rfl, _, _, rfl, _, _, rfl, rfl, ?_⟩
            have hal18 : H18 al = some (.lst (intsV ans)) := x18 _ _ ((o17 al at4).trans (x1316 _ _ hal13))
            have wlen : (W ++ [(ans ++ [0], r1, q1)] ++ [(ans ++ [1], r2, q2)]).length = W.length + 2 := by simp
            have dr : ((W ++ [(ans ++ [0], r1, q1)] ++ [(ans ++ [1], r2, q2)]).drop (at_ + 1)).map (fun e : WEnt => e.2) = (W.drop (at_ + 1)).map (fun e : WEnt => e.2) ++ [(r1, q1), (r2, q2)] := by
              rw [List.append_assoc, List.drop_append_of_le_length hat, List.map_append] <;> rfl
            refine ⟨m2 - 1, by omega, W ++ [(ans ++ [0], r1, q1)] ++ [(ans ++ [1], r2, q2)], KL ++ [(a, b)], .inr "asked", .inr "asked", _, _, rfl, sa17.fr x18, ?_, by omega, by omega, by omega, fun e he => ?_, hal18, by omega, by omega⟩
            · rw [dr]
              refine new2 (fun e he => ?_) (fun e he => List.mem_cons_of_mem _ (List.mem_append_left _ he)) ?_
              · rcases List.mem_cons.mp he with h | h
                · exact .inr (.inl ⟨_, h⟩)
                · rcases List.mem_append.mp h with h | h
                  · exact .inl h
                  · rcases List.mem_cons.mp h with h | h
                    · exact .inr (.inr ⟨0, by rw [er, h] <;> rfl, by rw [eq, h] <;> rfl⟩)
                    · rw [List.mem_singleton.mp h]
                      exact .inr (.inr ⟨1, by rw [er] <;> rfl, by rw [eq] <;> rfl⟩)
              · rw [er, eq]
                exact .cons (List.mem_cons_of_mem _ (List.mem_append_right _ List.mem_cons_self)) (.cons (List.mem_cons_of_mem _ (List.mem_append_right _ (List.mem_cons_of_mem _ List.mem_cons_self))) .nil)
            · rcases List.mem_append.mp he with he | he
              · rcases List.mem_append.mp he with he | he
                · have := hans e he; omega
                · rw [List.mem_singleton.mp he, kl1]; show (ans ++ [0]).length ≤ _; rw [List.length_append, List.length_singleton]; omega
              · rw [List.mem_singleton.mp he, kl1]; show (ans ++ [1]).length ≤ _; rw [List.length_append, List.length_singleton]; omega
end
end Fc
set_option maxRecDepth 100000
set_option maxHeartbeats 4000000
namespace Fc
open PySem PySem.Spec PyProof.Rows L2 FcR
open Evl (Ex)
def sp_kind (K : PySem.W.Frag) : Sp := fun vs H Q _ => ∃ (F : Hp) (A : CAd) (rows : List Row) (n : Nat) (r : Row), vs = [.ref A.p, .int (n : Int)] ∧ CodeH K F F A rows ∧ Ex F H ∧ rows[n]? = some r ∧ Q (.str (kindD r.d)) H
section
variable {P : Program} {w : World} {h : Heap} {K : PySem.W.Frag} {mg : Str → Option Value} {base : Heap}
abbrev N_Code_kind : List Str := ["self", "number"]
theorem sc_Code_kind : FnScope N_Code_kind ["self", "number"] (defScope sd_Code_kind) := ⟨rfl, rfl, rfl, by decide +kernel, rfl, by decide +kernel, by decide +kernel⟩
theorem okF_Code_kind (T : Tx w h K mg) : ∃ fd, FnOk P w K mg base (CX P w) 4 (He.fAd K ("Code", some "kind")) fd ["self", "number"] (sp_kind K) ∧ Binds K fd ["self", "number"] [] ∧ PySem.W.keepIn K (.ref (He.fAd K ("Code", some "kind"))) = true ∧ FunD K "kind" "Code.kind" (defArgs sd_Code_kind) (defBody sd_Code_kind) (defScope sd_Code_kind) [] [] (He.fAd K ("Code", some "kind")) fd := by
  obtain ⟨fd, F⟩ := F_Code_kind T
  refine ⟨fd, ?_, F.bindsN (fun _ _ _ _ _ _ us hl => match us, hl with | [_, _], _ => rfl), F.kp, F⟩
  obtain ⟨fd_Code_check_number, G_Code_check_number, bi_Code_check_number, kp_Code_check_number⟩ := ok_Code_check_number (P := P) (base := base) T
  refine F.ok sc_Code_kind (fun vs H Q E h => ?_) (fun cdv A outer s H vs Q E hr h => ?_)
  · obtain ⟨F, A, rows, n, r, rfl, C, xF, hw, q⟩ := h
    rfl
  · obtain ⟨F, A, rows, n, r, rfl, C, xF, hw, q⟩ := h
    refine ⟨_, PSs.nox (pss_cons (ps_expr (pe_meth (pv 0) (c_Code T) (me_Code_check_number T) G_Code_check_number (hr.mono (by decide)) bi_Code_check_number .nil passF (pa_cons (pv 1) pa_nil))) (pss_one (ps_ret (pe_ix ix_list (pe_fld (pv 0) rfl) (pv 1) (fun _ _ => rfl))))), ?_⟩
    obtain ⟨vs, C1, _⟩ := C.ex (Evl.Ex.refl _) xF
    refine ⟨_, rfl, A.p, _, _, rfl, C1.ob, fm_Code_check_number _ _ _ _ _, _, rfl, F, A, rows, n, rfl, C, xF, (List.getElem?_eq_some_iff.mp hw).1, ?_⟩
    refine ⟨_, rfl, A.p, _, _, _, _, rfl, C1.ob, c_Code T, na_Code_kinds T, fl_Code_kinds _ _ _ _ _, _, rfl, A.a2, _, _, .str (kindD r.d), rfl, rfl, Evl.sq_of C1.h2, atI_nat (by rw [List.getElem?_map, hw] <;> rfl), q⟩
theorem ok_Code_kind (T : Tx w h K mg) : Ok P w K mg base 4 ("Code", some "kind") ["self", "number"] (sp_kind K) := by
  obtain ⟨fd, a, b, c, _⟩ := okF_Code_kind (P := P) (base := base) T
  exact ⟨fd, a, b, c⟩
end
end Fc
set_option maxRecDepth 100000
set_option maxHeartbeats 4000000
namespace Fc
open PySem PySem.Spec PyProof.Rows L2 FcR
open Evl (Ex)
def faultI (n deep loops blocks : Int) (d : PyData) : Option (Str × Str × Int) := if 400 ≤ n then some ("LimitExceeded", "limit", 400) else if 100 < deep then some ("LimitExceeded", "limit", 100) else if 25 < blocks then some ("LimitExceeded", "limit", 25) else if isStm d loops = true then none else some ("InvalidCode", "number", n)
def fault (it : WIt) (n : Nat) : Option (Str × Str × Int) := faultI (n : Int) (it.deep : Int) (it.loops : Int) (it.blocks : Int) it.d
inductive Fails : Nat → List WIt → List Row → (Str × Str × Int) → Prop
  | now {it : WIt} {st : List WIt} {rows : List Row} {f : Str × Str × Int} (h : fault it rows.length = some f) : Fails 0 (it :: st) rows f
  | step {n : Nat} {it : WIt} {st : List WIt} {rows : List Row} {f : Str × Str × Int} (ok : okIt it rows.length) (hl : (newIts it rows.length ++ st).length ≤ 50000) (h : Fails n (newIts it rows.length ++ st) (addRow rows it.d it.par) f) : Fails (n + 1) (it :: st) rows f
section
variable {P : Program} {w : World} {h : Heap} {K : PySem.W.Frag} {mg : Str → Option Value} {base : Heap}
end
end Fc
set_option maxRecDepth 100000
set_option maxHeartbeats 4000000
namespace Fc
open PySem PySem.Spec PyProof.Rows L2 FcR
open Evl (Ex)
inductive OkS : Nat → Nat → Nat → Nat → PyData → Prop
  | mk {loops deep blocks : Nat} {d : PyData} (wt : Nat → Nat) (st : isStm d (loops : Int) = true) (hd : deep ≤ 100) (hb : blocks ≤ 25) (ps : ∀ i p, (partsD d)[i]? = some p → OkS (loops + wl d) (deep + 1) (blocks + (if kindD d = "final" ∧ i = 1 then 1 else 0)) (wt i) p) : OkS loops deep blocks (1 + ((List.range (partsD d).length).map wt).sum) d
inductive OkL : List WIt → Nat → Prop
  | nil : OkL [] 0
  | cons {it : WIt} {st : List WIt} {w n : Nat} (h : OkS it.loops it.deep it.blocks w it.d) (r : OkL st n) : OkL (it :: st) (w + n)
theorem OkL.app {b : List WIt} {y : Nat} (hb : OkL b y) : ∀ {a : List WIt} {x : Nat}, OkL a x → OkL (a ++ b) (x + y)
  | _, _, .nil => by rw [Nat.zero_add]; exact hb
  | _, _, .cons h r => by rw [Nat.add_assoc]; exact .cons h (OkL.app hb r)
theorem okL_parts {it : WIt} {n : Nat} : ∀ (ps : List PyData) (k : Nat) (wt : Nat → Nat), (∀ i p, ps[i]? = some p → OkS (it.loops + wl it.d) (it.deep + 1) (it.blocks + (if kindD it.d = "final" ∧ k + i = 1 then 1 else 0)) (wt i) p) → OkL (ps.mapIdx fun i p => newIt it n (k + i) p) (((List.range ps.length).map wt).sum)
  | [], _, _, _ => .nil
  | p :: ps, k, wt, h => by
    rw [List.mapIdx_cons, List.length_cons, List.range_succ_eq_map, List.map_cons, List.sum_cons, List.map_map]
    refine .cons (h 0 p rfl) ?_
    have z := okL_parts (it := it) (n := n) ps (k + 1) (fun i => wt (i + 1)) fun i q hq => by
      have y := h (i + 1) q (by simpa using hq)
      have e : k + (i + 1) = k + 1 + i := by omega
      rw [e] at y
      exact y
    have e2 : (ps.mapIdx fun i p => newIt it n (k + (i + 1)) p) = ps.mapIdx fun i p => newIt it n (k + 1 + i) p := by
      congr 1
      funext i p
      rw [show k + (i + 1) = k + 1 + i by omega]
    rw [e2]
    exact z
theorem builds_of : ∀ (N : Nat) (st : List WIt) (rows : List Row), OkL st N → rows.length + N ≤ 400 → ∃ fin, Builds N st rows fin ∧ fin.length = rows.length + N := by
  intro N
  induction N with
  | zero =>
    intro st rows h _
    have : st = [] := by
      generalize e : 0 = z at h
      cases h with
      | nil => rfl
      | cons h r => cases h; omega
    subst this
    exact ⟨rows, .done rows, rfl⟩
  | succ N ih =>
    intro st rows h hl
    generalize e : N + 1 = z at h
    cases h with
    | nil => cases e
    | @cons it st w n h r =>
      obtain ⟨d, par, deep, loops, blocks⟩ := it
      dsimp only at h
      cases h with
      | mk wt s1 s2 s3 s4 =>
        have nw : OkL (newIts ⟨d, par, deep, loops, blocks⟩ rows.length) (((List.range (partsD d).length).map wt).sum) := by
          have z := okL_parts (it := ⟨d, par, deep, loops, blocks⟩) (n := rows.length) (partsD d) 0 wt fun i p hp => by
            rw [Nat.zero_add]
            exact s4 i p hp
          have e2 : ((partsD d).mapIdx fun i p => newIt ⟨d, par, deep, loops, blocks⟩ rows.length (0 + i) p) = newIts ⟨d, par, deep, loops, blocks⟩ rows.length := by
            unfold newIts
            congr 1
            funext i p
            rw [Nat.zero_add]
          rw [e2] at z
          exact z
        have eN : ((List.range (partsD d).length).map wt).sum + n = N := by omega
        have nw2 := OkL.app r nw
        rw [eN] at nw2
        obtain ⟨fin, b, l⟩ := ih _ (addRow rows d par) nw2 (by rw [addRow_len]; omega)
        have eZ : 1 + ((List.range (partsD d).length).map wt).sum + n = N + 1 := by omega
        rw [eZ]
        exact ⟨fin, .step ⟨by omega, s2, s3, s1⟩ b, by rw [l, addRow_len]; omega⟩
end Fc
set_option maxRecDepth 100000
set_option maxHeartbeats 4000000
namespace Fc
open PySem PySem.Spec PyProof.Rows L2 FcR
open Evl (Ex)
def FailsL (st : List WIt) (n : Nat) (f : Str × Str × Int) : Prop := ∀ rows : List Row, rows.length = n → ∃ N, Fails N st rows f
/-- whatever waits behind it, the statement is refused so -/
def BadS (B loops deep blocks n : Nat) (f : Str × Str × Int) (d : PyData) : Prop := ∀ (st : List WIt) (par : Option Nat), st.length ≤ B + n → FailsL (⟨d, par, deep, loops, blocks⟩ :: st) n f
end Fc
set_option maxRecDepth 100000
set_option maxHeartbeats 4000000
namespace Fc
open PySem PySem.Spec PyProof.Rows L2 FcR
open Evl (Ex)
inductive GS : PyData → Prop
  | mk {e : PyData} (can : PyData.canLay0 e = true) (sz : szD e) (ps : ∀ x ∈ partsD e, GS x) (ns : ∀ x, e = .str x → x.length ≤ 100000) : GS e
theorem gs_parts {e : PyData} (h : GS e) : PyData.canLay0 e = true ∧ szD e ∧ ∀ x ∈ partsD e, GS x := by
  cases h with
  | mk a b c _ => exact ⟨a, b, c⟩
def Fine (k b lo hi : Nat) (d : PyData) : Prop := ∀ loops deep blocks, deep + k ≤ 101 → blocks + b ≤ 25 → ∃ w, lo ≤ w ∧ w ≤ hi ∧ OkS loops deep blocks w d
theorem okS_one {loops deep blocks wa : Nat} {d a : PyData} (e : partsD d = [a]) (hs : isStm d (loops : Int) = true) (ha : OkS (loops + wl d) (deep + 1) blocks wa a) (hd : deep ≤ 100) (hk : blocks ≤ 25) : OkS loops deep blocks (1 + wa) d := by
  have z := OkS.mk (loops := loops) (deep := deep) (blocks := blocks) (d := d) (fun _ => wa) hs hd hk fun i p hp => by
    rw [e] at hp
    match i, hp with
    | 0, hp => cases hp; simpa using ha
  rw [e] at z
  simpa using z
theorem okS_two {loops deep blocks wa wb : Nat} {d a b : PyData} (e : partsD d = [a, b]) (hs : isStm d (loops : Int) = true) (ha : OkS (loops + wl d) (deep + 1) blocks wa a) (hb : OkS (loops + wl d) (deep + 1) (blocks + (if kindD d = "final" then 1 else 0)) wb b) (hd : deep ≤ 100) (hk : blocks ≤ 25) : OkS loops deep blocks (1 + (wa + wb)) d := by
  have z := OkS.mk (loops := loops) (deep := deep) (blocks := blocks) (d := d) (fun i => if i = 0 then wa else wb) hs hd hk fun i p hp => by
    rw [e] at hp
    match i, hp with
    | 0, hp => cases hp; simpa using ha
    | 1, hp => cases hp; simpa using hb
  rw [e] at z
  simpa [List.range_succ] using z
theorem okS_lf {loops deep blocks : Nat} {d : PyData} (e : partsD d = []) (hs : isStm d (loops : Int) = true) (hd : deep ≤ 100) (hk : blocks ≤ 25) : OkS loops deep blocks 1 d := by
  have z := OkS.mk (loops := loops) (deep := deep) (blocks := blocks) (d := d) (fun _ => 0) hs hd hk fun i p hp => by
    rw [e] at hp
    simp at hp
  rw [e] at z
  simpa using z
theorem Fine.mono {k b lo hi b' : Nat} {d : PyData} (h : Fine k b lo hi d) (e : b ≤ b') : Fine k b' lo hi d := fun l d' bl h1 h2 => h l d' bl h1 (by omega)
theorem BadS.mono {B B' loops deep blocks n : Nat} {f : Str × Str × Int} {d : PyData} (h : BadS B loops deep blocks n f d) (e : B' ≤ B) : BadS B' loops deep blocks n f d := fun st par hs => h st par (by omega)
end Fc
set_option maxRecDepth 100000
set_option maxHeartbeats 4000000
namespace Fc
open PySem PySem.Spec PyProof.Rows L2 FcR
open Evl (Ex)
def nmB : List Str := ["a", "b", "x", "y", "loop", "zzzzzzzz", "do", "final"]
def SB (room deep loops blocks : Nat) (d : PyData) : Prop := GS d ∧ d.depth ≤ 2 * deep ∧ ∃ w, 1 ≤ w ∧ w ≤ room ∧ ∀ dd, dd + deep ≤ 101 → OkS loops dd blocks w d
theorem SB.up {r k r' k' l b : Nat} {d : PyData} (h : SB r k l b d) (hr : r ≤ r') (hk : k ≤ k') : SB r' k' l b d := by
  obtain ⟨g, e, w, w1, w2, o⟩ := h
  exact ⟨g, by omega, w, w1, by omega, fun dd hd => o dd (by omega)⟩
theorem SB.can {r k l b : Nat} {d : PyData} (h : SB r k l b d) : PyData.canLay0 d = true := (gs_parts h.1).1
theorem sb_leaf {r k l b : Nat} {d : PyData} (hr : 1 ≤ r) (hk : 1 ≤ k) (hb : b ≤ 25) (st : isStm d (l : Int) = true) (e : partsD d = []) (cl : PyData.canLay0 d = true) (sz : szD d) (ns : ∀ x, d = .str x → x.length ≤ 100000) (dp : d.depth ≤ 2) : SB r k l b d :=
  ⟨.mk cl sz (fun x hx => by rw [e] at hx; cases hx) ns, by omega, 1, Nat.le_refl _, hr, fun dd hd => okS_lf e st (by omega) hb⟩
theorem nm_okB : ∀ x ∈ nmB, nameOk x = true ∧ PyData.canLay0 (.str x) = true ∧ x.length ≤ 100000 := by decide +kernel
theorem sb_do {r k l b : Nat} {q x : Str} (hr : 1 ≤ r) (hk : 1 ≤ k) (hb : b ≤ 25) (hq : q = "do" ∨ q = "call") (hx : x ∈ nmB) : SB r k l b (.tuple [.str q, .str x]) := by
  obtain ⟨h1, h2, h3⟩ := nm_okB x hx
  rcases hq with rfl | rfl
  · refine sb_leaf hr hk hb (show nameOk x = true from h1) rfl ?_ (fun k y r e => by cases e; exact h3) (fun x e => by cases e) (by simp [PyData.depth, PyData.depthAll])
    show (PyData.canLay0 (.str "do") && (PyData.canLay0 (.str x) && true)) = true
    rw [h2]
    kernel_rfl
  · refine sb_leaf hr hk hb (show nameOk x = true from h1) rfl ?_ (fun k y r e => by cases e; exact h3) (fun x e => by cases e) (by simp [PyData.depth, PyData.depthAll])
    show (PyData.canLay0 (.str "call") && (PyData.canLay0 (.str x) && true)) = true
    rw [h2]
    kernel_rfl
theorem sb_jmp {r k l b : Nat} {q : Str} {n : Int} (hr : 1 ≤ r) (hk : 1 ≤ k) (hb : b ≤ 25) (hq : q = "break" ∨ q = "continue") (h1 : 1 ≤ n) (h2 : n ≤ l) : SB r k l b (.tuple [.str q, .int n]) := by
  rcases hq with rfl | rfl
  · refine sb_leaf hr hk hb ?_ rfl (by kernel_rfl) (fun k y r e => by cases e) (fun x e => by cases e) (by simp [PyData.depth, PyData.depthAll])
    show (decide (1 ≤ n) && decide (n ≤ (l : Int))) = true
    rw [decide_eq_true h1, decide_eq_true h2] <;> rfl
  · refine sb_leaf hr hk hb ?_ rfl (by kernel_rfl) (fun k y r e => by cases e) (fun x e => by cases e) (by simp [PyData.depth, PyData.depthAll])
    show (decide (1 ≤ n) && decide (n ≤ (l : Int))) = true
    rw [decide_eq_true h1, decide_eq_true h2] <;> rfl
theorem sb_ret {r k l b : Nat} {q : Str} (hr : 1 ≤ r) (hk : 1 ≤ k) (hb : b ≤ 25) (hq : q = "return" ∨ q = "raise") : SB r k l b (.tuple [.str q]) := by
  rcases hq with rfl | rfl <;> exact sb_leaf hr hk hb rfl rfl (by kernel_rfl) (fun k y r e => by cases e) (fun x e => by cases e) (by simp [PyData.depth, PyData.depthAll])
theorem sb_whl {r k l b : Nat} {x : Str} {a : PyData} (hx : x ∈ nmB) (hb : b ≤ 25) (h : SB r k (l + 1) b a) : SB (r + 1) (k + 1) l b (.tuple [.str "while", .str x, a]) := by
  obtain ⟨h1, h2, h3⟩ := nm_okB x hx
  have ca := h.can
  obtain ⟨g, e, w, w1, w2, o⟩ := h
  refine ⟨.mk ?_ (fun k y r e => by cases e; exact h3) (fun z hz => ?_) (fun x e => by cases e), ?_, 1 + w, by omega, by omega, fun dd hd => ?_⟩
  · show (PyData.canLay0 (.str "while") && (PyData.canLay0 (.str x) && (PyData.canLay0 a && true))) = true
    rw [h2, ca]
    kernel_rfl
  · have hz : z ∈ [a] := hz
    rw [List.mem_singleton.mp hz]
    exact g
  · simp only [PyData.depth, PyData.depthAll]
    omega
  · exact okS_one (a := a) rfl (show nameOk x = true from h1) (o (dd + 1) (by omega)) (by omega) hb
theorem sb_two {r r' k l b : Nat} {d a c : PyData} (e : partsD d = [a, c]) (st : isStm d (l : Int) = true) (w0 : wl d = 0) (cl : PyData.canLay0 a = true → PyData.canLay0 c = true → PyData.canLay0 d = true) (sz : szD d) (ns : ∀ x, d = .str x → x.length ≤ 100000) (dp : d.depth ≤ 2 + max a.depth c.depth) (hb : b ≤ 25) (ha : SB r k l b a) (hc : SB r' k l (b + (if kindD d = "final" then 1 else 0)) c) : SB (r + r' + 1) (k + 1) l b d := by
  have ca := ha.can
  have cc := hc.can
  obtain ⟨g, e1, w, w1, w2, o⟩ := ha
  obtain ⟨g', e1', w', w1', w2', o'⟩ := hc
  refine ⟨.mk (cl ca cc) sz (fun z hz => ?_) ns, by omega, 1 + (w + w'), by omega, by omega, fun dd hd => ?_⟩
  · rw [e] at hz
    simp only [List.mem_cons, List.not_mem_nil, or_false] at hz
    rcases hz with rfl | rfl
    · exact g
    · exact g'
  · exact okS_two e st (by rw [w0]; exact o (dd + 1) (by omega)) (by rw [w0]; exact o' (dd + 1) (by omega)) (by omega) hb
theorem sb_if {r r' k l b : Nat} {x : Str} {a c : PyData} (hx : x ∈ nmB) (hb : b ≤ 25) (ha : SB r k l b a) (hc : SB r' k l b c) : SB (r + r' + 1) (k + 1) l b (.tuple [.str "if", .str x, a, c]) := by
  obtain ⟨h1, h2, h3⟩ := nm_okB x hx
  refine sb_two rfl (show nameOk x = true from h1) rfl (fun ca cc => ?_) (fun k y r e => by cases e; exact h3) (fun x e => by cases e) ?_ hb ha hc
  · show (PyData.canLay0 (.str "if") && (PyData.canLay0 (.str x) && (PyData.canLay0 a && (PyData.canLay0 c && true)))) = true
    rw [h2, ca, cc]
    kernel_rfl
  · simp only [PyData.depth, PyData.depthAll]
    omega
theorem sb_try {r r' k l b : Nat} {a c : PyData} (hb : b ≤ 25) (ha : SB r k l b a) (hc : SB r' k l b c) : SB (r + r' + 1) (k + 1) l b (.tuple [.str "try", a, c]) := by
  refine sb_two rfl rfl rfl (fun ca cc => ?_) (fun k y r e => ?_) (fun x e => by cases e) ?_ hb ha hc
  · show (PyData.canLay0 (.str "try") && (PyData.canLay0 a && (PyData.canLay0 c && true))) = true
    rw [ca, cc]
    kernel_rfl
  · injection e with e
    injection e with e1 e2
    injection e2 with e2 e3
    obtain ⟨g, _⟩ := ha
    cases g with
    | mk _ _ _ ns => exact ns _ e2
  · simp only [PyData.depth, PyData.depthAll]
    omega
theorem sb_fin {r r' k l b : Nat} {a c : PyData} (hb : b ≤ 24) (ha : SB r k l b a) (hc : SB r' k l (b + 1) c) : SB (r + r' + 1) (k + 1) l b (.tuple [.str "final", a, c]) := by
  refine sb_two rfl rfl rfl (fun ca cc => ?_) (fun k y r e => ?_) (fun x e => by cases e) ?_ (by omega) ha hc
  · show (PyData.canLay0 (.str "final") && (PyData.canLay0 a && (PyData.canLay0 c && true))) = true
    rw [ca, cc]
    kernel_rfl
  · injection e with e
    injection e with e1 e2
    injection e2 with e2 e3
    obtain ⟨g, _⟩ := ha
    cases g with
    | mk _ _ _ ns => exact ns _ e2
  · simp only [PyData.depth, PyData.depthAll]
    omega
/-- parts of a seq with their rooms -/
inductive SBs (k l b : Nat) : Nat → List PyData → Prop
  | nil : SBs k l b 0 []
  | snoc {r s : Nat} {ds : List PyData} {d : PyData} (h : SBs k l b r ds) (hd : SB s k l b d) : SBs k l b (r + s) (ds ++ [d])
theorem SBs.all {k l b r : Nat} {ds : List PyData} (h : SBs k l b r ds) : (∀ d ∈ ds, GS d ∧ d.depth ≤ 2 * k) ∧ ∃ ws : List Nat, ws.length = ds.length ∧ ws.sum ≤ r ∧ ∀ (i : Nat) (p : PyData) (w : Nat), ds[i]? = some p → ws[i]? = some w → ∀ dd, dd + k ≤ 101 → OkS l dd b w p := by
  induction h with
  | nil => exact ⟨fun d hd => (by cases hd), [], rfl, Nat.le_refl _, fun i p w h => (by simp at h)⟩
  | snoc h hd ih =>
    obtain ⟨i1, ws, i2, i3, i4⟩ := ih
    obtain ⟨g, e, w, w1, w2, o⟩ := hd
    refine ⟨fun d hd => ?_, ws ++ [w], by simp [i2], by simp; omega, fun i p w' hp hw dd hdd => ?_⟩
    · rcases List.mem_append.mp hd with hd | hd
      · exact i1 d hd
      · rw [List.mem_singleton.mp hd]; exact ⟨g, e⟩
    · rcases Nat.lt_or_ge i ws.length with hi | hi
      · rw [List.getElem?_append_left (by omega)] at hp
        rw [List.getElem?_append_left hi] at hw
        exact i4 i p w' hp hw dd hdd
      · rw [List.getElem?_append_right (by omega)] at hp
        rw [List.getElem?_append_right hi] at hw
        have : i - ws.length = 0 := by
          have := (List.getElem?_eq_some_iff.mp hw).1
          simp at this
          omega
        rw [this] at hw
        rw [← i2, this] at hp
        cases hp
        cases hw
        exact o dd hdd
theorem okS_listB {loops deep blocks : Nat} {d : PyData} (ws : List Nat) (st : isStm d (loops : Int) = true) (hd : deep ≤ 100) (hk : blocks ≤ 25) (hl : ws.length = (partsD d).length) (ps : ∀ (i : Nat) (p : PyData) (w : Nat), (partsD d)[i]? = some p → ws[i]? = some w → OkS (loops + wl d) (deep + 1) (blocks + (if kindD d = "final" ∧ i = 1 then 1 else 0)) w p) : OkS loops deep blocks (1 + ws.sum) d := by
  have z := OkS.mk (loops := loops) (deep := deep) (blocks := blocks) (d := d) (fun i => ws.getD i 0) st hd hk fun i p hp => by
    have hi : i < ws.length := by rw [hl]; exact (List.getElem?_eq_some_iff.mp hp).1
    refine ps i p _ hp ?_
    rw [List.getD_eq_getElem?_getD, List.getElem?_eq_getElem hi] <;> rfl
  have e : ((List.range (partsD d).length).map fun i => ws.getD i 0) = ws := by
    apply List.ext_getElem?
    intro i
    rw [List.getElem?_map, ← hl]
    rcases Nat.lt_or_ge i ws.length with hi | hi
    · rw [List.getElem?_range hi, List.getElem?_eq_getElem hi]
      simp [List.getD_eq_getElem?_getD, List.getElem?_eq_getElem hi]
    · rw [List.getElem?_eq_none hi, List.getElem?_eq_none (by simpa using hi)] <;> rfl
  rw [e] at z
  exact z
theorem sb_seq {k l b r : Nat} {ds : List PyData} (hb : b ≤ 25) (hn : ds ≠ []) (h4 : ds.length ≤ 401) (h : SBs k l b r ds) : SB (r + 1) (k + 1) l b (.tuple [.str "seq", .tuple ds]) := by
  obtain ⟨i1, ws, i2, i3, i4⟩ := h.all
  have hp : partsD (.tuple [.str "seq", .tuple ds]) = ds := List.take_of_length_le (by omega)
  have st : isStm (.tuple [.str "seq", .tuple ds]) (l : Int) = true := by
    cases ds with
    | nil => exact absurd rfl hn
    | cons a b => rfl
  refine ⟨.mk ?_ (fun k x r e => by cases e) (fun z hz => ?_) (fun x e => by cases e), ?_, 1 + ws.sum, by omega, by omega, fun dd hd => ?_⟩
  · show (PyData.canLay0 (.str "seq") && (PyData.canLayAll0 ds && true)) = true
    rw [canAll fun d hd => (gs_parts (i1 d hd).1).1]
    kernel_rfl
  · rw [hp] at hz
    exact (i1 z hz).1
  · have : ∀ l : List PyData, (∀ d ∈ l, d.depth ≤ 2 * k) → PyData.depthAll l ≤ 2 * k := fun l => by
      induction l with
      | nil => exact fun _ => Nat.zero_le _
      | cons a l ih =>
        intro h
        have h1 := h a List.mem_cons_self
        have h2 := ih fun d hd => h d (List.mem_cons_of_mem _ hd)
        simp only [PyData.depthAll]
        omega
    have := this ds fun d hd => (i1 d hd).2
    simp only [PyData.depth, PyData.depthAll]
    omega
  · refine okS_listB ws st (by omega) hb (by rw [hp]; exact i2) fun i p w h1 h2 => ?_
    rw [hp] at h1
    have := i4 i p w h1 h2 (dd + 1) (by omega)
    exact this
end Fc
set_option maxRecDepth 100000
set_option maxHeartbeats 4000000
namespace Fc
open PySem PySem.Spec PyProof.Rows L2 FcR
open Evl (Ex)
/-- a source of draws, with at most so many mixed numbers -/
def SrcB (H : Hp) (p : Addr) (n : Nat) : Prop := ∃ x y z : Int, H p = some (.lst [.int x, .int y, .int z]) ∧ 0 ≤ y ∧ y < 2147483647 ∧ 0 ≤ z ∧ z ≤ (n : Int)
theorem SrcB.kp {H H' : Hp} {p : Addr} {n : Nat} (h : SrcB H p n) (e : ∀ o, H p = some o → H' p = some o) : SrcB H' p n := by
  obtain ⟨x, y, z, h, r⟩ := h
  exact ⟨x, y, z, e _ h, r⟩
theorem SrcB.up {H : Hp} {p : Addr} {n m : Nat} (h : SrcB H p n) (e : n ≤ m) : SrcB H p m := by
  obtain ⟨x, y, z, h, a, b, c, d⟩ := h
  exact ⟨x, y, z, h, a, b, c, by omega⟩
theorem gr_kp {F H H' : Hp} {p : Addr} (x : Ex F H) (f : F p = none) (k : ∀ b o, b ≠ p → H b = some o → H' b = some o) : Gr (fun b => b = p) F H F H' :=
  ⟨Evl.Ex.refl _, fun b o e => k b o (fun z => by rw [z, f] at e; cases e) (x b o e), fun _ _ e _ => e, fun b o e n => k b o n e⟩
def sp_choiceB (K : PySem.W.Frag) : Sp := fun vs H Q _ => ∃ (p a : Addr) (n : Nat) (xs : List V), vs = [.ref p, .ref a] ∧ SrcB H p n ∧ n ≤ 1000000000 ∧ H a = some (.lst xs) ∧ a ≠ p ∧ xs ≠ [] ∧ xs.length < 1000 ∧
  ∀ (H' : Hp) (x : V), x ∈ xs → SrcB H' p (n + 1) → (∀ b o, b ≠ p → H b = some o → H' b = some o) → Q x H'
def sp_nameB : Sp := fun vs H Q _ => ∃ (p : Addr) (n : Nat), vs = [.ref p] ∧ SrcB H p n ∧ n ≤ 1000000000 ∧
  ∀ (H' : Hp) (x : Str), x ∈ nmB → SrcB H' p (n + 1) → (∀ b o, b ≠ p → H b = some o → H' b = some o) → Q (.str x) H'
def sp_cellB (K : PySem.W.Frag) : Sp := fun vs H Q _ => ∃ (a : Addr) (ns : List Int) (k : Nat), vs = [.ref a, .int (k : Int)] ∧ SqL K H a (ns.map V.int) ∧ Q (.int (ns.getD k 0)) H
def sp_sourceB : Sp := fun vs H Q _ => ∃ c : Int, vs = [.int c] ∧ ∀ (p : Addr) (H' : Hp), H p = none → Ex H H' → SrcB H' p 0 → (∀ b, b ≠ p → H' b = H b) → Q (.ref p) H'
def sp_drawB : Sp := fun vs H Q _ => ∃ (p : Addr) (n : Nat) (m : Int), vs = [.ref p, .int m] ∧ SrcB H p n ∧ n ≤ 1000000000 ∧ 0 < m ∧ m < 1073741824 ∧
  ∀ (v : Int) (H' : Hp), 0 ≤ v → v < m → SrcB H' p (n + 1) → (∀ b o, b ≠ p → H b = some o → H' b = some o) → Q (.int v) H'
section
variable {P : Program} {w : World} {h : Heap} {K : PySem.W.Frag} {mg : Str → Option Value} {base : Heap}
abbrev N_law_cell_at : List Str := ["_law_script", "_law_index"]
theorem sc_law_cell_at : FnScope N_law_cell_at ["_law_script", "_law_index"] (defScope sd_law_cell_at) := ⟨rfl, rfl, rfl, by decide +kernel, rfl, by decide +kernel, by decide +kernel⟩
theorem ok_law_cell_at (T : Tx w h K mg) : Ok P w K mg base 1 ("_law_cell_at", none) ["_law_script", "_law_index"] (sp_cellB K) := by
  obtain ⟨fd, F⟩ := F_law_cell_at T
  refine ⟨fd, ?_, F.bindsN (fun _ _ _ _ _ _ us hl => match us, hl with | [_, _], _ => rfl), F.kp⟩
  refine F.ok sc_law_cell_at (fun vs H Q E h => ?_) (fun cdv A outer s H vs Q E hr h => ?_)
  · obtain ⟨a, ns, k, rfl, hs, q⟩ := h
    rfl
  · obtain ⟨a, ns, k, rfl, hs, q⟩ := h
    refine ⟨_, PSs.nox (pss_cons (ps_if (pt_cmpR op_lt (pv 1) (pe_callB call_len_seq rfl (fr_len T) b_len (pa_cons (pv 0) pa_nil)) (nomark _)) (pss_one (ps_ret (pe_ix ix_list (pv 0) (pv 1) (fun _ _ => rfl)))) pss_nil) (pss_one (ps_ret pe_int))), ?_⟩
    refine ⟨_, rfl, _, rfl, a, _, rfl, .inl hs, _, _, rfl, rfl, _, rfl, ite_of (fun h1 => ?_) (fun h1 => ?_)⟩
    · have hk : k < ns.length := by
        have := of_decide_eq_true h1
        rw [List.length_map] at this
        omega
      refine ⟨_, rfl, _, rfl, a, _, _, .int (ns.getD k 0), rfl, rfl, hs, atI_nat ?_, q⟩
      rw [List.getElem?_map, List.getD_eq_getElem?_getD, List.getElem?_eq_getElem hk] <;> rfl
    · have hk : ns.length ≤ k := by
        have := of_decide_eq_false h1
        rw [List.length_map] at this
        omega
      have e : ns.getD k 0 = 0 := by rw [List.getD_eq_getElem?_getD, List.getElem?_eq_none hk] <;> rfl
      rw [e] at q
      exact q
abbrev N_law_source : List Str := ["_law_cell"]
theorem sc_law_source : FnScope N_law_source ["_law_cell"] (defScope sd_law_source) := ⟨rfl, rfl, rfl, by decide +kernel, rfl, by decide +kernel, by decide +kernel⟩
theorem ok_law_source (T : Tx w h K mg) : Ok P w K mg base 1 ("_law_source", none) ["_law_cell"] (sp_sourceB) := by
  obtain ⟨fd, F⟩ := F_law_source T
  refine ⟨fd, ?_, F.bindsN (fun _ _ _ _ _ _ us hl => match us, hl with | [_], _ => rfl), F.kp⟩
  refine F.ok sc_law_source (fun vs H Q E h => ?_) (fun cdv A outer s H vs Q E hr h => ?_)
  · obtain ⟨c, rfl, q⟩ := h
    rfl
  · obtain ⟨c, rfl, q⟩ := h
    refine ⟨_, PSs.nox (pss_one (ps_ret (pe_lst (pa_cons (pe_op op_mul (pv 0) (pe_callTy call_int1 rfl (fr_int T) b_int (pa_cons (pe_cmpR op_ge (pv 0) (pe_op op_pow pe_int pe_int) (nomark _)) pa_nil))) (pa_cons (pe_op op_mod (pe_callTy call_int1 rfl (fr_int T) b_int (pa_cons (pv 0) pa_nil)) pe_int) (pa_cons pe_int pa_nil)))))), ?_⟩
    refine ⟨_, rfl, _, rfl, _, _, rfl, rfl, (by unfold CPow; decide), _, _, rfl, rfl, .inr ⟨_, rfl, _, _, rfl, rfl, ?_, _, rfl, .inl ⟨_, rfl, _, _, rfl, rfl, (by first | (show (0 : Int) < _; decide) | (show (0 : Int) < _ ∧ _ < (1073741824 : Int); decide)), sz (by simp), ?_⟩⟩⟩
    · refine .inr ?_
      by_cases h1 : decide ((10 : Int) ^ (18 : Int).toNat ≤ c) = true
      · rw [if_pos h1] <;> decide
      · rw [if_neg h1] <;> decide
    · intro p1 n1
      generalize e1 : upd _ p1 _ = H1
      obtain ⟨x1, s1, o1⟩ := new_of e1 n1
      clear e1
      exact q p1 H1 n1 x1 ⟨_, _, _, s1, Int.emod_nonneg _ (by decide), Int.emod_lt_of_pos _ (by decide), Int.le_refl _, Int.le_refl _⟩ o1
abbrev N_law_draw : List Str := ["_law_source_here", "_law_bound", "_law_result", "_law_prime", "_law_mixed"]
theorem sc_law_draw : FnScope N_law_draw ["_law_source_here", "_law_bound"] (defScope sd_law_draw) := ⟨rfl, rfl, rfl, by decide +kernel, rfl, by decide +kernel, by decide +kernel⟩
theorem ok_law_draw (T : Tx w h K mg) : Ok P w K mg base 1 ("_law_draw", none) ["_law_source_here", "_law_bound"] (sp_drawB) := by
  obtain ⟨fd, F⟩ := F_law_draw T
  refine ⟨fd, ?_, F.bindsN (fun _ _ _ _ _ _ us hl => match us, hl with | [_, _], _ => rfl), F.kp⟩
  refine F.ok sc_law_draw (fun vs H Q E h => ?_) (fun cdv A outer s H vs Q E hr h => ?_)
  · obtain ⟨p, n, m, rfl, ⟨x, y, z, hp, y0, y1, z0, z1⟩, hn, h1, h2, q⟩ := h
    rfl
  · obtain ⟨p, n, m, rfl, ⟨x, y, z, hp, y0, y1, z0, z1⟩, hn, h1, h2, q⟩ := h
    refine ⟨_, PSs.nox (pss_cons (ps_if (pt_cmpR op_gt (pe_ix ix_list (pv 0) pe_int (fun _ _ => rfl)) pe_int (nomark _)) (pss_cons (ps_set (i := 2) sc_law_draw.nd rfl (Or.inl rfl) (pe_op op_mod (pe_callTy call_int1 rfl (fr_int T) b_int (pa_cons (pe_ix ix_list (pv 0) pe_int (fun _ _ => rfl)) pa_nil)) (pv 1))) (pss_cons (ps_asg (pe_op op_fdiv (pe_ix ix_list (pv 0) pe_int (fun _ _ => rfl)) (pv 1)) (pg_sub (pv 0) pe_int set_list)) (pss_one (ps_ret (pv 2))))) pss_nil) (pss_cons (ps_asg (pe_op op_add (pe_ix ix_list (pv 0) pe_int (fun _ _ => rfl)) pe_int) (pg_sub (pv 0) pe_int set_list)) (pss_cons (ps_set (i := 3) sc_law_draw.nd rfl (Or.inl rfl) (pe_ix ix_list (pe_lst (pa_cons pe_int (pa_cons pe_int (pa_cons pe_int (pa_cons pe_int (pa_cons pe_int pa_nil)))))) (pe_op op_mod (pe_callTy call_int1 rfl (fr_int T) b_int (pa_cons (pe_ix ix_list (pv 0) pe_int (fun _ _ => rfl)) pa_nil)) pe_int) (fun _ _ => rfl))) (pss_cons (ps_set (i := 4) sc_law_draw.nd rfl (Or.inl rfl) (pe_op op_mod (pe_callTy call_int1 rfl (fr_int T) b_int (pa_cons (pe_op op_pow (pe_op op_add (pe_op op_add (pe_ix ix_list (pv 0) pe_int (fun _ _ => rfl)) (pe_op op_mul pe_int (pe_ix ix_list (pv 0) pe_int (fun _ _ => rfl)))) pe_int) pe_int) pa_nil)) (pv 3))) (pss_cons (ps_set (i := 4) sc_law_draw.nd rfl (Or.inl rfl) (pe_op op_mod (pe_callTy call_int1 rfl (fr_int T) b_int (pa_cons (pe_op op_mul (pe_op op_add (pv 4) (pe_ix ix_list (pv 0) pe_int (fun _ _ => rfl))) (pe_op op_add (pe_op op_fdiv (pv 4) pe_int) pe_int)) pa_nil)) (pv 3))) (pss_cons (ps_set (i := 4) sc_law_draw.nd rfl (Or.inl rfl) (pe_op op_mod (pe_callTy call_int1 rfl (fr_int T) b_int (pa_cons (pe_op op_mul (pv 4) (pe_op op_add (pe_op op_add (pe_op op_fdiv (pv 4) pe_int) pe_int) (pe_ix ix_list (pv 0) pe_int (fun _ _ => rfl)))) pa_nil)) pe_int)) (pss_one (ps_ret (pe_op op_mod (pe_callTy call_int1 rfl (fr_int T) b_int (pa_cons (pe_op op_fdiv (pv 4) pe_int) pa_nil)) (pv 1)))))))))), ?_⟩
    have hs := Evl.sq_of (K := K) hp
    refine ⟨_, rfl, p, _, _, _, rfl, rfl, hs, rfl, _, _, rfl, rfl, _, rfl, ite_of (fun h3 => ?_) (fun h3 => ?_)⟩
    · refine ⟨_, rfl, p, _, _, _, rfl, rfl, hs, rfl, .inl ⟨_, rfl, _, rfl, _, _, rfl, rfl, h1, ?_⟩⟩
      refine ⟨_, rfl, p, _, _, _, rfl, rfl, hs, rfl, _, rfl, _, _, rfl, rfl, ⟨h1, h2⟩, _, rfl, p, _, _, 0, rfl, rfl, hp, rfl, ?_⟩
      exact ⟨_, rfl, q _ _ (Int.emod_nonneg _ (by omega)) (Int.emod_lt_of_pos _ h1) ⟨_, _, _, upd_same, y0, y1, z0, by omega⟩ fun b o hb e => by rw [upd_ne hb]; exact e⟩
    · refine ⟨_, rfl, p, _, _, _, rfl, rfl, hs, rfl, _, _, rfl, rfl, _, rfl, p, _, _, 2, rfl, rfl, hp, rfl, ?_⟩
      have hs2 := Evl.sq_of (K := K) (upd_same (H := H) (a := p) (o := .lst [.int x, .int y, .int (z + 1)]))
      refine ⟨sz (by simp), ?_⟩
      have hu : upd H p (.lst [.int x, .int y, .int (z + 1)]) p = some (.lst [.int x, .int y, .int (z + 1)]) := upd_same
      have ou : ∀ b, b ≠ p → upd H p (.lst [.int x, .int y, .int (z + 1)]) b = H b := fun b hb => upd_ne hb
      have e3 : upd H p (.lst ([V.int x, V.int y, V.int z].set 2 ((fun i j => V.int (i + j)) z 1))) = upd H p (.lst [.int x, .int y, .int (z + 1)]) := rfl
      rw [e3]
      generalize upd H p (.lst [.int x, .int y, .int (z + 1)]) = H3 at hs2 hu ou
      intro p4 n4
      generalize e4 : upd _ p4 _ = H4
      obtain ⟨x4, s4, o4⟩ := new_of e4 n4
      clear e4
      have hs4 := Evl.sq_of (K := K) (x4 _ _ hu)
      have i0 := Int.emod_nonneg (z + 1) (show (5 : Int) ≠ 0 by decide)
      have i1 := Int.emod_lt_of_pos (z + 1) (show (0 : Int) < 5 by decide)
      obtain ⟨j, hj⟩ : ∃ j : Nat, (z + 1) % 5 = (j : Int) := ⟨((z + 1) % 5).toNat, by omega⟩
      obtain ⟨pr, hpr, pr0, pr1⟩ : ∃ pr : Int, [V.int 2147483629, .int 2147483587, .int 2147483579, .int 2147483563, .int 2147483549][j]? = some (.int pr) ∧ 0 < pr ∧ pr < 2147483648 := by
        have : j = 0 ∨ j = 1 ∨ j = 2 ∨ j = 3 ∨ j = 4 := by omega
        rcases this with rfl | rfl | rfl | rfl | rfl <;> exact ⟨_, rfl, by decide, by decide⟩
      refine ⟨_, rfl, p, _, _, _, rfl, rfl, hs4, rfl, .inl ⟨_, rfl, _, _, rfl, rfl, (show (0 : Int) < 5 by decide), ?_⟩⟩
      refine ⟨p4, _, (j : Int), .int pr, rfl, congrArg V.int hj, Evl.sq_of s4, atI_nat hpr, ?_⟩
      refine ⟨_, rfl, p, _, _, _, rfl, rfl, hs4, rfl, _, rfl, p, _, _, _, rfl, rfl, hs4, rfl, _, _, rfl, rfl, .inl (by show (-(2 ^ 64) < (5413 : Int) ∧ (5413 : Int) < 2 ^ 64); decide), _, _, rfl, rfl, _, _, rfl, rfl, _, _, rfl, rfl, ⟨by decide, by decide, by show (y + 5413 * (z + 1) + 23).natAbs < 2 ^ 64; omega⟩, .inl ⟨_, rfl, _, rfl, _, _, rfl, rfl, pr0, ?_⟩⟩
      generalize (y + 5413 * (z + 1) + 23) ^ (3 : Int).toNat = r1
      have b1 := Int.emod_nonneg r1 (show pr ≠ 0 by omega)
      have b2 := Int.emod_lt_of_pos r1 pr0
      refine ⟨_, rfl, _, rfl, p, _, _, _, rfl, rfl, hs4, rfl, _, _, rfl, rfl, _, rfl, _, _, rfl, rfl, (by first | (show (0 : Int) < _; decide) | (show (0 : Int) < _ ∧ _ < (1073741824 : Int); decide)), _, _, rfl, rfl, _, _, rfl, rfl, .inr ?_, .inl ⟨_, rfl, _, rfl, _, _, rfl, rfl, pr0, ?_⟩⟩
      · have : r1 % pr / 1013 ≤ r1 % pr := Int.ediv_le_self _ b1
        have : 0 ≤ r1 % pr / 1013 := Int.ediv_nonneg b1 (by decide)
        constructor <;> omega
      generalize (r1 % pr + (z + 1)) * (r1 % pr / 1013 + 69001) = r2
      have b3 := Int.emod_nonneg r2 (show pr ≠ 0 by omega)
      have b4 := Int.emod_lt_of_pos r2 pr0
      refine ⟨_, rfl, _, rfl, _, _, rfl, rfl, (by first | (show (0 : Int) < _; decide) | (show (0 : Int) < _ ∧ _ < (1073741824 : Int); decide)), _, _, rfl, rfl, _, rfl, p, _, _, _, rfl, rfl, hs4, rfl, _, _, rfl, rfl, _, _, rfl, rfl, .inl (by constructor <;> omega), .inl ⟨_, rfl, _, _, rfl, rfl, (by first | (show (0 : Int) < _; decide) | (show (0 : Int) < _ ∧ _ < (1073741824 : Int); decide)), ?_⟩⟩
      refine ⟨_, rfl, _, _, rfl, rfl, (by first | (show (0 : Int) < _; decide) | (show (0 : Int) < _ ∧ _ < (1073741824 : Int); decide)), .inl ⟨_, rfl, _, rfl, _, _, rfl, rfl, h1, ?_⟩⟩
      exact q _ _ (Int.emod_nonneg _ (by omega)) (Int.emod_lt_of_pos _ h1) ⟨_, _, _, x4 _ _ hu, y0, y1, by omega, by omega⟩ fun b o hb e => x4 _ _ (by rw [ou b hb]; exact e)
abbrev N_law_choice : List Str := ["_law_source_here", "_law_items"]
theorem sc_law_choice : FnScope N_law_choice ["_law_source_here", "_law_items"] (defScope sd_law_choice) := ⟨rfl, rfl, rfl, by decide +kernel, rfl, by decide +kernel, by decide +kernel⟩
theorem ok_law_choice (T : Tx w h K mg) : Ok P w K mg base 2 ("_law_choice", none) ["_law_source_here", "_law_items"] (sp_choiceB K) := by
  obtain ⟨fd, F⟩ := F_law_choice T
  refine ⟨fd, ?_, F.bindsN (fun _ _ _ _ _ _ us hl => match us, hl with | [_, _], _ => rfl), F.kp⟩
  obtain ⟨fd_law_draw, G_law_draw, bi_law_draw, kp_law_draw⟩ := ok_law_draw (P := P) (base := base) T
  refine F.ok sc_law_choice (fun vs H Q E h => ?_) (fun cdv A outer s H vs Q E hr h => ?_)
  · obtain ⟨p, a, n, xs, rfl, hp, hn, ha, hne, hk, hl, q⟩ := h
    rfl
  · obtain ⟨p, a, n, xs, rfl, hp, hn, ha, hne, hk, hl, q⟩ := h
    refine ⟨_, PSs.nox (pss_one (ps_ret (pe_ix ix_list (pv 1) (pe_call G_law_draw (hr.mono (by decide)) rfl (g_law_draw T) kp_law_draw bi_law_draw .nil passF (pa_cons (pv 0) (pa_cons (pe_callB call_len_seq rfl (fr_len T) b_len (pa_cons (pv 1) pa_nil)) pa_nil))) (fun _ _ => rfl)))), ?_⟩
    have lk : 0 < xs.length := List.length_pos_iff.mpr hk
    refine ⟨_, rfl, _, rfl, _, rfl, a, _, rfl, .inl (Evl.sq_of ha), ?_⟩
    refine ⟨p, n, _, rfl, hp, hn, (by omega), (by omega), fun v H1 v0 v1 s1 o1 => ?_⟩
    obtain ⟨j, rfl⟩ : ∃ j : Nat, v = (j : Int) := ⟨v.toNat, by omega⟩
    have hj : j < xs.length := by omega
    refine ⟨a, _, _, xs[j], rfl, rfl, Evl.sq_of (o1 a _ hne ha), atI_nat (List.getElem?_eq_getElem hj), ?_⟩
    exact q H1 _ (List.getElem_mem hj) s1 o1
abbrev N_law_name : List Str := ["_law_source_here"]
theorem sc_law_name : FnScope N_law_name ["_law_source_here"] (defScope sd_law_name) := ⟨rfl, rfl, rfl, by decide +kernel, rfl, by decide +kernel, by decide +kernel⟩
theorem ok_law_name (T : Tx w h K mg) : Ok P w K mg base 3 ("_law_name", none) ["_law_source_here"] (sp_nameB) := by
  obtain ⟨fd, F⟩ := F_law_name T
  refine ⟨fd, ?_, F.bindsN (fun _ _ _ _ _ _ us hl => match us, hl with | [_], _ => rfl), F.kp⟩
  obtain ⟨fd_law_choice, G_law_choice, bi_law_choice, kp_law_choice⟩ := ok_law_choice (P := P) (base := base) T
  refine F.ok sc_law_name (fun vs H Q E h => ?_) (fun cdv A outer s H vs Q E hr h => ?_)
  · obtain ⟨p, n, rfl, hp, hn, q⟩ := h
    rfl
  · obtain ⟨p, n, rfl, hp, hn, q⟩ := h
    refine ⟨_, PSs.nox (pss_one (ps_ret (pe_call G_law_choice (hr.mono (by decide)) rfl (g_law_choice T) kp_law_choice bi_law_choice .nil passF (pa_cons (pv 0) (pa_cons (pe_lst (pa_cons pe_str (pa_cons pe_str (pa_cons pe_str (pa_cons pe_str (pa_cons pe_str (pa_cons pe_str (pa_cons pe_str (pa_cons pe_str pa_nil))))))))) pa_nil))))), ?_⟩
    refine ⟨_, rfl, sz (by simp), ?_⟩
    intro p1 n1
    generalize e1 : upd _ p1 _ = H1
    obtain ⟨x1, s1, o1⟩ := new_of e1 n1
    clear e1
    have pn : p1 ≠ p := fun z => by obtain ⟨_, _, _, h, _⟩ := hp; rw [z, h] at n1; cases n1
    refine ⟨p, p1, n, nmB.map V.str, rfl, hp.kp fun o h => x1 _ _ h, hn, s1, pn, (by simp [nmB]), (by simp [nmB]), fun H2 x hx s2 o2 => ?_⟩
    obtain ⟨nm, hm, rfl⟩ := List.mem_map.mp hx
    exact q H2 nm hm s2 fun b o hb e => o2 b o hb (x1 _ _ e)
end
end Fc
set_option maxRecDepth 100000
set_option maxHeartbeats 4000000
namespace Fc
open PySem PySem.Spec PyProof.Rows L2 FcR
open Evl (Ex)
theorem pre_range {L : List Nat} {n : Nat} (h : L <+: List.range n) : L = List.range L.length := by
  obtain ⟨t, ht⟩ := h
  have : L = (List.range n).take L.length := by rw [← ht, List.take_left]
  have l : L.length ≤ n := by
    have := congrArg List.length ht
    rw [List.length_append, List.length_range] at this
    omega
  rw [List.take_range, Nat.min_eq_left l] at this
  exact this
def sp_isord (K : PySem.W.Frag) : Sp := fun vs H Q _ => ∃ (la : Addr) (ts : List Addr) (rs : List TRow) (f : Nat → Nat), vs = [.ref la] ∧ H la = some (.lst (ts.map V.ref)) ∧ RowsAt K H ts rs ∧ 1 ≤ rs.length ∧ rs.length ≤ 400 ∧ RowsOk rs.length (getR rs) ∧ (∀ k, ordN (getR rs) 0 k = List.range (f k)) ∧ (∀ k, k < rs.length → k < f k) ∧ f rs.length = rs.length ∧ ∀ H', Ex H H' → Q (.bl true) H'
def sp_anyt (K : PySem.W.Frag) : Sp := fun vs H Q _ => ∃ (F : Hp) (A : CAd) (rows : List Row) (p : Addr) (n : Nat), vs = [.ref p, .ref A.p] ∧ CodeH K F F A rows ∧ Ex F H ∧ F p = none ∧ rows.length ≤ 400 ∧ plN rows ≠ [] ∧ SrcB H p n ∧ n ≤ 900000000 ∧
  ∀ (H' : Hp) (la : Addr) (ts : List Addr) (rs : List TRow), (∀ b o, b ≠ p → H b = some o → H' b = some o) → SrcB H' p (n + 200) → H la = none → la ≠ p → H' la = some (.lst (ts.map V.ref)) → RowsAt K H' ts rs → 1 ≤ rs.length → rs.length ≤ 12 → (∀ r ∈ rs, TV rows rs.length r) → Q (.ref la) H'
theorem ne_srcB {H : Hp} {p b : Addr} {n : Nat} (h : SrcB H p n) (e : H b = none) : b ≠ p := fun z => by
  obtain ⟨_, _, _, h, _⟩ := h
  rw [z, h] at e
  cases e
section
variable {P : Program} {w : World} {h : Heap} {K : PySem.W.Frag} {mg : Str → Option Value} {base : Heap}
abbrev N_law_is_ordered : List Str := ["_law_lines", "_law_seen", "_law_at", "_law_row", "_law_item"]
theorem sc_law_is_ordered : FnScope N_law_is_ordered ["_law_lines"] (defScope sd_law_is_ordered) := ⟨rfl, rfl, rfl, by decide +kernel, rfl, by decide +kernel, by decide +kernel⟩
theorem ok_law_is_ordered (T : Tx w h K mg) : Ok P w K mg base 6 ("_law_is_ordered", none) ["_law_lines"] (sp_isord K) := by
  obtain ⟨fd, F⟩ := F_law_is_ordered T
  refine ⟨fd, ?_, F.bindsN (fun _ _ _ _ _ _ us hl => match us, hl with | [_], _ => rfl), F.kp⟩
  refine F.ok sc_law_is_ordered (fun vs H Q E h => ?_) (fun cdv A outer s H vs Q E hr h => ?_)
  · obtain ⟨la, ts, rs, f, rfl, hla, RA, n1, n4, ok, hf, hk, hn, q⟩ := h
    rfl
  · obtain ⟨la, ts, rs, f, rfl, hla, RA, n1, n4, ok, hf, hk, hn, q⟩ := h
    refine ⟨_, PSs.nox (pss_cons (ps_set (i := 1) sc_law_is_ordered.nd rfl (Or.inl rfl) pe_int) (pss_cons (ps_for PassesOwn.never rfl (pi_enum rfl (fr_enumerate T) (pa_cons (pv 0) pa_nil)) (pg_tup rfl (pgs_cons (pg_name (i := 2) sc_law_is_ordered.nd rfl (Or.inl rfl)) (pgs_cons (pg_name (i := 3) sc_law_is_ordered.nd rfl (Or.inl rfl)) pgs_nil))) (pss_cons (ps_for PassesOwn.never rfl (pi_tup (pe_slice sl_tup (pv 3) (po_some pe_int) po_none)) (pg_name (i := 4) sc_law_is_ordered.nd rfl (Or.inl rfl)) (pss_one (ps_if (pt_not (pt_val (pe_callB call_isi rfl (fr_isinstance T) b_isinstance (pa_cons (pv 4) (pa_cons (pe_bltn (v := .ty "str") rfl (fr_str T) b_str rfl) pa_nil))))) (pss_cons (ps_set (i := 1) sc_law_is_ordered.nd rfl (Or.inl rfl) (pe_op op_add (pv 1) (pe_callTy call_int1 rfl (fr_int T) b_int (pa_cons (pe_cmpR op_eq (pv 4) (pv 1) (nomark _)) pa_nil)))) (pss_one (ps_if (pt_cmpR op_ge (pv 4) (pv 1) (nomark _)) (pss_one (ps_ret pe_bl)) pss_nil))) pss_nil))) (pss_one (ps_if (pt_cmpR op_ge (pv 2) (pv 1) (nomark _)) (pss_one (ps_ret pe_bl)) pss_nil)))) (pss_one (ps_ret (pe_cmpR op_eq (pv 1) (pe_callB call_len_seq rfl (fr_len T) b_len (pa_cons (pv 0) pa_nil)) (nomark _)))))), ?_⟩
    have tl := rowsAt_len RA
    refine ⟨_, rfl, la, _, rfl, Evl.sq_of hla, ?_⟩
    refine for_it (walk_enum (xs := ts.map V.ref)) (fun i σ' H' => ∃ (u2 u3 u4 : Option V), σ' = [some (.ref la), some (.int (f i : Int)), u2, u3, u4] ∧ Ex H H') ?_ ?_ ?_ ?_
    · have f0 : f 0 = 1 := by
        have h0 : [0] = List.range (f 0) := hf 0
        have := congrArg List.length h0
        rw [List.length_range] at this
        exact this.symm
      rw [f0]
      exact ⟨_, _, _, rfl, Evl.Ex.refl _⟩
    · exact fun i σ' H' _ ⟨_, _, _, _, e⟩ => Evl.sq_of (e _ _ hla)
    · rintro i v σ' Hq Hr hi ⟨u2, u3, u4, rfl, e⟩ ⟨tp, y1, y2, rfl, n2, rfl, z1, z2⟩
      cases z1
      rw [List.length_map, tl] at hi
      obtain ⟨t, ht, rt⟩ := paired_getT RA hi
      replace z2 : (ts.map V.ref)[i]? = some y2 := z2
      rw [List.getElem?_map, ht] at z2
      cases z2
      generalize e2 : upd Hq tp _ = H7
      obtain ⟨x7, s7, o7⟩ := new_of e2 n2
      clear e2
      have e7 := e.trans x7
      have fi := hk i hi
      have hx : (ordN (getR rs) 0 i)[i]? = some i := by rw [hf i, List.getElem?_range fi]
      have nx := ordN_next hx
      rw [hf, hf] at nx
      refine ⟨tp, _, rfl, SqT.of s7, rfl, _, _, rfl, _, _, rfl, rfl, ?_⟩
      refine ⟨_, rfl, 1, rfl, ?_⟩
      unfold tNoPart
      refine ⟨t, _, rfl, Evl.ex_t e7 rt, row_n2, ?_⟩
      intro p8 n8
      generalize e8 : upd _ p8 _ = H8
      obtain ⟨x8, s8, o8⟩ := new_of e8 n8
      clear e8
      rw [row_c2] at s8
      have e8 := e7.trans x8
      have pr : ∀ j, addN (List.range (f i)) ((getR rs i).2.take j) <+: List.range (f (i + 1)) := fun j => by
        rw [nx]
        have : addN (List.range (f i)) (getR rs i).2 = addN (addN (List.range (f i)) ((getR rs i).2.take j)) ((getR rs i).2.drop j) := by
          unfold addN
          rw [← List.foldl_append, List.take_append_drop]
        rw [this]
        exact addN_pre _ _
      refine ⟨p8, rfl, ⟨_, SqT.of s8⟩, ?_⟩
      refine for_it (walk_tup (xs := (getR rs i).2.map itV)) (fun j σ' H' => ∃ (u4 : Option V), σ' = [some (.ref la), some (.int ((addN (List.range (f i)) ((getR rs i).2.take j)).length : Int)), some (.int (i : Int)), some (.ref t), u4] ∧ Ex H8 H') ?_ ?_ ?_ ?_
      · have e0 : (addN (List.range (f i)) ((getR rs i).2.take 0)).length = f i := List.length_range
        rw [e0]
        exact ⟨_, rfl, Evl.Ex.refl _⟩
      · exact fun j σ' H' _ ⟨_, _, e⟩ => Evl.ex_t e (SqT.of s8)
      · rintro j v σ' Ha H9 hj ⟨u4, rfl, e9⟩ ⟨rfl, hv⟩
        rw [List.length_map] at hj
        have hyi : (getR rs i).2[j]? = some (getR rs i).2[j] := List.getElem?_eq_getElem hj
        rw [List.getElem?_map, hyi] at hv
        cases hv
        have tk := take_one hyi
        have p1 := pr j
        have p2 := pr (j + 1)
        generalize (getR rs i).2[j] = y at hyi tk
        have ad : addN (List.range (f i)) ((getR rs i).2.take (j + 1)) = addI (addN (List.range (f i)) ((getR rs i).2.take j)) y := by
          rw [tk]
          show List.foldl addI _ _ = _
          rw [List.foldl_append] <;> rfl
        rw [ad] at p2 ⊢
        have q1 := pre_range p1
        have q2 := pre_range p2
        generalize addN (List.range (f i)) ((getR rs i).2.take j) = M at *
        have ty : ∀ {J : Hp}, TyX K J (itV y) (.type (tyD (itD y))) := dp_ty (dp_it y)
        refine ⟨_, rfl, itV y, .ty "str", _, _, _, rfl, .ty _, ty, k_str _, _, rfl, ?_⟩
        cases y with
        | inr s => exact ⟨_, rfl, e9⟩
        | inl b =>
          have q2 : (if b ∈ M then M else M ++ [b]) = List.range (if b ∈ M then M else M ++ [b]).length := q2
          have ea : addI M (.inl b) = if b ∈ M then M else M ++ [b] := rfl
          rw [ea]
          rw [show (!isT "str" (itD (.inl b))) = true from rfl, if_pos rfl]
          refine ⟨_, rfl, _, rfl, _, rfl, rfl, .inr ⟨_, rfl, _, _, rfl, rfl, ?_⟩⟩
          by_cases c : b ∈ M
          · have bl : b < M.length := by rw [q1] at c; exact List.mem_range.mp c
            rw [if_pos c, decide_eq_false (fun z : itV (.inl b) = V.int (M.length : Int) => by injection z with z; omega)]
            refine ⟨_, rfl, _, rfl, _, _, rfl, rfl, _, rfl, itF (decide_eq_false (by simp; omega)) ?_⟩
            refine ⟨some (itV (.inl b)), ?_, e9⟩
            simp
          · have bl : b = M.length := by
              rw [if_neg c] at q2
              have h1 : (M ++ [b])[M.length]? = some b := by simp
              rw [q2, List.getElem?_range (by simp)] at h1
              exact (Option.some.inj h1).symm
            rw [if_neg c, decide_eq_true (show itV (.inl b) = V.int (M.length : Int) from congrArg (fun n : Nat => V.int (n : Int)) bl)]
            refine ⟨_, rfl, _, rfl, _, _, rfl, rfl, _, rfl, itF (decide_eq_false (by simp; omega)) ?_⟩
            refine ⟨some (itV (.inl b)), ?_, e9⟩
            simp
      rintro σ' H9 ⟨u4, rfl, e9⟩
      rw [List.length_map, List.take_length, ← nx, List.length_range]
      have fi1 : i < f (i + 1) := by
        have h1 := (pr 0).length_le
        have e0 : (addN (List.range (f i)) ((getR rs i).2.take 0)).length = f i := List.length_range
        rw [e0, List.length_range] at h1
        omega
      refine ⟨_, rfl, _, rfl, _, _, rfl, rfl, _, rfl, itF (decide_eq_false (by omega)) ?_⟩
      exact ⟨_, _, _, rfl, e8.trans e9⟩
    rintro σ' H9 ⟨u2, u3, u4, rfl, e⟩
    rw [List.length_map, tl, hn]
    refine ⟨_, rfl, _, rfl, la, _, rfl, .inl (Evl.sq_of (e _ _ hla)), rfl, ?_⟩
    rw [List.length_map, tl, decide_eq_true rfl]
    exact q H9 e
abbrev N_law_any_table : List Str := ["_law_source_here", "_law_program", "_law_places", "_law_many", "_law_few", "_law_found", "_law_at", "_law_place", "_law_some", "_law_row", "_law_turn"]
theorem sc_law_any_table : FnScope N_law_any_table ["_law_source_here", "_law_program"] (defScope sd_law_any_table) := ⟨rfl, rfl, rfl, by decide +kernel, rfl, by decide +kernel, by decide +kernel⟩
theorem ok_law_any_table (T : Tx w h K mg) : Ok P w K mg base 8 ("_law_any_table", none) ["_law_source_here", "_law_program"] (sp_anyt K) := by
  obtain ⟨fd, F⟩ := F_law_any_table T
  refine ⟨fd, ?_, F.bindsN (fun _ _ _ _ _ _ us hl => match us, hl with | [_, _], _ => rfl), F.kp⟩
  obtain ⟨fd_law_choice, G_law_choice, bi_law_choice, kp_law_choice⟩ := ok_law_choice (P := P) (base := base) T
  obtain ⟨fd_law_draw, G_law_draw, bi_law_draw, kp_law_draw⟩ := ok_law_draw (P := P) (base := base) T
  obtain ⟨fd_Code_kind, G_Code_kind, bi_Code_kind, kp_Code_kind⟩ := ok_Code_kind (P := P) (base := base) T
  obtain ⟨fd_Code_places, G_Code_places, bi_Code_places, kp_Code_places⟩ := ok_Code_places (P := P) (base := base) T
  refine F.ok sc_law_any_table (fun vs H Q E h => ?_) (fun cdv A outer s H vs Q E hr h => ?_)
  · obtain ⟨F, A, rows, p, n, rfl, C, xF, fp, hl, pne, hp, hn, q⟩ := h
    rfl
  · obtain ⟨F, A, rows, p, n, rfl, C, xF, fp, hl, pne, hp, hn, q⟩ := h
    refine ⟨_, PSs.nox (pss_cons (ps_asg (pe_tup (pa_cons (pe_meth0 (pv 1) (c_Code T) (me_Code_places T) G_Code_places (hr.mono (by decide)) bi_Code_places .nil passF) (pa_cons (pe_op op_add pe_int (pe_call G_law_draw (hr.mono (by decide)) rfl (g_law_draw T) kp_law_draw bi_law_draw .nil passF (pa_cons (pv 0) (pa_cons pe_int pa_nil)))) pa_nil))) (pg_tup rfl (pgs_cons (pg_name (i := 2) sc_law_any_table.nd rfl (Or.inr rfl)) (pgs_cons (pg_name (i := 3) sc_law_any_table.nd rfl (Or.inl rfl)) pgs_nil)))) (pss_cons (ps_setLc (i := 4) (own := [("_law_turn", 10)]) rfl sc_law_any_table.nd rfl rfl (sw_true rfl rfl rfl (by decide +kernel)) (pi_range1 rfl (fr_range T) (pa_cons (pe_op op_add pe_int (pe_call G_law_draw (hr.mono (by decide)) rfl (g_law_draw T) kp_law_draw bi_law_draw .nil passF (pa_cons (pv 0) (pa_cons pe_int pa_nil)))) pa_nil)) (blkOk_by (N := N_law_any_table) (sc := defScope sd_law_any_table) (by decide +kernel)) (fun _ _ _ _ _ => (pg_name (i := 10) sc_law_any_table.nd rfl (Or.inl rfl))) (fun _ _ _ _ _ => pts_nil) (fun _ _ _ _ _ => (pe_call G_law_choice (hr.mono (by decide)) rfl (g_law_choice T) kp_law_choice bi_law_choice .nil passF (pa_cons (pv 0) (pa_cons (pv 2) pa_nil))))) (pss_cons (ps_set (i := 5) sc_law_any_table.nd rfl (Or.inl rfl) (pe_lst pa_nil)) (pss_cons (ps_for PassesOwn.never rfl (pi_range1 rfl (fr_range T) (pa_cons (pv 3) pa_nil)) (pg_name (i := 6) sc_law_any_table.nd rfl (Or.inl rfl)) (pss_cons (ps_set (i := 7) sc_law_any_table.nd rfl (Or.inl rfl) (pe_call G_law_choice (hr.mono (by decide)) rfl (g_law_choice T) kp_law_choice bi_law_choice .nil passF (pa_cons (pv 0) (pa_cons (pe_ix ix_list (pe_lst (pa_cons (pv 4) (pa_cons (pv 4) (pa_cons (pv 2) pa_nil)))) (pe_call G_law_draw (hr.mono (by decide)) rfl (g_law_draw T) kp_law_draw bi_law_draw .nil passF (pa_cons (pv 0) (pa_cons pe_int pa_nil))) (fun _ _ => rfl)) pa_nil)))) (pss_cons (ps_set (i := 8) sc_law_any_table.nd rfl (Or.inl rfl) (pe_lst (pa_cons (pe_call G_law_draw (hr.mono (by decide)) rfl (g_law_draw T) kp_law_draw bi_law_draw .nil passF (pa_cons (pv 0) (pa_cons (pv 3) pa_nil))) (pa_cons (pe_op op_mod (pe_callTy call_int1 rfl (fr_int T) b_int (pa_cons (pe_op op_add (pv 6) pe_int) pa_nil)) (pv 3)) (pa_cons pe_str (pa_cons pe_str (pa_cons pe_str (pa_cons (pe_call G_law_draw (hr.mono (by decide)) rfl (g_law_draw T) kp_law_draw bi_law_draw .nil passF (pa_cons (pv 0) (pa_cons (pv 3) pa_nil))) pa_nil)))))))) (pss_cons (ps_set (i := 9) sc_law_any_table.nd rfl (Or.inl rfl) (pe_tup (pa_cons (pv 7) (pa_cons (pe_call G_law_choice (hr.mono (by decide)) rfl (g_law_choice T) kp_law_choice bi_law_choice .nil passF (pa_cons (pv 0) (pa_cons (pv 8) pa_nil))) pa_nil)))) (Evl.pss_cut (ps_if (pt_cmpR op_in_seq (pe_meth (pv 1) (c_Code T) (me_Code_kind T) G_Code_kind (hr.mono (by decide)) bi_Code_kind .nil passF (pa_cons (pv 7) pa_nil)) (pe_tup (pa_cons pe_str (pa_cons pe_str (pa_cons pe_str pa_nil)))) (by rfl)) (pss_one (ps_set (i := 9) sc_law_any_table.nd rfl (Or.inl rfl) (pe_op op_catT (pv 9) (pe_tup (pa_cons (pe_call G_law_choice (hr.mono (by decide)) rfl (g_law_choice T) kp_law_choice bi_law_choice .nil passF (pa_cons (pv 0) (pa_cons (pv 8) pa_nil))) pa_nil))))) pss_nil) (pss_one (ps_expr (pe_bm PySem.F.plainAttrs_list PySem.F.slot_list_append PySem.F.type_list_append mt_append (pv 5) (pa_cons (pv 9) pa_nil))))))))) (pss_one (ps_ret (pv 5))))))), ?_⟩
    obtain ⟨vs0, C0, _⟩ := C.ex (Evl.Ex.refl _) xF
    refine ⟨_, rfl, A.p, _, _, rfl, C0.ob, fm_Code_places _ _ _ _ _, F, A, rows, rfl, C, xF, hl, fun H1 a1 x1 na1 s1 => ?_⟩
    have hp1 : SrcB H1 p n := hp.kp fun o h => x1 _ _ h
    refine ⟨_, rfl, p, n, 12, rfl, hp1, by omega, by decide, by decide, fun v2 H2 v20 v21 s2 o2 => ?_⟩
    obtain ⟨m, rfl⟩ : ∃ m : Nat, v2 = (m : Int) := ⟨v2.toNat, by omega⟩
    refine ⟨_, _, rfl, rfl, sz (by simp), ?_⟩
    have a1p : a1 ≠ p := ne_srcB hp na1
    intro p3 n3
    generalize e3 : upd _ p3 _ = H3
    obtain ⟨x3, s3, o3⟩ := new_of e3 n3
    clear e3
    refine ⟨p3, _, rfl, SqT.of s3, rfl, _, _, rfl, _, _, rfl, rfl, ?_⟩
    have sp3 : SrcB H3 p (n + 1) := s2.kp fun o h => x3 _ _ h
    have k03 : ∀ b o, b ≠ p → H b = some o → H3 b = some o := fun b o nb e => x3 _ _ (o2 b o nb (x1 _ _ e))
    refine ⟨_, rfl, p, n + 1, 3, rfl, sp3, by omega, by decide, by decide, fun v4 H4 v40 v41 s4 o4 => ?_⟩
    obtain ⟨m4, rfl⟩ : ∃ m : Nat, v4 = (m : Int) := ⟨v4.toNat, by omega⟩
    have k04 : ∀ b o, b ≠ p → H b = some o → H4 b = some o := fun b o nb e => o4 b o nb (k03 b o nb e)
    have l4 : H4 a1 = some (.lst (intsV (plN rows))) := o4 _ _ a1p (x3 _ _ (o2 _ _ a1p s1))
    have pll : (intsV (plN rows)).length ≤ 400 := by
      have := pl_len rows rows.length
      show ((plN rows).map _).length ≤ 400
      rw [List.length_map]
      unfold plN
      omega
    have pne' : intsV (plN rows) ≠ [] := fun z => pne (List.map_eq_nil_iff.mp z)
    refine ⟨_, _, rfl, rfl, _, rfl, by omega, by omega, fun D nD => ?_⟩
    have Dp : D ≠ p := ne_srcB s4 nD
    have en : ((1 : Int) + (m4 : Int)).toNat = 1 + m4 := by omega
    rw [en]
    refine lc_it (walk_range (lo := 0) (n := 1 + m4)) (fun i H' => ∃ xs : List V, xs.length = i ∧ (∀ x ∈ xs, x ∈ intsV (plN rows)) ∧ H' D = some (.lst xs) ∧ SrcB H' p (n + 2 + i) ∧ (∀ b o, b ≠ p → H4 b = some o → H' b = some o)) ?_ ?_ ?_ ?_
    · exact ⟨[], rfl, (fun x hx => nomatch hx), upd_same, s4.kp fun o h => exu (Evl.Ex.refl _) nD _ _ h, fun b o _ h => exu (Evl.Ex.refl _) nD _ _ h⟩
    · exact fun _ _ _ _ => True.intro
    · rintro i v2 Ja Jb hi ⟨xs, xl, xf, l2, sj, kj⟩ ⟨rfl, _⟩
      have hi : i < 1 + m4 := hi
      refine ⟨rfl, _, rfl, _, rfl, p, a1, n + 2 + i, _, rfl, sj, by omega, kj _ _ a1p l4, a1p, pne', by omega, fun H8 x hx s8 o8 => ?_⟩
      exact ⟨_, o8 _ _ Dp l2, szl (by omega), xs ++ [x], by simp; omega, fun y hy => (List.mem_append.mp hy).elim (xf y) fun h => by rw [List.mem_singleton.mp h]; exact hx, upd_same, s8.kp fun o h => by rw [upd_ne (Ne.symm Dp)]; exact h, fun b o nb e => by rw [upd_ne (ne_of_none e nD)]; exact o8 _ _ nb (kj b o nb e)⟩
    rintro H5 ⟨xs, xl, xf, l5, s5, k5⟩
    have xne : xs ≠ [] := fun z => by rw [z] at xl; simp at xl; omega
    refine ⟨sz (by simp), ?_⟩
    intro p6 n6
    generalize e6 : upd _ p6 _ = H6
    obtain ⟨x6, s6, o6⟩ := new_of e6 n6
    clear e6
    have k56 : ∀ b o, b ≠ p → H b = some o → H6 b = some o := fun b o nb e => x6 _ _ (k5 b o nb (k04 b o nb e))
    have p6p : p6 ≠ p := ne_srcB s5 n6
    have p6H : H p6 = none := by
      cases z : H p6 with
      | none => rfl
      | some o => have := k5 _ _ p6p (k04 _ _ p6p z); rw [this] at n6; cases n6
    refine ⟨_, rfl, _, rfl, by omega, by omega, ?_⟩
    rw [show ((1 : Int) + (m : Int)).toNat = 1 + m by omega]
    refine for_it (walk_range (lo := 0) (n := 1 + m)) (fun j σ' H' => ∃ (ts : List Addr) (rs : List TRow) (u6 u7 u8 u9 : Option V), σ' = [some (.ref p), some (.ref A.p), some (.ref a1), some (.int ((1 : Int) + (m : Int))), some (.ref D), some (.ref p6), u6, u7, u8, u9, none] ∧ (∀ b o, b ≠ p → b ≠ p6 → H6 b = some o → H' b = some o) ∧ SrcB H' p (n + 10 + 8 * j) ∧ H' p6 = some (.lst (ts.map V.ref)) ∧ RowsAt K H' ts rs ∧ rs.length = j ∧ ∀ r ∈ rs, TV rows (1 + m) r) ?_ ?_ ?_ ?_
    · exact ⟨[], [], _, _, _, _, rfl, fun b o _ _ h => h, (s5.kp fun o h => x6 _ _ h).up (by omega), s6, .nil, rfl, fun r hr => nomatch hr⟩
    · exact fun _ _ _ _ _ => True.intro
    rotate_left
    · rintro σ' H' ⟨ts, rs, u6, u7, u8, u9, rfl, k, s, l, ra, len, tv⟩
      exact ⟨_, rfl, q H' p6 ts rs (fun b o nb e => k b o nb (fun z => by rw [z, p6H] at e; cases e) (k56 b o nb e)) (s.up (by omega)) p6H p6p l ra (by omega) (by omega) (by rw [len]; exact tv)⟩
    rintro j vj σ' Ha H7 hj ⟨ts, rs, u6, u7, u8, u9, rfl, k, s, l, ra, len, tv⟩ ⟨rfl, rfl⟩
    have hj : j < 1 + m := hj
    have a1p6 : a1 ≠ p6 := fun z => by
      have := k5 _ _ a1p l4
      rw [z, n6] at this; cases this
    have Dp6 : D ≠ p6 := fun z => by rw [z, n6] at l5; cases l5
    have l7a : H7 a1 = some (.lst (intsV (plN rows))) := k _ _ a1p a1p6 (x6 _ _ (k5 _ _ a1p l4))
    have l7D : H7 D = some (.lst xs) := k _ _ Dp Dp6 (x6 _ _ l5)
    refine ⟨_, rfl, _, rfl, _, rfl, _, rfl, sz (by simp), ?_⟩
    intro p8 n8
    generalize e8 : upd _ p8 _ = H8
    obtain ⟨x8, s8, o8⟩ := new_of e8 n8
    clear e8
    have sp8 : SrcB H8 p (n + 10 + 8 * j) := s.kp fun o h => x8 _ _ h
    have p8p : p8 ≠ p := ne_srcB s n8
    refine ⟨_, rfl, p, n + 10 + 8 * j, 3, rfl, sp8, by omega, by decide, by decide, fun v9 H9 v90 v91 s9 o9 => ?_⟩
    obtain ⟨c9, rfl⟩ : ∃ m : Nat, v9 = (m : Int) := ⟨v9.toNat, by omega⟩
    have l8a := x8 _ _ l7a
    have l8D := x8 _ _ l7D
    obtain ⟨xa, ys, hxa, lxa, xap, yne, ylen, ysub⟩ : ∃ (xa : Addr) (ys : List V), [V.ref D, .ref D, .ref a1][c9]? = some (.ref xa) ∧ H9 xa = some (.lst ys) ∧ xa ≠ p ∧ ys ≠ [] ∧ ys.length < 1000 ∧ ∀ y ∈ ys, y ∈ intsV (plN rows) := by
      have : c9 = 0 ∨ c9 = 1 ∨ c9 = 2 := by omega
      rcases this with rfl | rfl | rfl
      · exact ⟨D, xs, rfl, o9 _ _ Dp l8D, Dp, xne, by omega, xf⟩
      · exact ⟨D, xs, rfl, o9 _ _ Dp l8D, Dp, xne, by omega, xf⟩
      · exact ⟨a1, _, rfl, o9 _ _ a1p l8a, a1p, pne', by omega, fun y hy => hy⟩
    refine ⟨p8, _, (c9 : Int), _, rfl, rfl, Evl.sq_of (o9 _ _ p8p s8), atI_nat (j := c9) hxa, p, xa, _, ys, rfl, s9, by omega, lxa, xap, yne, ylen, fun H10 x hx s10 o10 => ?_⟩
    obtain ⟨pl, hpl, rfl⟩ := List.mem_map.mp (ysub x hx)
    have plb := (List.mem_filter.mp hpl).2
    have pll2 : pl < rows.length := List.mem_range.mp (List.mem_filter.mp hpl).1
    obtain ⟨r, hr⟩ := row_at pll2
    refine ⟨_, rfl, _, rfl, p, _, _, rfl, s10, by omega, by omega, by omega, fun v11 H11 v110 v111 s11 o11 => ?_⟩
    refine ⟨_, rfl, _, _, rfl, rfl, .inl ⟨_, rfl, _, rfl, _, _, rfl, rfl, by show (0 : Int) < 1 + (m : Int); omega, ?_⟩⟩
    refine ⟨_, rfl, _, rfl, p, _, _, rfl, s11, by omega, by omega, by omega, fun v12 H12 v120 v121 s12 o12 => ?_⟩
    refine ⟨sz (by simp), ?_⟩
    intro p13 n13
    generalize e13 : upd _ p13 _ = H13
    obtain ⟨x13, s13, o13⟩ := new_of e13 n13
    clear e13
    have sp13 := s12.kp fun o h => x13 _ _ h
    have p13p : p13 ≠ p := ne_srcB s12 n13
    have k712 : ∀ b o, b ≠ p → H7 b = some o → H12 b = some o := fun b o nb e => o12 b o nb (o11 b o nb (o10 b o nb (o9 b o nb (x8 _ _ e))))
    have k713 : ∀ b o, b ≠ p → H7 b = some o → H13 b = some o := fun b o nb e => x13 _ _ (k712 b o nb e)
    have items : ∀ y ∈ [V.int v11, .int ((0 + (j : Int) + 1) % (1 + (m : Int))), .str "end", .str "return", .str "raise", .int v12], ∃ z, y = itV z ∧ ItOk (1 + m) z := fun y hy => by
      have md1 : 0 ≤ (0 + (j : Int) + 1) % (1 + (m : Int)) := Int.emod_nonneg _ (by omega)
      have md2 : (0 + (j : Int) + 1) % (1 + (m : Int)) < 1 + (m : Int) := Int.emod_lt_of_pos _ (by omega)
      have num : ∀ v : Int, 0 ≤ v → v < 1 + (m : Int) → ∃ z, V.int v = itV z ∧ ItOk (1 + m) z := fun v h1 h2 => ⟨.inl v.toNat, congrArg V.int (by omega), .inl ⟨_, rfl, by omega⟩⟩
      simp only [List.mem_cons, List.not_mem_nil, or_false] at hy
      rcases hy with rfl | rfl | rfl | rfl | rfl | rfl
      · exact num _ v110 v111
      · exact num _ md1 md2
      · exact ⟨.inr "end", rfl, .inr ⟨_, rfl, by simp [endsL]⟩⟩
      · exact ⟨.inr "return", rfl, .inr ⟨_, rfl, by simp [endsL]⟩⟩
      · exact ⟨.inr "raise", rfl, .inr ⟨_, rfl, by simp [endsL]⟩⟩
      · exact num _ v120 v121
    refine ⟨_, rfl, _, rfl, _, rfl, p, p13, _, _, rfl, sp13, by omega, s13, p13p, (fun z => by cases z), (by simp), fun H14 y hy s14 o14 => ?_⟩
    obtain ⟨z, rfl, zok⟩ := items y hy
    refine ⟨sz (by simp), ?_⟩
    intro p15 n15
    generalize e15 : upd _ p15 _ = H15
    obtain ⟨x15, s15, o15⟩ := new_of e15 n15
    clear e15
    have sp15 := s14.kp fun o h => x15 _ _ h
    have k715 : ∀ b o, b ≠ p → H7 b = some o → H15 b = some o := fun b o nb e => x15 _ _ (o14 b o nb (k713 b o nb e))
    have p15p : p15 ≠ p := ne_srcB s14 n15
    have p156 : p15 ≠ p6 := fun z => by
      have := o14 _ _ p6p (k713 _ _ p6p l)
      rw [← z, n15] at this; cases this
    have xF7 : Ex F H7 := fun b o e => by
      have bp : b ≠ p := fun z => by rw [z, fp] at e; cases e
      exact k b o bp (fun z => by have := xF b o e; rw [z, p6H] at this; cases this) (k56 b o bp (xF b o e))
    have xF15 : Ex F H15 := fun b o e => k715 b o (fun z => by rw [z, fp] at e; cases e) (xF7 b o e)
    obtain ⟨vs15, C15, _⟩ := C.ex (Evl.Ex.refl _) xF15
    have ek : kdR rows pl = kindD r.d := by unfold kdR; rw [List.getD_eq_getElem?_getD, hr] <;> rfl
    refine ⟨fun σ' H' => ∃ (q' : TRow) (t : Addr) (u6 u8 : Option V), σ' = [some (.ref p), some (.ref A.p), some (.ref a1), some (.int ((1 : Int) + (m : Int))), some (.ref D), some (.ref p6), u6, some (.int (pl : Int)), u8, some (.ref t), none] ∧ (∀ b o, b ≠ p → H7 b = some o → H' b = some o) ∧ SrcB H' p (n + 10 + 8 * (j + 1)) ∧ H' t = some (.tup (rowV q')) ∧ TV rows (1 + m) q', ?_, ?_⟩
    · refine ⟨_, rfl, A.p, _, _, rfl, C15.ob, fm_Code_kind _ _ _ _ _, _, rfl, F, A, rows, pl, r, rfl, C, xF15, hr, ?_⟩
      refine ⟨sz (by simp), ?_⟩
      intro p16 n16
      generalize e16 : upd _ p16 _ = H16
      obtain ⟨x16, s16, o16⟩ := new_of e16 n16
      clear e16
      have e16 : inV (.str (kindD r.d)) [.str "call", .str "if", .str "while"] = decide (kindD r.d ∈ askL) := inV_strs _ askL
      refine ⟨p16, _, rfl, .inr (SqT.of s16), rfl, flat_strs askL, _, rfl, ?_⟩
      rw [e16]
      have sp16 := sp15.kp fun o h => x16 _ _ h
      have k716 : ∀ b o, b ≠ p → H7 b = some o → H16 b = some o := fun b o nb e => x16 _ _ (k715 b o nb e)
      refine ite_of (fun c => ?_) (fun c => ?_)
      · have c : kindD r.d ∈ askL := of_decide_eq_true c
        refine ⟨_, rfl, _, rfl, _, rfl, p, p13, _, _, rfl, sp16, by omega, x16 _ _ (x15 _ _ (o14 _ _ p13p s13)), p13p, (fun z => by cases z), (by simp), fun H17 y hy s17 o17 => ?_⟩
        obtain ⟨z2, rfl, zok2⟩ := items y hy
        refine ⟨sz (by simp), ?_⟩
        intro p18 n18
        generalize e18 : upd _ p18 _ = H18
        obtain ⟨x18, s18, o18⟩ := new_of e18 n18
        clear e18
        refine ⟨p15, p18, _, _, rfl, rfl, SqT.of (x18 _ _ (o17 _ _ p15p (x16 _ _ s15))), SqT.of s18, (fun z => by cases z), sz (by simp), ⟨fun z => (by cases z), fun _ => ?_⟩⟩
        intro p19 n19
        generalize e19 : upd _ p19 _ = H19
        obtain ⟨x19, s19, o19⟩ := new_of e19 n19
        clear e19
        have x1719 := x18.trans x19
        refine ⟨(pl, [z, z2]), p19, _, _, rfl, fun b o nb e => x1719 _ _ (o17 _ _ nb (k716 b o nb e)), (s17.kp fun o h => x1719 _ _ h).up (by omega), s19, plb, ?_, fun y hy => ?_⟩
        · show 2 = 1 + _
          rw [ek, if_pos c]
        · simp only [List.mem_cons, List.not_mem_nil, or_false] at hy
          rcases hy with rfl | rfl
          · exact zok
          · exact zok2
      · have c : ¬ kindD r.d ∈ askL := of_decide_eq_false c
        refine ⟨(pl, [z]), p15, _, _, rfl, k716, sp16.up (by omega), x16 _ _ s15, plb, ?_, fun y hy => ?_⟩
        · show 1 = 1 + _
          rw [ek, if_neg c]
        · rw [List.mem_singleton.mp hy]
          exact zok
    rintro σ' H20 ⟨q', t, u6', u8', rfl, k20, s20, ht, tv20⟩
    have l20 := k20 _ _ p6p l
    have tl := rowsAt_len ra
    refine ⟨_, rfl, .inl ⟨rfl, _, Evl.sq_of l20⟩, _, rfl, p6, _, _, rfl, rfl, l20, szl (by rw [List.length_map]; omega), ?_⟩
    generalize e21 : upd _ p6 _ = H21
    obtain ⟨s21, o21⟩ := set_of e21
    clear e21
    have sq20 : ∀ c ys, SqT K H20 c ys → SqT K H21 c ys := fun c ys h => row_setL h l20 o21
    refine ⟨ts ++ [t], rs ++ [q'], _, _, _, _, rfl, fun b o nb n6 e => (o21 b n6).trans (k20 b o nb (k b o nb n6 e)), (s20.kp fun o h => (o21 p (Ne.symm p6p)).trans h).up (by omega), by rw [s21, List.map_append] <;> rfl, rowsAt_snoc (L2.Paired.mapP ra fun c y h => ?_) (sq20 _ _ (SqT.of ht)), by rw [List.length_append, len] <;> rfl, fun y hy => ?_⟩
    · have h : SqT K H7 c (rowV y) := h
      refine sq20 _ _ ?_
      rcases h with h | h
      · refine .inl ?_
        obtain ⟨_, _, _, hh, _⟩ := s
        rcases h with h | ⟨ob, h⟩
        · exact .inl (k20 _ _ (fun z => by rw [z, hh] at h; cases h) h)
        · exact .inr ⟨ob, k20 _ _ (fun z => by rw [z, hh] at h; cases h) h⟩
      · exact .inr h
    · rcases List.mem_append.mp hy with hy | hy
      · exact tv y hy
      · rw [List.mem_singleton.mp hy]; exact tv20
end
end Fc
set_option maxRecDepth 100000
set_option maxHeartbeats 4000000
namespace Fc
open PySem PySem.Spec PyProof.Rows L2 FcR
open Evl (Ex)
def sp_leafB (K : PySem.W.Frag) : Sp := fun vs H Q _ => ∃ (F : Hp) (p : Addr) (n loops : Nat), vs = [.ref p, .int (loops : Int)] ∧ Ex F H ∧ F p = none ∧ SrcB H p n ∧ n ≤ 900000000 ∧ loops < 1000 ∧
  ∀ (F' H' : Hp) (v : V) (d : PyData), Gr (fun b => b = p) F H F' H' → F' p = none → SrcB H' p (n + 2) → Dp K F' v d → (∀ r k b, 1 ≤ r → 1 ≤ k → b ≤ 25 → SB r k loops b d) → Q v H'
section
variable {P : Program} {w : World} {h : Heap} {K : PySem.W.Frag} {mg : Str → Option Value} {base : Heap}
abbrev N_law_leaf : List Str := ["_law_source_here", "_law_loops", "_law_way"]
theorem sc_law_leaf : FnScope N_law_leaf ["_law_source_here", "_law_loops"] (defScope sd_law_leaf) := ⟨rfl, rfl, rfl, by decide +kernel, rfl, by decide +kernel, by decide +kernel⟩
theorem ok_law_leaf (T : Tx w h K mg) : Ok P w K mg base 4 ("_law_leaf", none) ["_law_source_here", "_law_loops"] (sp_leafB K) := by
  obtain ⟨fd, F⟩ := F_law_leaf T
  refine ⟨fd, ?_, F.bindsN (fun _ _ _ _ _ _ us hl => match us, hl with | [_, _], _ => rfl), F.kp⟩
  obtain ⟨fd_law_draw, G_law_draw, bi_law_draw, kp_law_draw⟩ := ok_law_draw (P := P) (base := base) T
  obtain ⟨fd_law_name, G_law_name, bi_law_name, kp_law_name⟩ := ok_law_name (P := P) (base := base) T
  refine F.ok sc_law_leaf (fun vs H Q E h => ?_) (fun cdv A outer s H vs Q E hr h => ?_)
  · obtain ⟨F, p, n, loops, rfl, xF, fp, hp, hn, hlp, q⟩ := h
    rfl
  · obtain ⟨F, p, n, loops, rfl, xF, fp, hp, hn, hlp, q⟩ := h
    refine ⟨_, PSs.nox (pss_cons (ps_set (i := 2) sc_law_leaf.nd rfl (Or.inl rfl) (pe_call G_law_draw (hr.mono (by decide)) rfl (g_law_draw T) kp_law_draw bi_law_draw .nil passF (pa_cons (pv 0) (pa_cons pe_int pa_nil)))) (pss_cons (ps_if (pt_cmpR op_gt (pv 2) pe_int (nomark _)) (pss_one (ps_ret (pe_ix ix_list (pe_lst (pa_cons (pe_tup (pa_cons pe_str pa_nil)) (pa_cons (pe_tup (pa_cons pe_str pa_nil)) (pa_cons (pe_tup (pa_cons pe_str pa_nil)) pa_nil)))) (pe_op op_sub (pv 2) pe_int) (fun _ _ => rfl)))) pss_nil) (pss_cons (ps_if (PW.pt (pw_and (pt_cmpR op_gt (pv 2) pe_int (nomark _)) (pw_and1 (pt_cmpR op_gt (pv 1) pe_int (nomark _))))) (pss_one (ps_ret (pe_tup (pa_cons (pe_ix ix_list (pe_lst (pa_cons pe_str (pa_cons pe_str pa_nil))) (pe_op op_mod (pe_callTy call_int1 rfl (fr_int T) b_int (pa_cons (pv 2) pa_nil)) pe_int) (fun _ _ => rfl)) (pa_cons (pe_op op_add pe_int (pe_call G_law_draw (hr.mono (by decide)) rfl (g_law_draw T) kp_law_draw bi_law_draw .nil passF (pa_cons (pv 0) (pa_cons (pv 1) pa_nil)))) pa_nil))))) pss_nil) (pss_one (ps_ret (pe_tup (pa_cons (pe_ix ix_list (pe_lst (pa_cons pe_str (pa_cons pe_str pa_nil))) (pe_callTy call_int1 rfl (fr_int T) b_int (pa_cons (pe_cmpR op_gt (pv 2) pe_int (nomark _)) pa_nil)) (fun _ _ => rfl)) (pa_cons (pe_call G_law_name (hr.mono (by decide)) rfl (g_law_name T) kp_law_name bi_law_name .nil passF (pa_cons (pv 0) pa_nil)) pa_nil)))))))), ?_⟩
    refine ⟨_, rfl, p, n, 10, rfl, hp, by omega, by decide, by decide, fun v H1 v0 v1 s1 o1 => ?_⟩
    have g1 : Gr (fun b => b = p) F H F H1 := gr_kp xF fp o1
    have fin : ∀ {Hx H5 : Hp} {q5 : Addr} {xs : List V} {ds : List PyData}, Gr (fun b => b = p) F H F Hx → Hx q5 = none → H5 q5 = some (.tup xs) → (∀ b, b ≠ q5 → H5 b = Hx b) → SrcB Hx p (n + 2) → DpAll K (upd F q5 (.tup xs)) xs ds → (∀ r k b, 1 ≤ r → 1 ≤ k → b ≤ 25 → SB r k loops b (.tuple ds)) → Q (.ref q5) H5 := fun {Hx H5 q5 xs ds} g n5 s5 o5 sp da sd => by
      have pq : p ≠ q5 := fun z => by
        obtain ⟨b1, b2, b3, hb, _⟩ := sp
        rw [z, n5] at hb
        cases hb
      exact q (upd F q5 (.tup xs)) H5 _ _ (g.trans (Gr.frz g.fh n5 s5 o5)) (by rw [upd_ne pq]; exact fp) (sp.kp fun o h => by rw [o5 p pq]; exact h) (.tup (Evl.st_of upd_same) da) sd
    refine ⟨_, rfl, _, _, rfl, rfl, _, rfl, ite_of (fun h2 => ?_) (fun h2 => ?_)⟩
    · have h2 := of_decide_eq_true h2
      refine ⟨sz (by simp), ?_⟩
      intro p2 n2
      generalize e2 : upd _ p2 _ = H2
      obtain ⟨x2, s2, o2⟩ := new_of e2 n2
      clear e2
      refine ⟨sz (by simp), ?_⟩
      intro p3 n3
      generalize e3 : upd _ p3 _ = H3
      obtain ⟨x3, s3, o3⟩ := new_of e3 n3
      clear e3
      refine ⟨sz (by simp), ?_⟩
      intro p4 n4
      generalize e4 : upd _ p4 _ = H4
      obtain ⟨x4, s4, o4⟩ := new_of e4 n4
      clear e4
      refine ⟨sz (by simp), ?_⟩
      intro p5 n5
      generalize e5 : upd _ p5 _ = H5
      obtain ⟨x5, s5, o5⟩ := new_of e5 n5
      clear e5
      have x15 : Ex H1 H5 := x2.trans (x3.trans (x4.trans x5))
      have g5 := g1.trans (Gr.new g1.fh x15)
      have hx : ∀ {b : Addr}, H1 b = none → H b = none := fun {b} hb => by
        cases z : H b with
        | none => rfl
        | some o =>
          by_cases e : b = p
          · obtain ⟨_, _, _, hs, _⟩ := s1
            rw [e, hs] at hb
            cases hb
          · rw [o1 b o e z] at hb
            cases hb
      obtain ⟨j, hj, hj3⟩ : ∃ j : Nat, v - 7 = (j : Int) ∧ j < 3 := ⟨(v - 7).toNat, by omega, by omega⟩
      obtain ⟨px, kq, hpx, hpn, hps, hkq⟩ : ∃ (px : Addr) (kq : Str), [V.ref p2, .ref p3, .ref p4][j]? = some (.ref px) ∧ H1 px = none ∧ H5 px = some (.tup [.str kq]) ∧ (kq = "return" ∨ kq = "raise") := by
        have : j = 0 ∨ j = 1 ∨ j = 2 := by omega
        rcases this with rfl | rfl | rfl
        · exact ⟨p2, _, rfl, n2, x5 _ _ (x4 _ _ (x3 _ _ s2)), .inl rfl⟩
        · exact ⟨p3, _, rfl, ex_none x2 n3, x5 _ _ (x4 _ _ s3), .inr rfl⟩
        · exact ⟨p4, _, rfl, ex_none (x2.trans x3) n4, x5 _ _ s4, .inr rfl⟩
      refine ⟨_, rfl, _, _, rfl, rfl, p5, _, (j : Int), .ref px, rfl, congrArg V.int hj, Evl.sq_of s5, atI_nat hpx, ?_⟩
      have pp : p ≠ px := fun z => by obtain ⟨_, _, _, hs, _⟩ := s1; rw [z, hpn] at hs; cases hs
      refine q (upd F px (.tup [.str kq])) H5 _ _ (g5.frzAt (hx hpn) hps (ex_none xF (hx hpn))) (by rw [upd_ne pp]; exact fp) ((s1.kp fun o h => x15 _ _ h).up (by omega)) (.tup (Evl.st_of upd_same) (.cons (.str _) .nil)) fun r k b h1 h2 h3 => sb_ret h1 h2 h3 hkq
    refine ⟨_, rfl, _, _, rfl, rfl, _, rfl, ?_⟩
    by_cases hv2 : 2 < v
    · by_cases hl0 : 0 < loops
      · refine itT (decide_eq_true hv2) ?_
        refine ⟨_, rfl, _, _, rfl, rfl, _, rfl, itT (decide_eq_true (show (0 : Int) < (loops : Int) by omega)) ?_⟩
        refine ⟨sz (by simp), ?_⟩
        intro p2 n2
        generalize e2 : upd _ p2 _ = H2
        obtain ⟨x2, s2, o2⟩ := new_of e2 n2
        clear e2
        obtain ⟨j, hj, hj2⟩ : ∃ j : Nat, v % 2 = (j : Int) ∧ j < 2 := ⟨(v % 2).toNat, by omega, by omega⟩
        obtain ⟨kq, hkq, kk⟩ : ∃ kq : Str, [V.str "break", .str "continue"][j]? = some (.str kq) ∧ (kq = "break" ∨ kq = "continue") := by
          have : j = 0 ∨ j = 1 := by omega
          rcases this with rfl | rfl
          · exact ⟨_, rfl, .inl rfl⟩
          · exact ⟨_, rfl, .inr rfl⟩
        refine ⟨_, rfl, .inl ⟨_, rfl, _, _, rfl, rfl, (show (0 : Int) < 2 by decide), p2, _, (j : Int), .str kq, rfl, congrArg V.int hj, Evl.sq_of s2, atI_nat hkq, ?_⟩⟩
        have pn : p2 ≠ p := fun z => by obtain ⟨_, _, _, h, _⟩ := s1; rw [z, h] at n2; cases n2
        refine ⟨_, rfl, _, rfl, p, n + 1, _, rfl, s1.kp fun o h => x2 _ _ h, by omega, by omega, by omega, fun v' H3 w0 w1 s3 o3 => ?_⟩
        refine ⟨_, _, rfl, rfl, sz (by simp), ?_⟩
        intro p4 n4
        generalize e4 : upd _ p4 _ = H4
        obtain ⟨x4, s4, o4⟩ := new_of e4 n4
        clear e4
        have g2 := g1.trans (Gr.new g1.fh x2)
        have g3 := g2.trans (gr_kp g2.fh fp o3)
        exact fin g3 n4 s4 o4 s3 (.cons (.str _) (.cons (.int _) .nil)) fun r k b h1 h2 h3 => sb_jmp h1 h2 h3 kk (by omega) (by omega)
      · refine itT (decide_eq_true hv2) ?_
        refine ⟨_, rfl, _, _, rfl, rfl, _, rfl, itF (decide_eq_false (show ¬ (0 : Int) < (loops : Int) by omega)) ?_⟩
        refine ⟨sz (by simp), ?_⟩
        intro p2 n2
        generalize e2 : upd _ p2 _ = H2
        obtain ⟨x2, s2, o2⟩ := new_of e2 n2
        clear e2
        obtain ⟨kq, hkq, kk⟩ : ∃ kq : Str, [V.str "do", .str "call"][(if decide (0 < v) = true then 1 else 0 : Nat)]? = some (.str kq) ∧ (kq = "do" ∨ kq = "call") := by
          cases decide (0 < v)
          · exact ⟨_, rfl, .inl rfl⟩
          · exact ⟨_, rfl, .inr rfl⟩
        have hji : (if decide (0 < v) = true then (1 : Int) else 0) = ((if decide (0 < v) = true then 1 else 0 : Nat) : Int) := by cases decide (0 < v) <;> rfl
        refine ⟨_, rfl, _, _, rfl, rfl, .inr ⟨_, rfl, p2, _, _, .str kq, rfl, congrArg V.int hji, Evl.sq_of s2, atI_nat hkq, ?_⟩⟩
        refine ⟨_, rfl, p, n + 1, rfl, s1.kp fun o h => x2 _ _ h, by omega, fun H3 nm hm s3 o3 => ?_⟩
        refine ⟨sz (by simp), ?_⟩
        intro p4 n4
        generalize e4 : upd _ p4 _ = H4
        obtain ⟨x4, s4, o4⟩ := new_of e4 n4
        clear e4
        have g2 := g1.trans (Gr.new g1.fh x2)
        have g3 := g2.trans (gr_kp g2.fh fp o3)
        exact fin g3 n4 s4 o4 s3 (.cons (.str _) (.cons (.str _) .nil)) fun r k b h1 h2 h3 => sb_do h1 h2 h3 kk hm
    · refine itF (decide_eq_false hv2) ?_
      refine ⟨sz (by simp), ?_⟩
      intro p2 n2
      generalize e2 : upd _ p2 _ = H2
      obtain ⟨x2, s2, o2⟩ := new_of e2 n2
      clear e2
      obtain ⟨kq, hkq, kk⟩ : ∃ kq : Str, [V.str "do", .str "call"][(if decide (0 < v) = true then 1 else 0 : Nat)]? = some (.str kq) ∧ (kq = "do" ∨ kq = "call") := by
        cases decide (0 < v)
        · exact ⟨_, rfl, .inl rfl⟩
        · exact ⟨_, rfl, .inr rfl⟩
      have hji : (if decide (0 < v) = true then (1 : Int) else 0) = ((if decide (0 < v) = true then 1 else 0 : Nat) : Int) := by cases decide (0 < v) <;> rfl
      refine ⟨_, rfl, _, _, rfl, rfl, .inr ⟨_, rfl, p2, _, _, .str kq, rfl, congrArg V.int hji, Evl.sq_of s2, atI_nat hkq, ?_⟩⟩
      refine ⟨_, rfl, p, n + 1, rfl, s1.kp fun o h => x2 _ _ h, by omega, fun H3 nm hm s3 o3 => ?_⟩
      refine ⟨sz (by simp), ?_⟩
      intro p4 n4
      generalize e4 : upd _ p4 _ = H4
      obtain ⟨x4, s4, o4⟩ := new_of e4 n4
      clear e4
      have g2 := g1.trans (Gr.new g1.fh x2)
      have g3 := g2.trans (gr_kp g2.fh fp o3)
      exact fin g3 n4 s4 o4 s3 (.cons (.str _) (.cons (.str _) .nil)) fun r k b h1 h2 h3 => sb_do h1 h2 h3 kk hm
end
end Fc
set_option maxRecDepth 100000
set_option maxHeartbeats 4000000
namespace Fc
open PySem PySem.Spec PyProof.Rows L2 FcR
open Evl (Ex)
theorem sbs_nil {k l b r : Nat} {ds : List PyData} (h : SBs k l b r ds) : ds = [] → r = 0 := by
  cases h with
  | nil => exact fun _ => rfl
  | snoc => intro e; simp at e
def sp_stmB (K : PySem.W.Frag) (n : Nat) : Sp := fun vs H Q _ => ∃ (F : Hp) (p : Addr) (m room deep loops blocks : Nat), vs = [.ref p, .int (room : Int), .int (deep : Int), .int (loops : Int), .int (blocks : Int)] ∧ deep ≤ n ∧ 1 ≤ room ∧ 1 ≤ deep ∧ room ≤ 400 ∧ loops + deep ≤ 900 ∧ blocks ≤ 25 ∧ Ex F H ∧ F p = none ∧ SrcB H p m ∧ m + 8 * room ≤ 900000000 ∧
  ∀ (F' H' : Hp) (v : V) (d : PyData), Gr (fun b => b = p) F H F' H' → F' p = none → SrcB H' p (m + 8 * room) → Dp K F' v d → SB room deep loops blocks d → Q v H'
section
variable {P : Program} {w : World} {h : Heap} {K : PySem.W.Frag} {mg : Str → Option Value} {base : Heap}
theorem st_preB (n : Nat) (IH : ∀ m, m < n → Ok P w K mg base (m + 5) ("_law_statement", none) ["_law_source_here", "_law_room", "_law_deep", "_law_loops", "_law_blocks"] (sp_stmB K m)) (T : Tx w h K mg) :
    Ok P w K mg base (n + 4) ("_law_statement", none) ["_law_source_here", "_law_room", "_law_deep", "_law_loops", "_law_blocks"] (fun vs H Q E => ∃ m, m < n ∧ sp_stmB K m vs H Q E) := by
  cases n with
  | zero =>
    obtain ⟨fd, F⟩ := F_law_statement T
    refine ⟨fd, ⟨fun vs H Q E h => ?_, fun A outer s H args us vs Q E _ _ _ _ h => ?_⟩, F.bindsN (fun _ _ _ _ _ _ us hl => match us, hl with | [_, _, _, _, _], _ => rfl), F.kp⟩
    · obtain ⟨m, h, _⟩ := h
      exact absurd h (Nat.not_lt_zero _)
    · obtain ⟨m, h, _⟩ := h
      exact absurd h (Nat.not_lt_zero _)
  | succ n =>
    obtain ⟨fd, G, b, kp⟩ := IH n (Nat.lt_succ_self _)
    refine ⟨fd, G.imp fun vs H Q E h => ?_, b, kp⟩
    obtain ⟨m, hm, F, p, m0, room, deep, loops, blocks, e, hd, r⟩ := h
    exact ⟨F, p, m0, room, deep, loops, blocks, e, by omega, r⟩
abbrev N_law_statement : List Str := ["_law_source_here", "_law_room", "_law_deep", "_law_loops", "_law_blocks", "_law_way", "_law_parts", "_law_rest", "_law_turn", "_law_share", "_law_one", "_law_other"]
theorem sc_law_statement : FnScope N_law_statement ["_law_source_here", "_law_room", "_law_deep", "_law_loops", "_law_blocks"] (defScope sd_law_statement) := ⟨rfl, rfl, rfl, by decide +kernel, rfl, by decide +kernel, by decide +kernel⟩
theorem ok_law_statement (n : Nat) (IH : ∀ m, m < n → Ok P w K mg base (m + 5) ("_law_statement", none) ["_law_source_here", "_law_room", "_law_deep", "_law_loops", "_law_blocks"] (sp_stmB K m)) (T : Tx w h K mg) : Ok P w K mg base (n+5) ("_law_statement", none) ["_law_source_here", "_law_room", "_law_deep", "_law_loops", "_law_blocks"] (sp_stmB K n) := by
  obtain ⟨fd, F⟩ := F_law_statement T
  refine ⟨fd, ?_, F.bindsN (fun _ _ _ _ _ _ us hl => match us, hl with | [_, _, _, _, _], _ => rfl), F.kp⟩
  obtain ⟨fd_law_draw, G_law_draw, bi_law_draw, kp_law_draw⟩ := ok_law_draw (P := P) (base := base) T
  obtain ⟨fd_law_leaf, G_law_leaf, bi_law_leaf, kp_law_leaf⟩ := ok_law_leaf (P := P) (base := base) T
  obtain ⟨fd_law_name, G_law_name, bi_law_name, kp_law_name⟩ := ok_law_name (P := P) (base := base) T
  obtain ⟨fd_law_statement, G_law_statement, bi_law_statement, kp_law_statement⟩ : Ok P w K mg base (n + 4) ("_law_statement", none) ["_law_source_here", "_law_room", "_law_deep", "_law_loops", "_law_blocks"] (fun vs H Q E => ∃ m, m < n ∧ sp_stmB K m vs H Q E) := st_preB n IH T
  refine F.ok sc_law_statement (fun vs H Q E h => ?_) (fun cdv A outer s H vs Q E hr h => ?_)
  · obtain ⟨F, p, m, room, deep, loops, blocks, rfl, hn, r1, d1, r4, hlp, hbl, xF, fp, hp, hm, q⟩ := h
    rfl
  · obtain ⟨F, p, m, room, deep, loops, blocks, rfl, hn, r1, d1, r4, hlp, hbl, xF, fp, hp, hm, q⟩ := h
    refine ⟨_, PSs.nox (pss_cons (ps_set (i := 5) sc_law_statement.nd rfl (Or.inl rfl) (pe_call G_law_draw (hr.mono (by omega)) rfl (g_law_draw T) kp_law_draw bi_law_draw .nil passF (pa_cons (pv 0) (pa_cons pe_int pa_nil)))) (pss_cons (ps_if (PW.pt (pw_or (pt_cmpR op_lt (pv 1) pe_int (nomark _)) (pw_or (pt_cmpR op_lt (pv 2) pe_int (nomark _)) (pw_or1 (pt_cmpR op_eq (pv 5) pe_int (nomark _)))))) (pss_one (ps_ret (pe_call G_law_leaf (hr.mono (by omega)) rfl (g_law_leaf T) kp_law_leaf bi_law_leaf .nil passF (pa_cons (pv 0) (pa_cons (pv 3) pa_nil))))) pss_nil) (pss_cons (ps_if (pt_cmpR op_lt (pv 5) pe_int (nomark _)) (pss_one (ps_ret (pe_tup (pa_cons pe_str (pa_cons (pe_call G_law_name (hr.mono (by omega)) rfl (g_law_name T) kp_law_name bi_law_name .nil passF (pa_cons (pv 0) pa_nil)) (pa_cons (pe_call G_law_statement (hr.mono (by omega)) rfl (g_law_statement T) kp_law_statement bi_law_statement .nil passF (pa_cons (pv 0) (pa_cons (pe_op op_sub (pv 1) pe_int) (pa_cons (pe_op op_sub (pv 2) pe_int) (pa_cons (pe_op op_add (pv 3) pe_int) (pa_cons (pv 4) pa_nil)))))) pa_nil)))))) pss_nil) (pss_cons (ps_if (PW.pt (pw_or (pt_cmpR op_lt (pv 1) pe_int (nomark _)) (pw_or1 (pt_cmpR op_gt (pv 5) pe_int (nomark _))))) (pss_cons (ps_par rfl sc_law_statement.nd (i := 6) (j := 7) rfl rfl (by decide) rfl rfl (pa_cons (pe_lst pa_nil) (pa_cons (pe_op op_sub (pv 1) pe_int) pa_nil)) (by rfl)) (pss_cons (ps_for PassesOwn.never rfl (pi_range1 rfl (fr_range T) (pa_cons (pe_op op_add pe_int (pe_call G_law_draw (hr.mono (by omega)) rfl (g_law_draw T) kp_law_draw bi_law_draw .nil passF (pa_cons (pv 0) (pa_cons pe_int pa_nil)))) pa_nil)) (pg_name (i := 8) sc_law_statement.nd rfl (Or.inl rfl)) (pss_one (ps_if (pt_cmpR op_gt (pv 7) pe_int (nomark _)) (pss_cons (ps_set (i := 9) sc_law_statement.nd rfl (Or.inl rfl) (pe_op op_add pe_int (pe_call G_law_draw (hr.mono (by omega)) rfl (g_law_draw T) kp_law_draw bi_law_draw .nil passF (pa_cons (pv 0) (pa_cons (pv 7) pa_nil))))) (pss_cons (ps_expr (pe_bm PySem.F.plainAttrs_list PySem.F.slot_list_append PySem.F.type_list_append mt_append (pv 6) (pa_cons (pe_call G_law_statement (hr.mono (by omega)) rfl (g_law_statement T) kp_law_statement bi_law_statement .nil passF (pa_cons (pv 0) (pa_cons (pv 9) (pa_cons (pe_op op_sub (pv 2) pe_int) (pa_cons (pv 3) (pa_cons (pv 4) pa_nil)))))) pa_nil))) (pss_one (ps_set (i := 7) sc_law_statement.nd rfl (Or.inl rfl) (pe_op op_sub (pv 7) (pv 9)))))) pss_nil))) (pss_one (ps_ret (pe_tup (pa_cons pe_str (pa_cons (pe_callTy call_tuple_of rfl (fr_tuple T) b_tuple (pa_cons (pv 6) pa_nil)) pa_nil))))))) pss_nil) (pss_cons (ps_set (i := 9) sc_law_statement.nd rfl (Or.inl rfl) (pe_op op_add pe_int (pe_call G_law_draw (hr.mono (by omega)) rfl (g_law_draw T) kp_law_draw bi_law_draw .nil passF (pa_cons (pv 0) (pa_cons (pe_op op_sub (pv 1) pe_int) pa_nil))))) (pss_cons (ps_set (i := 10) sc_law_statement.nd rfl (Or.inl rfl) (pe_call G_law_statement (hr.mono (by omega)) rfl (g_law_statement T) kp_law_statement bi_law_statement .nil passF (pa_cons (pv 0) (pa_cons (pv 9) (pa_cons (pe_op op_sub (pv 2) pe_int) (pa_cons (pv 3) (pa_cons (pv 4) pa_nil))))))) (pss_cons (ps_if (PW.pt (pw_and (pt_cmpR op_lt (pv 5) pe_int (nomark _)) (pw_and1 (pt_cmpR op_lt (pv 4) pe_int (nomark _))))) (pss_one (ps_ret (pe_tup (pa_cons pe_str (pa_cons (pv 10) (pa_cons (pe_call G_law_statement (hr.mono (by omega)) rfl (g_law_statement T) kp_law_statement bi_law_statement .nil passF (pa_cons (pv 0) (pa_cons (pe_op op_sub (pe_op op_sub (pv 1) pe_int) (pv 9)) (pa_cons (pe_op op_sub (pv 2) pe_int) (pa_cons (pv 3) (pa_cons (pe_op op_add (pv 4) pe_int) pa_nil)))))) pa_nil)))))) pss_nil) (pss_cons (ps_set (i := 11) sc_law_statement.nd rfl (Or.inl rfl) (pe_call G_law_statement (hr.mono (by omega)) rfl (g_law_statement T) kp_law_statement bi_law_statement .nil passF (pa_cons (pv 0) (pa_cons (pe_op op_sub (pe_op op_sub (pv 1) pe_int) (pv 9)) (pa_cons (pe_op op_sub (pv 2) pe_int) (pa_cons (pv 3) (pa_cons (pv 4) pa_nil))))))) (pss_one (ps_ret (pe_ifExp (pt_cmpR op_eq (pv 5) pe_int (nomark _)) (pe_tup (pa_cons pe_str (pa_cons (pv 10) (pa_cons (pv 11) pa_nil)))) (pe_tup (pa_cons pe_str (pa_cons (pe_call G_law_name (hr.mono (by omega)) rfl (g_law_name T) kp_law_name bi_law_name .nil passF (pa_cons (pv 0) pa_nil)) (pa_cons (pv 10) (pa_cons (pv 11) pa_nil)))))))))))))))), ?_⟩
    refine ⟨_, rfl, p, m, 12, rfl, hp, by omega, by decide, by decide, fun v H1 v0 v1 s1 o1 => ?_⟩
    have g1 : Gr (fun b => b = p) F H F H1 := gr_kp xF fp o1
    have leafQ : sp_leafB K [.ref p, .int (loops : Int)] H1 Q (fun _ _ _ => False) := ⟨F, p, m + 1, loops, rfl, g1.fh, fp, s1, by omega, by omega, fun F' H' v d g' f' s' dv sb => q F' H' v d (g1.trans g') f' (s'.up (by omega)) dv (sb _ _ _ r1 d1 hbl)⟩
    have fin : ∀ {F4 H4 H5 : Hp} {q5 : Addr} {xs : List V} {ds : List PyData} {m' : Nat}, Gr (fun b => b = p) F H F4 H4 → F4 p = none → H4 q5 = none → H5 q5 = some (.tup xs) → (∀ b, b ≠ q5 → H5 b = H4 b) → SrcB H4 p m' → m' ≤ m + 8 * room → DpAll K F4 xs ds → SB room deep loops blocks (.tuple ds) → Q (.ref q5) H5 := fun {F4 H4 H5 q5 xs ds m'} g f4 n5 s5 o5 sp hm' da sd => by
      have pq : p ≠ q5 := fun z => by
        obtain ⟨b1, b2, b3, hb, _⟩ := sp
        rw [z, n5] at hb
        cases hb
      exact q (upd F4 q5 (.tup xs)) H5 _ _ (g.trans (Gr.frz g.fh n5 s5 o5)) (by rw [upd_ne pq]; exact f4) ((sp.kp fun o h => by rw [o5 p pq]; exact h).up hm') (.tup (Evl.st_of upd_same) (dpA_ex (exu (Evl.Ex.refl _) (ex_none g.fh n5)) da)) sd
    have rec_ : ∀ {F4 H4 : Hp} {m' rm lp bk : Nat} {ri di li bi : Int} {Q' : VK}, ri = (rm : Int) → di = ((deep - 1 : Nat) : Int) → li = (lp : Int) → bi = (bk : Int) → 2 ≤ deep → Gr (fun b => b = p) F H F4 H4 → F4 p = none → SrcB H4 p m' → m' + 8 * rm ≤ 900000000 → 1 ≤ rm → rm ≤ 400 → lp + deep ≤ 901 → bk ≤ 25 → (∀ (F' H' : Hp) (v : V) (d : PyData), Gr (fun b => b = p) F4 H4 F' H' → F' p = none → SrcB H' p (m' + 8 * rm) → Dp K F' v d → SB rm (deep - 1) lp bk d → Q' v H') →
        (∃ k, k < n ∧ sp_stmB K k [.ref p, .int ri, .int di, .int li, .int bi] H4 Q' (fun _ _ _ => False)) := fun {F4 H4 m' rm lp bk ri di li bi Q'} e1 e2 e3 e4 d2 g f4 s4 hm' hr1 hr4 hl hb hq => by
      rw [e1, e2, e3, e4]
      exact ⟨deep - 1, by omega, F4, p, m', rm, deep - 1, lp, bk, rfl, Nat.le_refl _, hr1, by omega, hr4, by omega, hb, g.fh, f4, s4, hm', hq⟩
    by_cases hr2 : room < 2
    · refine ⟨_, rfl, _, _, rfl, rfl, _, rfl, itT (decide_eq_true (show (room : Int) < 2 by omega)) ?_⟩
      exact ⟨_, rfl, _, rfl, leafQ⟩
    refine ⟨_, rfl, _, _, rfl, rfl, _, rfl, itF (decide_eq_false (show ¬ (room : Int) < 2 by omega)) ?_⟩
    by_cases hd2 : deep < 2
    · refine ⟨_, rfl, _, _, rfl, rfl, _, rfl, itT (decide_eq_true (show (deep : Int) < 2 by omega)) ?_⟩
      exact ⟨_, rfl, _, rfl, leafQ⟩
    refine ⟨_, rfl, _, _, rfl, rfl, _, rfl, itF (decide_eq_false (show ¬ (deep : Int) < 2 by omega)) ?_⟩
    refine ⟨_, rfl, rfl, _, rfl, ite_of (fun h0 => ?_) (fun h0 => ?_)⟩
    · exact ⟨_, rfl, _, rfl, leafQ⟩
    obtain ⟨dm, rfl⟩ : ∃ dm, deep = dm + 1 := ⟨deep - 1, by omega⟩
    obtain ⟨rr, rfl⟩ : ∃ rr, room = rr + 1 := ⟨room - 1, by omega⟩
    have edm : ((dm + 1 : Nat) : Int) - 1 = ((dm + 1 - 1 : Nat) : Int) := by omega
    have hdd : dm + 1 - 1 = dm := rfl
    refine ⟨_, rfl, _, _, rfl, rfl, _, rfl, ite_of (fun h3 => ?_) (fun h3 => ?_)⟩
    · -- while
      refine ⟨_, rfl, p, m + 1, rfl, s1, by omega, fun H2 nm hnm s2 o2 => ?_⟩
      have g2 := g1.trans (gr_kp g1.fh fp o2)
      refine ⟨_, rfl, _, rfl, _, _, rfl, rfl, _, rfl, _, _, rfl, rfl, _, rfl, _, _, rfl, rfl, _, rfl, ?_⟩
      refine rec_ (rm := rr) (lp := loops + 1) (bk := blocks) (by show ((rr + 1 : Nat) : Int) - 1 = _; omega) edm (by omega) rfl (by omega) g2 fp s2 (by omega) (by omega) (by omega) (by omega) hbl fun F3 H3 va da g3 f3 s3 dva sba => ?_
      refine ⟨sz (by simp), ?_⟩
      intro p4 n4
      generalize e4 : upd _ p4 _ = H4
      obtain ⟨x4, s4, o4⟩ := new_of e4 n4
      clear e4
      exact fin (g2.trans g3) f3 n4 s4 o4 s3 (by omega) (.cons (.str _) (.cons (.str _) (.cons dva .nil))) (sb_whl hnm hbl sba)
    by_cases hr3 : rr + 1 < 3
    · refine ⟨_, rfl, _, _, rfl, rfl, _, rfl, itT (decide_eq_true (show ((rr + 1 : Nat) : Int) < 3 by omega)) ?_⟩
      refine ⟨sz (by simp), ?_⟩
      intro p2 n2
      generalize e2 : upd _ p2 _ = H2
      obtain ⟨x2, s2, o2⟩ := new_of e2 n2
      clear e2
      refine ⟨_, rfl, _, _, rfl, rfl, _, _, rfl, ?_⟩
      have p2p : p2 ≠ p := fun z => by obtain ⟨_, _, _, h, _⟩ := s1; rw [z, h] at n2; cases n2
      have nH2 : H p2 = none := by
        cases z : H p2 with
        | none => rfl
        | some o => rw [o1 p2 o p2p z] at n2; cases n2
      refine ⟨_, rfl, p, m + 1, 4, rfl, s1.kp fun o h => x2 _ _ h, by omega, by decide, by decide, fun c H3 c0 c1 s3 o3 => ?_⟩
      have g2 := g1.trans (Gr.new g1.fh x2)
      have g3 := g2.trans (gr_kp g2.fh fp o3)
      have l3 := o3 p2 _ p2p s2
      refine ⟨_, _, rfl, rfl, _, rfl, (by omega), (by omega), ?_⟩
      obtain ⟨cn, hcn⟩ : ∃ cn : Nat, ((1 : Int) + c).toNat = cn := ⟨_, rfl⟩
      rw [hcn]
      refine for_it (walk_range (lo := 0) (n := cn)) (fun i σ' H' => ∃ (F' : Hp) (ds : List PyData) (vs : List V) (rest used : Nat) (o8 o9 : Option V), σ' = [some (.ref p), some (.int ((rr + 1 : Nat) : Int)), some (.int ((dm + 1 : Nat) : Int)), some (.int (loops : Int)), some (.int (blocks : Int)), some (.int v), some (.ref p2), some (.int (rest : Int)), o8, o9, none, none] ∧ Gr (fun b => b = p) F H F' H' ∧ F' p = none ∧ F' p2 = none ∧ H' p2 = some (.lst vs) ∧ DpAll K F' vs ds ∧ SBs dm loops blocks used ds ∧ used + rest = rr ∧ ds.length ≤ i ∧ (1 ≤ i → ds ≠ []) ∧ SrcB H' p (m + 2 + i + 8 * used)) ?_ ?_ ?_ ?_
      · exact ⟨F, [], [], rr, 0, _, _, (by have e : ((rr + 1 : Nat) : Int) - 1 = (rr : Int) := by omega
                                           rw [← e] <;> rfl), g3, fp, ex_none g1.fh n2, l3, .nil, .nil, by omega, Nat.le_refl _, fun z => absurd z (by decide), s3.up (by omega)⟩
      · exact fun _ _ _ _ _ => True.intro
      · rintro i vi σ' Ha H4 hi ⟨F4, ds, vs, rest, used, o8, o9, rfl, g4, f4, f42, l4, da, sbs, hu, hdl, hne, s4⟩ ⟨rfl, _⟩
        have hi : i < cn := hi
        have i4 : i < 4 := by omega
        refine ⟨_, rfl, _, _, rfl, rfl, _, rfl, ite_of (fun h5 => ?_) (fun h5 => ?_)⟩
        · have h5 : 0 < rest := by have := of_decide_eq_true h5; omega
          refine ⟨_, rfl, _, rfl, p, _, _, rfl, s4, by omega, by omega, by omega, fun sh H5 sh0 sh1 s5 o5 => ?_⟩
          obtain ⟨sn, hsn⟩ : ∃ sn : Nat, (1 : Int) + sh = (sn : Int) := ⟨(1 + sh).toNat, by omega⟩
          have g5 := g4.trans (gr_kp g4.fh f4 o5)
          have l5 := o5 p2 _ p2p l4
          refine ⟨_, _, rfl, rfl, ?_⟩
          refine ⟨_, rfl, Or.inl ⟨rfl, _, Evl.sq_of l5⟩, _, rfl, _, rfl, _, rfl, _, _, rfl, rfl, _, rfl, _, rfl, ?_⟩
          refine rec_ (rm := sn) (lp := loops) (bk := blocks) hsn edm rfl rfl (by omega) g5 f4 s5 (by omega) (by omega) (by omega) (by omega) hbl fun F6 H6 va d6 g6 f6 s6 dva sba => ?_
          have l6 := g6.kp p2 _ l5 p2p
          have f62 : F6 p2 = none := g6.nw p2 (by rw [l5]; exact fun z => nomatch z) f42 p2p
          refine ⟨p2, _, _, rfl, rfl, l6, szl (by have := dpA_len da; omega), ?_⟩
          generalize e7 : upd _ p2 _ = H7
          obtain ⟨s7, o7⟩ := set_of e7
          clear e7
          refine ⟨_, rfl, _, rfl, _, _, rfl, rfl, ?_⟩
          have g56 := g5.trans g6
          refine ⟨F6, ds ++ [d6], vs ++ [va], rest - sn, used + sn, some vi, some (.int (1 + sh)), ?_, ⟨g56.ff, set_ex g56.fh f62 o7, g56.nw, fun b o e hb => by rw [o7 b (ne_of_none e nH2)]; exact g56.kp b o e hb⟩, f6, f62, s7, dpA_app (dpA_ex g6.ff da) (.cons dva .nil), .snoc sbs sba, by omega, (by simp; omega), (fun _ => by simp), ?_⟩
          · have e : (rest : Int) - (1 + sh) = ((rest - sn : Nat) : Int) := by omega
            rw [← e] <;> rfl
          · exact (s6.kp fun o h => by rw [o7 p p2p.symm]; exact h).up (by omega)
        · have h5 : rest = 0 := by have := of_decide_eq_false h5; omega
          refine ⟨F4, ds, vs, rest, used, _, _, rfl, g4, f4, f42, l4, da, sbs, hu, by omega, fun _ => ?_, s4.up (by omega)⟩
          rcases Nat.eq_zero_or_pos i with z | z
          · subst z
            have := sbs_nil sbs (List.eq_nil_of_length_eq_zero (by omega))
            omega
          · exact hne z
      rintro σ' H4 ⟨F4, ds, vs, rest, used, o8, o9, rfl, g4, f4, f42, l4, da, sbs, hu, hdl, hne, s4⟩
      have hdl : ds.length ≤ cn := hdl
      refine ⟨_, rfl, p2, vs, rfl, .inl ⟨Evl.sq_of l4, ?_⟩⟩
      intro p8 n8
      generalize e8 : upd _ p8 _ = H8
      obtain ⟨x8, s8, o8⟩ := new_of e8 n8
      clear e8
      refine ⟨sz (by simp), ?_⟩
      intro p9 n9
      generalize e9 : upd _ p9 _ = H9
      obtain ⟨x9, s9, o9⟩ := new_of e9 n9
      clear e9
      have p8p : p ≠ p8 := fun e => by obtain ⟨_, _, _, h, _⟩ := s4; rw [← e, h] at n8; cases n8
      have g8 := g4.trans (Gr.frz g4.fh n8 s8 o8)
      have hm9 : m + 2 + cn + 8 * used ≤ m + 8 * (rr + 1) := by omega
      exact fin (m' := m + 2 + cn + 8 * used) (ds := [.str "seq", .tuple ds]) g8 (by rw [upd_ne p8p]; exact f4) n9 s9 o9 (s4.kp fun o h => x8 _ _ h) hm9 (.cons (.str _) (.cons (.tup (Evl.st_of upd_same) (dpA_ex (exu (Evl.Ex.refl _) (ex_none g4.fh n8)) da)) .nil)) ((sb_seq hbl (hne (show 1 ≤ cn by omega)) (by omega) sbs).up (by omega) (Nat.le_refl _))
    refine ⟨_, rfl, _, _, rfl, rfl, _, rfl, itF (decide_eq_false (show ¬ ((rr + 1 : Nat) : Int) < 3 by omega)) ?_⟩
    refine ⟨_, rfl, _, _, rfl, rfl, _, rfl, ite_of (fun h9 => ?_) (fun h9 => ?_)⟩
    · refine ⟨sz (by simp), ?_⟩
      intro p2 n2
      generalize e2 : upd _ p2 _ = H2
      obtain ⟨x2, s2, o2⟩ := new_of e2 n2
      clear e2
      refine ⟨_, rfl, _, _, rfl, rfl, _, _, rfl, ?_⟩
      have p2p : p2 ≠ p := fun z => by obtain ⟨_, _, _, h, _⟩ := s1; rw [z, h] at n2; cases n2
      have nH2 : H p2 = none := by
        cases z : H p2 with
        | none => rfl
        | some o => rw [o1 p2 o p2p z] at n2; cases n2
      refine ⟨_, rfl, p, m + 1, 4, rfl, s1.kp fun o h => x2 _ _ h, by omega, by decide, by decide, fun c H3 c0 c1 s3 o3 => ?_⟩
      have g2 := g1.trans (Gr.new g1.fh x2)
      have g3 := g2.trans (gr_kp g2.fh fp o3)
      have l3 := o3 p2 _ p2p s2
      refine ⟨_, _, rfl, rfl, _, rfl, (by omega), (by omega), ?_⟩
      obtain ⟨cn, hcn⟩ : ∃ cn : Nat, ((1 : Int) + c).toNat = cn := ⟨_, rfl⟩
      rw [hcn]
      refine for_it (walk_range (lo := 0) (n := cn)) (fun i σ' H' => ∃ (F' : Hp) (ds : List PyData) (vs : List V) (rest used : Nat) (o8 o9 : Option V), σ' = [some (.ref p), some (.int ((rr + 1 : Nat) : Int)), some (.int ((dm + 1 : Nat) : Int)), some (.int (loops : Int)), some (.int (blocks : Int)), some (.int v), some (.ref p2), some (.int (rest : Int)), o8, o9, none, none] ∧ Gr (fun b => b = p) F H F' H' ∧ F' p = none ∧ F' p2 = none ∧ H' p2 = some (.lst vs) ∧ DpAll K F' vs ds ∧ SBs dm loops blocks used ds ∧ used + rest = rr ∧ ds.length ≤ i ∧ (1 ≤ i → ds ≠ []) ∧ SrcB H' p (m + 2 + i + 8 * used)) ?_ ?_ ?_ ?_
      · exact ⟨F, [], [], rr, 0, _, _, (by have e : ((rr + 1 : Nat) : Int) - 1 = (rr : Int) := by omega
                                           rw [← e] <;> rfl), g3, fp, ex_none g1.fh n2, l3, .nil, .nil, by omega, Nat.le_refl _, fun z => absurd z (by decide), s3.up (by omega)⟩
      · exact fun _ _ _ _ _ => True.intro
      · rintro i vi σ' Ha H4 hi ⟨F4, ds, vs, rest, used, o8, o9, rfl, g4, f4, f42, l4, da, sbs, hu, hdl, hne, s4⟩ ⟨rfl, _⟩
        have hi : i < cn := hi
        have i4 : i < 4 := by omega
        refine ⟨_, rfl, _, _, rfl, rfl, _, rfl, ite_of (fun h5 => ?_) (fun h5 => ?_)⟩
        · have h5 : 0 < rest := by have := of_decide_eq_true h5; omega
          refine ⟨_, rfl, _, rfl, p, _, _, rfl, s4, by omega, by omega, by omega, fun sh H5 sh0 sh1 s5 o5 => ?_⟩
          obtain ⟨sn, hsn⟩ : ∃ sn : Nat, (1 : Int) + sh = (sn : Int) := ⟨(1 + sh).toNat, by omega⟩
          have g5 := g4.trans (gr_kp g4.fh f4 o5)
          have l5 := o5 p2 _ p2p l4
          refine ⟨_, _, rfl, rfl, ?_⟩
          refine ⟨_, rfl, Or.inl ⟨rfl, _, Evl.sq_of l5⟩, _, rfl, _, rfl, _, rfl, _, _, rfl, rfl, _, rfl, _, rfl, ?_⟩
          refine rec_ (rm := sn) (lp := loops) (bk := blocks) hsn edm rfl rfl (by omega) g5 f4 s5 (by omega) (by omega) (by omega) (by omega) hbl fun F6 H6 va d6 g6 f6 s6 dva sba => ?_
          have l6 := g6.kp p2 _ l5 p2p
          have f62 : F6 p2 = none := g6.nw p2 (by rw [l5]; exact fun z => nomatch z) f42 p2p
          refine ⟨p2, _, _, rfl, rfl, l6, szl (by have := dpA_len da; omega), ?_⟩
          generalize e7 : upd _ p2 _ = H7
          obtain ⟨s7, o7⟩ := set_of e7
          clear e7
          refine ⟨_, rfl, _, rfl, _, _, rfl, rfl, ?_⟩
          have g56 := g5.trans g6
          refine ⟨F6, ds ++ [d6], vs ++ [va], rest - sn, used + sn, some vi, some (.int (1 + sh)), ?_, ⟨g56.ff, set_ex g56.fh f62 o7, g56.nw, fun b o e hb => by rw [o7 b (ne_of_none e nH2)]; exact g56.kp b o e hb⟩, f6, f62, s7, dpA_app (dpA_ex g6.ff da) (.cons dva .nil), .snoc sbs sba, by omega, (by simp; omega), (fun _ => by simp), ?_⟩
          · have e : (rest : Int) - (1 + sh) = ((rest - sn : Nat) : Int) := by omega
            rw [← e] <;> rfl
          · exact (s6.kp fun o h => by rw [o7 p p2p.symm]; exact h).up (by omega)
        · have h5 : rest = 0 := by have := of_decide_eq_false h5; omega
          refine ⟨F4, ds, vs, rest, used, _, _, rfl, g4, f4, f42, l4, da, sbs, hu, by omega, fun _ => ?_, s4.up (by omega)⟩
          rcases Nat.eq_zero_or_pos i with z | z
          · subst z
            have := sbs_nil sbs (List.eq_nil_of_length_eq_zero (by omega))
            omega
          · exact hne z
      rintro σ' H4 ⟨F4, ds, vs, rest, used, o8, o9, rfl, g4, f4, f42, l4, da, sbs, hu, hdl, hne, s4⟩
      have hdl : ds.length ≤ cn := hdl
      refine ⟨_, rfl, p2, vs, rfl, .inl ⟨Evl.sq_of l4, ?_⟩⟩
      intro p8 n8
      generalize e8 : upd _ p8 _ = H8
      obtain ⟨x8, s8, o8⟩ := new_of e8 n8
      clear e8
      refine ⟨sz (by simp), ?_⟩
      intro p9 n9
      generalize e9 : upd _ p9 _ = H9
      obtain ⟨x9, s9, o9⟩ := new_of e9 n9
      clear e9
      have p8p : p ≠ p8 := fun e => by obtain ⟨_, _, _, h, _⟩ := s4; rw [← e, h] at n8; cases n8
      have g8 := g4.trans (Gr.frz g4.fh n8 s8 o8)
      have hm9 : m + 2 + cn + 8 * used ≤ m + 8 * (rr + 1) := by omega
      exact fin (m' := m + 2 + cn + 8 * used) (ds := [.str "seq", .tuple ds]) g8 (by rw [upd_ne p8p]; exact f4) n9 s9 o9 (s4.kp fun o h => x8 _ _ h) hm9 (.cons (.str _) (.cons (.tup (Evl.st_of upd_same) (dpA_ex (exu (Evl.Ex.refl _) (ex_none g4.fh n8)) da)) .nil)) ((sb_seq hbl (hne (show 1 ≤ cn by omega)) (by omega) sbs).up (by omega) (Nat.le_refl _))
    have hr3 : 3 ≤ rr + 1 := by omega
    refine ⟨_, rfl, _, rfl, _, _, rfl, rfl, p, m + 1, _, rfl, s1, by omega, (by show (0 : Int) < ((rr + 1 : Nat) : Int) - 2; omega), (by show ((rr + 1 : Nat) : Int) - 2 < _; omega), fun sh H2 sh0 sh1 s2 o2 => ?_⟩
    have g2 := g1.trans (gr_kp g1.fh fp o2)
    obtain ⟨sn, hsn⟩ : ∃ sn : Nat, (1 : Int) + sh = (sn : Int) := ⟨(1 + sh).toNat, by omega⟩
    refine ⟨_, _, rfl, rfl, ?_⟩
    refine ⟨_, rfl, _, rfl, _, rfl, _, _, rfl, rfl, _, rfl, _, rfl, ?_⟩
    have sh1 : sh < ((rr + 1 : Nat) : Int) - 2 := sh1
    refine rec_ (rm := sn) (lp := loops) (bk := blocks) hsn edm rfl rfl (by omega) g2 fp s2 (by omega) (by omega) (by omega) (by omega) hbl fun F3 H3 va da g3 f3 s3 dva sba => ?_
    have g23 := g2.trans g3
    have eo : ((rr + 1 : Nat) : Int) - 1 - (1 + sh) = ((rr - sn : Nat) : Int) := by omega
    by_cases h7 : v < 7 ∧ blocks < 25
    · refine ⟨_, rfl, _, _, rfl, rfl, _, rfl, itT (decide_eq_true h7.1) ?_⟩
      refine ⟨_, rfl, _, _, rfl, rfl, _, rfl, itT (decide_eq_true (show (blocks : Int) < 25 by omega)) ?_⟩
      refine ⟨_, rfl, _, rfl, _, rfl, _, _, rfl, rfl, _, rfl, _, _, rfl, rfl, _, rfl, _, _, rfl, rfl, _, rfl, _, rfl, _, _, rfl, rfl, ?_⟩
      refine rec_ (rm := rr - sn) (lp := loops) (bk := blocks + 1) eo edm rfl (by omega) (by omega) g23 f3 s3 (by omega) (by omega) (by omega) (by omega) (by omega) fun F4 H4 vb db g4 f4 s4 dvb sbb => ?_
      refine ⟨sz (by simp), ?_⟩
      intro p5 n5
      generalize e5 : upd _ p5 _ = H5
      obtain ⟨x5, s5, o5⟩ := new_of e5 n5
      clear e5
      exact fin (g23.trans g4) f4 n5 s5 o5 s4 (by omega) (.cons (.str _) (.cons (dp_ex g4.ff dva) (.cons dvb .nil))) ((sb_fin (by omega) sba sbb).up (by omega) (Nat.le_refl _))
    by_cases h7v : v < 7
    · refine ⟨_, rfl, _, _, rfl, rfl, _, rfl, itT (decide_eq_true h7v) ?_⟩
      refine ⟨_, rfl, _, _, rfl, rfl, _, rfl, itF (decide_eq_false (show ¬ (blocks : Int) < 25 by omega)) ?_⟩
      refine ⟨_, rfl, _, rfl, _, _, rfl, rfl, _, rfl, _, _, rfl, rfl, _, rfl, _, _, rfl, rfl, _, rfl, _, rfl, ?_⟩
      refine rec_ (rm := rr - sn) (lp := loops) (bk := blocks) eo edm rfl rfl (by omega) g23 f3 s3 (by omega) (by omega) (by omega) (by omega) hbl fun F4 H4 vb db g4 f4 s4 dvb sbb => ?_
      refine ⟨_, rfl, rfl, _, rfl, ite_of (fun h8 => ?_) (fun h8 => ?_)⟩
      · refine ⟨_, rfl, _, rfl, sz (by simp), ?_⟩
        intro p5 n5
        generalize e5 : upd _ p5 _ = H5
        obtain ⟨x5, s5, o5⟩ := new_of e5 n5
        clear e5
        exact fin (g23.trans g4) f4 n5 s5 o5 s4 (by omega) (.cons (.str _) (.cons (dp_ex g4.ff dva) (.cons dvb .nil))) ((sb_try hbl sba sbb).up (by omega) (Nat.le_refl _))
      · refine ⟨_, rfl, p, _, rfl, s4, by omega, fun H5 nm hnm s5 o5 => ?_⟩
        have g5 := (g23.trans g4).trans (gr_kp g4.fh f4 o5)
        refine ⟨_, rfl, _, rfl, sz (by simp), ?_⟩
        intro p6 n6
        generalize e6 : upd _ p6 _ = H6
        obtain ⟨x6, s6, o6⟩ := new_of e6 n6
        clear e6
        exact fin g5 f4 n6 s6 o6 s5 (by omega) (.cons (.str _) (.cons (.str _) (.cons (dp_ex g4.ff dva) (.cons dvb .nil)))) ((sb_if hnm hbl sba sbb).up (by omega) (Nat.le_refl _))
    · refine ⟨_, rfl, _, _, rfl, rfl, _, rfl, itF (decide_eq_false h7v) ?_⟩
      refine ⟨_, rfl, _, rfl, _, _, rfl, rfl, _, rfl, _, _, rfl, rfl, _, rfl, _, _, rfl, rfl, _, rfl, _, rfl, ?_⟩
      refine rec_ (rm := rr - sn) (lp := loops) (bk := blocks) eo edm rfl rfl (by omega) g23 f3 s3 (by omega) (by omega) (by omega) (by omega) hbl fun F4 H4 vb db g4 f4 s4 dvb sbb => ?_
      refine ⟨_, rfl, rfl, _, rfl, ite_of (fun h8 => ?_) (fun h8 => ?_)⟩
      · refine ⟨_, rfl, _, rfl, sz (by simp), ?_⟩
        intro p5 n5
        generalize e5 : upd _ p5 _ = H5
        obtain ⟨x5, s5, o5⟩ := new_of e5 n5
        clear e5
        exact fin (g23.trans g4) f4 n5 s5 o5 s4 (by omega) (.cons (.str _) (.cons (dp_ex g4.ff dva) (.cons dvb .nil))) ((sb_try hbl sba sbb).up (by omega) (Nat.le_refl _))
      · refine ⟨_, rfl, p, _, rfl, s4, by omega, fun H5 nm hnm s5 o5 => ?_⟩
        have g5 := (g23.trans g4).trans (gr_kp g4.fh f4 o5)
        refine ⟨_, rfl, _, rfl, sz (by simp), ?_⟩
        intro p6 n6
        generalize e6 : upd _ p6 _ = H6
        obtain ⟨x6, s6, o6⟩ := new_of e6 n6
        clear e6
        exact fin g5 f4 n6 s6 o6 s5 (by omega) (.cons (.str _) (.cons (.str _) (.cons (dp_ex g4.ff dva) (.cons dvb .nil)))) ((sb_if hnm hbl sba sbb).up (by omega) (Nat.le_refl _))
theorem ok_stmB (T : Tx w h K mg) (n : Nat) : Ok P w K mg base (n + 5) ("_law_statement", none) ["_law_source_here", "_law_room", "_law_deep", "_law_loops", "_law_blocks"] (sp_stmB K n) := by
  induction n using Nat.strongRecOn with
  | ind n ih => exact ok_law_statement n ih T
end
end Fc
set_option maxRecDepth 100000
set_option maxHeartbeats 4000000
namespace Fc
open PySem PySem.Spec PyProof.Rows L2 FcR
open Evl (Ex)
def sp_law (K : PySem.W.Frag) : Sp := fun vs H Q _ => ∃ (a : Addr) (ns : List Int), vs = [.ref a] ∧ ns.length ≤ 63 ∧ SqL K H a (ns.map V.int) ∧ ∀ H', Q (.bl true) H'
theorem cut_mem {xs : List V} {lo hi : Option Int} {x : V} (h : x ∈ cutV xs lo hi) : x ∈ xs := by
  unfold cutV at h
  exact List.mem_of_mem_drop (List.mem_of_mem_take h)
end Fc
set_option maxRecDepth 100000
set_option maxHeartbeats 4000000
namespace Fc
open PySem PySem.Spec PyProof.Rows L2 FcR
open Evl (Ex)
section
variable {P : Program} {w : World} {h : Heap} {K : PySem.W.Frag} {mg : Str → Option Value} {base : Heap}
end
end Fc
set_option maxRecDepth 100000
set_option maxHeartbeats 4000000
namespace Fc
open PySem PySem.Spec PyProof.Rows L2 FcR
open Evl (Ex)
section
variable {P : Program} {w : World} {h : Heap} {K : PySem.W.Frag} {mg : Str → Option Value} {base : Heap}
end
end Fc
set_option maxRecDepth 100000
set_option maxHeartbeats 4000000
namespace Fc
open PySem PySem.Spec PyProof.Rows L2 FcR
open Evl (Ex)
/-- the last statement is a place -/
theorem pl_ex46 {rows : List Row} {lp : Nat → Nat} (W : TW rows lp) (h : 0 < rows.length) : plN rows ≠ [] := by
  obtain ⟨n, hn⟩ : ∃ n, n + 1 = rows.length := ⟨rows.length - 1, by omega⟩
  have ln : n < rows.length := by omega
  obtain ⟨r, hr⟩ := row_at ln
  obtain ⟨sv, s2, s3⟩ := W.sv n r hr
  have ch : r.ch = [] := List.eq_nil_iff_forall_not_mem.mpr fun c hc => by
    have hc2 : c ∈ ((tabOf rows).nd n).ch := by rw [tab_nd hr, ← s3]; exact hc
    obtain ⟨h1, h2, _⟩ := W.wf.dn n ln c hc2
    have h2 : c < rows.length := h2
    omega
  have pd : partsD r.d = [] := List.length_eq_zero_iff.mp (by rw [← s2, ch] <;> rfl)
  have hp : isPl r = true := by
    unfold isPl
    cases e : r.d
    case tuple xs =>
      rw [e] at sv pd
      cases sv with
      | seq p ps => cases pd
      | tr => cases pd
      | iff => cases pd
      | whl => cases pd
      | fin => cases pd
      | do_ => show (!decide (("do" : Str) ∈ (["seq", "try"] : List Str))) = true; rw [decide_eq_false (show ¬ ("do" : Str) ∈ (["seq", "try"] : List Str) by decide +kernel)] <;> rfl
      | call => show (!decide (("call" : Str) ∈ (["seq", "try"] : List Str))) = true; rw [decide_eq_false (show ¬ ("call" : Str) ∈ (["seq", "try"] : List Str) by decide +kernel)] <;> rfl
      | brk => show (!decide (("break" : Str) ∈ (["seq", "try"] : List Str))) = true; rw [decide_eq_false (show ¬ ("break" : Str) ∈ (["seq", "try"] : List Str) by decide +kernel)] <;> rfl
      | cnt => show (!decide (("continue" : Str) ∈ (["seq", "try"] : List Str))) = true; rw [decide_eq_false (show ¬ ("continue" : Str) ∈ (["seq", "try"] : List Str) by decide +kernel)] <;> rfl
      | ret => show (!decide (("return" : Str) ∈ (["seq", "try"] : List Str))) = true; rw [decide_eq_false (show ¬ ("return" : Str) ∈ (["seq", "try"] : List Str) by decide +kernel)] <;> rfl
      | rai => show (!decide (("raise" : Str) ∈ (["seq", "try"] : List Str))) = true; rw [decide_eq_false (show ¬ ("raise" : Str) ∈ (["seq", "try"] : List Str) by decide +kernel)] <;> rfl
    all_goals (rw [e] at sv; cases sv)
  have : n ∈ plN rows := List.mem_filter.mpr ⟨List.mem_range.mpr ln, by rw [pl_of hr]; exact hp⟩
  exact fun z => by rw [z] at this; cases this
theorem bl_of46 {w : Nat} {d : PyData} (ok : OkS 0 1 0 w d) (hw : w ≤ 400) : ∃ N fin, Builds N [⟨d, none, 1, 0, 0⟩] [] fin ∧ fin.length ≤ 400 ∧ plN fin ≠ [] := by
  obtain ⟨fin, b, l⟩ := builds_of w [⟨d, none, 1, 0, 0⟩] [] (by have := OkL.cons (it := ⟨d, none, 1, 0, 0⟩) ok .nil; simpa using this) (by simp; omega)
  have hne : 0 < fin.length := by
    rw [l]
    cases ok
    simp
    omega
  obtain ⟨ls, bi⟩ := BI.all b (BI.start d)
  exact ⟨w, fin, b, by rw [l]; simp; omega, pl_ex46 (tw_of bi hne) hne⟩
def dT46 (rs : List TRow) : List PyData := rs.map rowD
theorem dp_T46 {K : PySem.W.Frag} {H : Hp} : ∀ {ts : List Addr} {rs : List TRow}, RowsAt K H ts rs → DpAll K H (ts.map V.ref) (dT46 rs)
  | _, _, .nil => .nil
  | _, _, .cons r t => .cons (dp_row r) (dp_T46 t)
theorem can_T46 {rows : List Row} {n : Nat} {rs : List TRow} (tv : ∀ r ∈ rs, TV rows n r) : ∀ d ∈ dT46 rs, PyData.canLay0 d = true := fun d hd => by
  obtain ⟨r, hr, rfl⟩ := List.mem_map.mp hd
  have h : ∀ y ∈ r.2, PyData.canLay0 (itD y) = true := fun y hy => by
    rcases (tv r hr).it y hy with ⟨b, rfl, _⟩ | ⟨s, rfl, hs⟩
    · rfl
    · simp only [endsL, List.mem_cons, List.not_mem_nil, or_false] at hs
      rcases hs with rfl | rfl | rfl <;> (show PyData.canLay0 (.str _) = true; decide +kernel)
  show (PyData.canLay0 (.int (r.1 : Int)) && PyData.canLayAll0 (r.2.map itD)) = true
  rw [canAll (fun e he => by
    obtain ⟨y, hy, rfl⟩ := List.mem_map.mp he
    exact h y hy)]
  rfl
theorem dep_T46 (rs : List TRow) : (PyData.list (dT46 rs)).depth ≤ 10 := by
  have h : ∀ ys : List Itm, PyData.depthAll (ys.map itD) ≤ 1 := fun ys => by
    induction ys with
    | nil => decide
    | cons y ys ih =>
      show max (itD y).depth _ ≤ 1
      have : (itD y).depth ≤ 1 := by cases y <;> simp [itD, PyData.depth]
      omega
  have h2 : PyData.depthAll (dT46 rs) ≤ 5 := by
    induction rs with
    | nil => decide
    | cons r rs ih =>
      show max (rowD r).depth (PyData.depthAll (dT46 rs)) ≤ 5
      have := h r.2
      have : (rowD r).depth ≤ 5 := by
        simp only [rowD, PyData.depth, PyData.depthAll]
        omega
      omega
  simp only [PyData.depth]
  omega
theorem dpA_app46 {K : PySem.W.Frag} {H : Hp} : ∀ {xs ys : List V} {ds es : List PyData}, DpAll K H xs ds → DpAll K H ys es → DpAll K H (xs ++ ys) (ds ++ es)
  | _, _, _, _, .nil, h => h
  | _, _, _, _, .cons a t, h => .cons a (dpA_app46 t h)
theorem dep_app46 (rs : List TRow) : (PyData.list (dT46 rs ++ [.none])).depth ≤ 20 := by
  have h : ∀ ds : List PyData, PyData.depthAll (ds ++ [.none]) ≤ PyData.depthAll ds + 2 := fun ds => by
    induction ds with
    | nil => decide
    | cons d ds ih =>
      show max d.depth (PyData.depthAll (ds ++ [.none])) ≤ max d.depth (PyData.depthAll ds) + 2
      omega
  have h1 := dep_T46 rs
  have h2 := h (dT46 rs)
  simp only [PyData.depth] at h1 ⊢
  omega
section
variable {P : Program} {w : World} {h : Heap} {K : PySem.W.Frag} {mg : Str → Option Value} {base : Heap}
abbrev N_law : List Str := ["_law_script", "_law_cell", "_law_source_here", "_law_program", "_law_turn", "_law_lines", "_law_kept", "_law_told", "_law_at", "_law_again", "_law_other"]
theorem sc_law : FnScope N_law ["_law_script"] (defScope sd_law) := ⟨rfl, rfl, rfl, by decide +kernel, rfl, by decide +kernel, by decide +kernel⟩
theorem okF_law (T : Tx w h K mg) : ∃ fd, FnOk P w K mg base (CX P w) 60 (He.fAd K ("law", none)) fd ["_law_script"] (sp_law K) ∧ Binds K fd ["_law_script"] [] ∧ PySem.W.keepIn K (.ref (He.fAd K ("law", none))) = true ∧ FunD K "law" "law" (defArgs sd_law) (defBody sd_law) (defScope sd_law) [] [] (He.fAd K ("law", none)) fd := by
  obtain ⟨fd, F⟩ := F_law T
  refine ⟨fd, ?_, F.bindsN (fun _ _ _ _ _ _ us hl => match us, hl with | [_], _ => rfl), F.kp, F⟩
  obtain ⟨fd_law_any_table, G_law_any_table, bi_law_any_table, kp_law_any_table⟩ := ok_law_any_table (P := P) (base := base) T
  obtain ⟨fd_law_apart, G_law_apart, bi_law_apart, kp_law_apart⟩ := ok_law_apart (P := P) (base := base) T
  obtain ⟨fd_law_cell_at, G_law_cell_at, bi_law_cell_at, kp_law_cell_at⟩ := ok_law_cell_at (P := P) (base := base) T
  obtain ⟨fd_law_draw, G_law_draw, bi_law_draw, kp_law_draw⟩ := ok_law_draw (P := P) (base := base) T
  obtain ⟨fd_law_is_ordered, G_law_is_ordered, bi_law_is_ordered, kp_law_is_ordered⟩ := ok_law_is_ordered (P := P) (base := base) T
  obtain ⟨fd_law_source, G_law_source, bi_law_source, kp_law_source⟩ := ok_law_source (P := P) (base := base) T
  obtain ⟨fd_merged, G_merged, bi_merged, kp_merged, FD_merged⟩ := okF_merged (P := P) (base := base) T
  obtain ⟨fd_Code___init__, G_Code___init__, bi_Code___init__, kp_Code___init__⟩ := ok_Code___init__ (P := P) (base := base) T
  obtain ⟨fd_law_statement, G_law_statement, bi_law_statement, kp_law_statement⟩ := ok_stmB (P := P) (base := base) T 40
  refine F.ok sc_law (fun vs H Q E h => ?_) (fun cdv A outer s H vs Q E hr h => ?_)
  · obtain ⟨a, ns, rfl, hl, hs, q⟩ := h
    rfl
  · obtain ⟨a, ns, rfl, hl, hs, q⟩ := h
    refine ⟨_, PSs.nox (pss_cons (ps_for PassesOwn.never rfl (pi_list (pe_op op_cat (pe_lst (pa_cons (pe_call G_law_cell_at (hr.mono (by decide)) rfl (g_law_cell_at T) kp_law_cell_at bi_law_cell_at .nil passF (pa_cons (pv 0) (pa_cons pe_int pa_nil))) pa_nil)) (pe_slice sl_list (pv 0) (po_some pe_int) (po_some pe_int)))) (pg_name (i := 1) sc_law.nd rfl (Or.inl rfl)) (pss_cons (ps_set (i := 2) sc_law.nd rfl (Or.inl rfl) (pe_call G_law_source (hr.mono (by decide)) rfl (g_law_source T) kp_law_source bi_law_source .nil passF (pa_cons (pv 1) pa_nil))) (pss_cons (ps_set (i := 3) sc_law.nd rfl (Or.inl rfl) (pe_make (mk_Code T) G_Code___init__ (hr.mono (by decide)) rfl (g_Code T) bi_Code___init__ .nil passF (pa_cons (pe_call G_law_statement (hr.mono (by decide)) rfl (g_law_statement T) kp_law_statement bi_law_statement .nil passF (pa_cons (pv 2) (pa_cons (pe_op op_add pe_int (pe_call G_law_draw (hr.mono (by decide)) rfl (g_law_draw T) kp_law_draw bi_law_draw .nil passF (pa_cons (pv 2) (pa_cons pe_int pa_nil)))) (pa_cons pe_int (pa_cons pe_int (pa_cons pe_int pa_nil)))))) pa_nil))) (pss_one (ps_for PassesOwn.never rfl (pi_range1 rfl (fr_range T) (pa_cons pe_int pa_nil)) (pg_name (i := 4) sc_law.nd rfl (Or.inl rfl)) (pss_cons (ps_set (i := 5) sc_law.nd rfl (Or.inl rfl) (pe_call G_law_any_table (hr.mono (by decide)) rfl (g_law_any_table T) kp_law_any_table bi_law_any_table .nil passF (pa_cons (pv 2) (pa_cons (pv 3) pa_nil)))) (pss_cons (ps_set (i := 6) sc_law.nd rfl (Or.inl rfl) (pe_callTy call_list_of rfl (fr_list T) b_list (pa_cons (pv 5) pa_nil))) (pss_cons (ps_set (i := 7) sc_law.nd rfl (Or.inr rfl) (pe_call G_merged (hr.mono (by decide)) rfl (g_merged T) kp_merged bi_merged .nil passF (pa_cons (pv 3) (pa_cons (pv 5) pa_nil)))) (pss_cons (ps_if (PW.pt (pw_or (pt_cmpR (op_neM hr) (pv 5) (pv 6) (nomark _)) (pw_or (pt_not (pt_val (pe_call G_law_is_ordered (hr.mono (by decide)) rfl (g_law_is_ordered T) kp_law_is_ordered bi_law_is_ordered .nil passF (pa_cons (pv 7) pa_nil)))) (pw_or1 (pt_cmpR op_notN (pe_call G_law_apart (hr.mono (by decide)) rfl (g_law_apart T) kp_law_apart bi_law_apart .nil passF (pa_cons (pv 7) (pa_cons pe_int (pa_cons (pv 5) (pa_cons pe_int pa_nil))))) pe_non (nomark _)))))) (pss_one (ps_ret pe_bl)) pss_nil) (pss_cons (ps_for PassesOwn.never rfl (pi_range1 rfl (fr_range T) (pa_cons (pe_callB call_len_seq rfl (fr_len T) b_len (pa_cons (pv 7) pa_nil)) pa_nil)) (pg_name (i := 8) sc_law.nd rfl (Or.inr rfl)) (pss_one (ps_if (pt_cmpR (op_neM hr) (pe_lc (own := [("_law_other", 10)]) rfl sc_law.nd (pi_range1 rfl (fr_range T) (pa_cons (pv 8) pa_nil)) (blkOk_by (N := N_law) (sc := defScope sd_law) (by decide +kernel)) (fun _ _ _ _ _ => (pg_name (i := 10) sc_law.nd rfl (Or.inl rfl))) (fun _ _ _ _ _ => (pts_one (pt_cmpR op_isN (pe_call G_law_apart (hr.mono (by decide)) rfl (g_law_apart T) kp_law_apart bi_law_apart .nil passF (pa_cons (pv 7) (pa_cons (pv 8) (pa_cons (pv 7) (pa_cons (pv 10) pa_nil))))) pe_non (nomark _)))) (fun _ _ _ _ _ => (pv 10))) (pe_lst pa_nil) (nomark _)) (pss_one (ps_ret pe_bl)) pss_nil))) (pss_cons (ps_if (PW.pt (pw_or (pt_cmpR (op_neM hr) (pe_call G_merged (hr.mono (by decide)) rfl (g_merged T) kp_merged bi_merged .nil passF (pa_cons (pv 3) (pa_cons (pv 7) pa_nil))) (pv 7) (nomark _)) (pw_or1 (pt_cmpR (op_neM hr) (FcX.pe_callW (ks := ["rows", "code"]) (g := fun | [z0, z1] => [z1, z0] | _ => []) (gV := fun | [z0, z1] => [z1, z0] | _ => []) G_merged (hr.mono (by decide)) rfl (g_merged T) kp_merged (fun s ws hl => match ws, hl with | [_, _], _ => FcX.bindsX FD_merged (fun _ _ _ _ _ _ => rfl) s) (fun r _ => match r with | (.cons r0 (.cons r1 .nil)) => (.cons r1 (.cons r0 .nil))) passF (pk_cons (pv 5) (pk_cons (pv 3) pk_nil))) (pv 7) (nomark _))))) (pss_one (ps_ret pe_bl)) pss_nil) (pss_cons (ps_set (i := 9) sc_law.nd rfl (Or.inl rfl) (pe_call G_merged (hr.mono (by decide)) rfl (g_merged T) kp_merged bi_merged .nil passF (pa_cons (pv 3) (pa_cons (pv 7) pa_nil)))) (pss_cons (ps_expr (pe_bm PySem.F.plainAttrs_list PySem.F.slot_list_append PySem.F.type_list_append mt_append (pv 9) (pa_cons pe_non pa_nil))) (pss_one (ps_if (PW.pt (pw_or (pt_cmpR (op_neM hr) (pe_op op_cat (pv 7) (pe_lst (pa_cons pe_non pa_nil))) (pv 9) (nomark _)) (pw_or1 (pt_cmpR (op_neM hr) (pe_call G_merged (hr.mono (by decide)) rfl (g_merged T) kp_merged bi_merged .nil passF (pa_cons (pv 3) (pa_cons (pv 7) pa_nil))) (pv 7) (nomark _))))) (pss_one (ps_ret pe_bl)) pss_nil))))))))))))))) (pss_one (ps_ret pe_bl))), ?_⟩
    refine ⟨_, rfl, a, ns, 0, rfl, hs, sz (by simp), ?_⟩
    intro p1 n1
    generalize e1 : upd _ p1 _ = H1
    obtain ⟨x1, s1, o1⟩ := new_of e1 n1
    clear e1
    have hs1 := Evl.ex_l x1 hs
    refine ⟨_, rfl, 1, rfl, 4, rfl, a, _, rfl, hs1, ?_⟩
    intro p2 n2
    generalize e2 : upd _ p2 _ = H2
    obtain ⟨x2, s2, o2⟩ := new_of e2 n2
    clear e2
    have hc2 : (cutV (ns.map V.int) (some 1) (some 4)).length ≤ 63 := Nat.le_trans (cutV_length ..) (by rw [List.length_map]; exact hl)
    refine ⟨p1, p2, _, _, rfl, rfl, x2 _ _ s1, s2, sz (by simp; omega), ?_⟩
    intro p3 n3
    generalize e3 : upd _ p3 _ = H3
    obtain ⟨x3, s3, o3⟩ := new_of e3 n3
    clear e3
    have isI : ∀ (i : Nat) (x : V), ([V.int (ns.getD 0 0)] ++ cutV (ns.map V.int) (some 1) (some 4))[i]? = some x → ∃ c, x = .int c := fun i x hx => by
      have hm := List.mem_of_getElem? hx
      rcases List.mem_append.mp hm with h1 | h1
      · exact ⟨_, List.mem_singleton.mp h1⟩
      · obtain ⟨c, _, e⟩ := List.mem_map.mp (cut_mem h1)
        exact ⟨c, e.symm⟩
    generalize [V.int (ns.getD 0 0)] ++ cutV (ns.map V.int) (some 1) (some 4) = cs at s3 isI
    refine ⟨p3, rfl, ⟨_, Evl.sq_of s3⟩, ?_⟩
    refine for_it (walk_list (xs := cs)) (fun i σ' H' => Ex H3 H' ∧ ∃ u1 u2 u3 u4 u5 u6 u7 u8 u9 v1, σ' = [some (.ref a), u1, u2, u3, u4, u5, u6, u7, u8, u9, v1]) ?_ ?_ ?_ ?_
    · exact ⟨Evl.Ex.refl _, _, _, _, _, _, _, _, _, _, _, rfl⟩
    · exact fun i σ' H' _ ⟨e, _⟩ => Evl.sq_of (e _ _ s3)
    rotate_left
    · rintro σ' H' ⟨e, u1, u2, u3, u4, u5, u6, u7, u8, u9, v1, rfl⟩
      exact q _
    rintro i v σ' Ha Hb hi ⟨e, u1, u2, u3, u4, u5, u6, u7, u8, u9, v1, rfl⟩ ⟨rfl, hv⟩
    obtain ⟨c, rfl⟩ := isI i v hv
    refine ⟨_, rfl, c, rfl, fun p4 H4 n4 x4 s4 o4 => ?_⟩
    have r4 : Gr (fun b => b = p4) hp0 H4 hp0 H4 := Gr.refl (fun b o z => by cases z)
    have h0 : ∀ {H' : Hp}, Ex hp0 H' := fun {H'} b o z => by cases z
    refine ⟨_, rfl, _, rfl, p4, 0, 12, rfl, s4, by decide, by decide, by decide, fun v H5 v0 v1 s5 o5 => ?_⟩
    obtain ⟨rm, hrm⟩ : ∃ rm : Nat, (1 : Int) + v = (rm : Int) := ⟨(1 + v).toNat, by omega⟩
    have g5 := r4.trans (gr_kp (F := hp0) h0 rfl o5)
    refine ⟨_, _, rfl, rfl, hp0, p4, 1, rm, 40, 0, 0, (by show [V.ref p4, V.int (1 + v), _, _, _] = _; rw [hrm] <;> rfl), Nat.le_refl _, by omega, by decide, by omega, by decide, by decide, g5.fh, rfl, s5, by omega, fun F7 H7 vd d g7 f7 s7 dvd sb => ?_⟩
    have g47 := g5.trans g7
    obtain ⟨gs, dep, wt, w1, w2, okk⟩ := sb
    have ok1 := okk 1 (by decide)
    obtain ⟨N, fin, bd, fl, pne⟩ := bl_of46 ok1 (by omega)
    intro q9 dx9 nq9 nd9 ne9
    generalize e9 : upd (upd _ dx9 _) q9 _ = G9
    obtain ⟨y9, hq9⟩ := make_of e9 nq9 nd9
    clear e9
    refine ⟨F7, q9, dx9, vd, d, GS, N, fin, rfl, hq9, (show Ex F7 _ from g47.fh).trans y9, ex_none (show Ex F7 _ from g47.fh) nq9, dvd, (fun e he => gs_parts he), gs, bd, fun A9 F9 H9 eA9 g9 C9 => ⟨rfl, ?_⟩⟩
    subst eA9
    have k9 := fun b o (e : _ = some o) => g9.kp b o (y9 b o e) (ne_of_none e nq9)
    have nA4 : H4 A9.p = none := by
      cases z : H4 A9.p with
      | none => rfl
      | some o =>
        by_cases e : A9.p = p4
        · obtain ⟨_, _, _, h, _⟩ := s7
          rw [e, h] at nq9
          cases nq9
        · rw [g47.kp _ _ z e] at nq9
          cases nq9
    have gMM : Gr (fun b => b = p4) hp0 H4 F9 H9 := (g47.trans (Gr.new g47.fh y9)).hide g9 fun x hx => .inl (by rw [hx]; exact nA4)
    have x9 : ∀ b o, b ≠ p4 → H4 b = some o → H9 b = some o := fun b o nb hb => gMM.kp b o hb nb
    have xF9 : Ex F9 H9 := gMM.fh
    have f9 : F9 p4 = none := g9.nw p4 (by obtain ⟨_, _, _, h, _⟩ := s7; rw [y9 _ _ h]; exact fun z => nomatch z) f7 (fun z => by obtain ⟨_, _, _, h, _⟩ := s7; rw [z] at h; rw [h] at nq9; cases nq9)
    obtain ⟨nn, nn6, s9⟩ : ∃ nn : Nat, nn ≤ 1000000 ∧ SrcB H9 p4 nn := ⟨_, by omega, s7.kp fun o h => k9 _ _ h⟩
    refine ⟨3, rfl, (by decide), (by decide), ?_⟩
    refine for_it (walk_range (lo := 0) (n := 3)) (fun i σ' H' => ∃ u4 u5 u6 u7 u8 u9 v1, σ' = [some (.ref a), some (.int c), some (.ref p4), some (.ref A9.p), u4, u5, u6, u7, u8, u9, v1] ∧ (∀ b o, b ≠ p4 → H9 b = some o → H' b = some o) ∧ SrcB H' p4 (nn + 200 * i)) ?_ ?_ ?_ ?_
    · exact ⟨_, _, _, _, _, _, _, rfl, fun _ _ _ h => h, s9⟩
    · exact fun _ _ _ _ _ => True.intro
    rotate_left
    · rintro σ' H' ⟨u4, u5, u6, u7, u8, u9, v1, rfl, k, s⟩
      exact ⟨fun b o hb => k b o (ne_of_none (e b o hb) n4) (x9 b o (ne_of_none (e b o hb) n4) (x4 b o (e b o hb))), _, _, _, _, _, _, _, _, _, _, rfl⟩
    rintro i vi σ' Hq H10 hi3 ⟨w4, w5, w6, w7, w8, w9, w1', rfl, k10, s10⟩ ⟨rfl, _⟩
    have hi3 : i < 3 := hi3
    have xF10 : Ex F9 H10 := fun b o h => k10 b o (fun z => by rw [z, f9] at h; cases h) (xF9 b o h)
    refine ⟨_, rfl, _, rfl, F9, A9, fin, p4, nn + 200 * i, rfl, C9, xF10, f9, fl, pne, s10, by omega, fun H11 la ts rs k11 s11 lan lap hla RA r1 r12 tv => ?_⟩
    have xF11 : Ex F9 H11 := fun b o h => k11 b o (fun z => by rw [z, f9] at h; cases h) (xF10 b o h)
    refine ⟨_, rfl, la, _, rfl, .inl (Evl.sq_of hla), ?_⟩
    intro p12 n12
    generalize e12 : upd _ p12 _ = H12
    obtain ⟨x12, s12, o12⟩ := new_of e12 n12
    clear e12
    refine ⟨_, rfl, _, rfl, F9, A9, fin, la, ts, rs, rfl, C9, xF11.trans x12, fl, x12 _ _ hla, rowsAt_ex x12 RA, r1, by omega, tv, fun H13 ta us k x13 na13 s13 RT cs => ?_⟩
    have cc := cs.le
    have TO := tabOk_of tv
    have x113 := x12.trans x13
    have RA13 := rowsAt_ex x113 RA
    have la13 := x113 _ _ hla
    have tvT := mrg_tv tv r1 cc
    have T1 := mrg_pos TO r1 cc
    have T12 : (mrgT rs k).length ≤ 12 := Nat.le_trans (mrg_le TO r1 cc) r12
    have R0 := gM_ok TO cc
    have h00 := hC_lt k r1
    have okT : RowsOk (mrgT rs k).length (getR (mrgT rs k)) := ord_ok R0 h00
    have c1 := can_T46 tv
    have c2 := can_T46 tvT
    have can1 : PyData.canLay0 (.list (dT46 rs)) = true := canAll c1
    have can2 : PyData.canLay0 (.list (dT46 (mrgT rs k))) = true := canAll c2
    have dl13 : Dp K H13 (.ref la) (.list (dT46 rs)) := .lst (Evl.sq_of la13) (dp_T46 RA13)
    have dk13 : Dp K H13 (.ref p12) (.list (dT46 rs)) := .lst (Evl.sq_of (x13 _ _ s12)) (dp_T46 RA13)
    refine ⟨_, rfl, _, rfl, _, _, dl13, dk13, can1, can1, Nat.le_trans (Nat.min_le_left _ _) (Nat.le_trans (dep_T46 rs) (by decide)), ?_⟩
    rw [PySem.SeqAt.eqv_refl _ can1]
    have fT : (ordN (gM rs (k + 1)) (hC rs (k + 1) 0) (mrgT rs k).length).length = (mrgT rs k).length := by
      have h1 := ord_full R0 h00
      have h2 := ord_range R0 h00 (mrgT rs k).length
      have h3 := congrArg List.length (h2.symm.trans h1)
      rw [List.length_range, List.length_range] at h3
      exact h3
    have two1 : TwoOk (mrgT rs k) rs := two_self tvT tv
    have two2 : TwoOk (mrgT rs k) (mrgT rs k) := two_self tvT tvT
    refine ⟨_, rfl, _, rfl, ta, us, mrgT rs k, fun j => (ordN (gM rs (k + 1)) (hC rs (k + 1) 0) j).length, rfl, s13, RT, T1, by omega, okT, fun j => ord_range R0 h00 j, fun j hj => ord_more R0 h00 hj, fT, fun H14 x14 => ?_⟩
    refine ⟨_, rfl, _, rfl, _, rfl, ta, la, us, ts, mrgT rs k, rs, 0, 0, rfl, x14 _ _ s13, rowsAt_ex x14 RT, x14 _ _ la13, rowsAt_ex x14 RA13, by omega, by omega, two1, T1, r1, fun _ H15 x15 => ?_, fun na => absurd (mrg_alike TO r1 cc) na⟩
    refine ⟨rfl, _, rfl, itF rfl ?_⟩
    have x1315 := x14.trans x15
    have s15 := x1315 _ _ s13
    have RT15 := rowsAt_ex x1315 RT
    have tul := rowsAt_len RT
    refine ⟨_, rfl, ta, _, rfl, .inl (Evl.sq_of s15), _, rfl, by rw [List.length_map, tul]; omega, by rw [List.length_map, tul]; omega, ?_⟩
    rw [Int.toNat_natCast, List.length_map, tul]
    refine for_it (walk_range (lo := 0) (n := (mrgT rs k).length)) (fun j σ' H' => ∃ u8 v1, σ' = [some (.ref a), some (.int c), some (.ref p4), some (.ref A9.p), some vi, some (.ref la), some (.ref p12), some (.ref ta), u8, w9, v1] ∧ Ex H15 H') ?_ ?_ ?_ ?_
    · exact ⟨_, _, rfl, Evl.Ex.refl _⟩
    · exact fun _ _ _ _ _ => True.intro
    · rintro j vj σ' Ha H16 hj ⟨u8, v1, rfl, x16⟩ ⟨rfl, rfl⟩
      have hj : j < (mrgT rs k).length := hj
      have ej : (0 : Int) + (j : Int) = (j : Int) := by omega
      refine ⟨_, rfl, _, rfl, by omega, by omega, fun D nD => ?_⟩
      rw [ej, Int.toNat_natCast]
      refine lc_it (walk_range (lo := 0) (n := j)) (fun _ H' => Ex H16 H' ∧ H' D = some (.lst [])) ?_ ?_ ?_ ?_
      · exact ⟨exu (Evl.Ex.refl _) nD, upd_same⟩
      · exact fun _ _ _ _ => True.intro
      · rintro o v2 Ja Jb ho ⟨xo, lo⟩ ⟨rfl, rfl⟩
        have ho : o < j := ho
        have eo : (0 : Int) + (o : Int) = (o : Int) := by omega
        have xx := x16.trans xo
        refine ⟨rfl, _, rfl, _, rfl, _, rfl, _, rfl, ta, ta, us, us, mrgT rs k, mrgT rs k, j, o, (by show [V.ref ta, V.int (0 + (j : Int)), V.ref ta, V.int (0 + (o : Int))] = _; rw [ej, eo]), xx _ _ s15, rowsAt_ex xx RT15, xx _ _ s15, rowsAt_ex xx RT15, by omega, by omega, two2, hj, by omega, fun A => absurd (mrg_apart TO r1 cc A) (by omega), fun na H17 b17 as17 x17 n17 s17 => ?_⟩
        exact ⟨rfl, _, rfl, itF rfl ⟨xo.trans x17, x17 _ _ lo⟩⟩
      rintro H17 ⟨x17, l17⟩
      refine ⟨sz (by simp), ?_⟩
      intro p18 n18
      generalize e18 : upd _ p18 _ = H18
      obtain ⟨x18, s18, o18⟩ := new_of e18 n18
      clear e18
      refine ⟨.list [], .list [], .lst (Evl.sq_of (x18 _ _ l17)) .nil, .lst (Evl.sq_of s18) .nil, rfl, rfl, (by decide), _, rfl, itF rfl ?_⟩
      exact ⟨_, _, rfl, x16.trans (x17.trans x18)⟩
    rintro σ' H19 ⟨u8, v1, rfl, x19⟩
    have x1119 : Ex H11 H19 := x113.trans (x1315.trans x19)
    have s19 := x19 _ _ s15
    have RT19 := rowsAt_ex x19 RT15
    have xF19 := xF11.trans x1119
    refine ⟨_, rfl, _, rfl, F9, A9, fin, ta, us, mrgT rs k, rfl, C9, xF19, fl, s19, RT19, T1, by omega, tvT, fun H20 b20 us20 k20 x20 n20 s20 R20 c20 => ?_⟩
    rw [mrg_again tv r1 cc c20.le] at R20
    have same : ∀ {H' : Hp} {x y : Addr} {ts1 ts2 : List Addr}, H' x = some (.lst (ts1.map V.ref)) → RowsAt K H' ts1 (mrgT rs k) → H' y = some (.lst (ts2.map V.ref)) → RowsAt K H' ts2 (mrgT rs k) → Dp K H' (.ref x) (.list (dT46 (mrgT rs k))) ∧ Dp K H' (.ref y) (.list (dT46 (mrgT rs k))) := fun h1 h2 h3 h4 => ⟨.lst (Evl.sq_of h1) (dp_T46 h2), .lst (Evl.sq_of h3) (dp_T46 h4)⟩
    obtain ⟨d1, d2⟩ := same s20 R20 (x20 _ _ s19) (rowsAt_ex x20 RT19)
    have depT : (PyData.list (dT46 (mrgT rs k))).depth ≤ 16 * 60 + 200 := Nat.le_trans (dep_T46 _) (by decide)
    refine ⟨_, rfl, _, _, d1, d2, can2, can2, Nat.le_trans (Nat.min_le_left _ _) (Nat.le_trans (dep_T46 _) (by decide)), ?_⟩
    rw [PySem.SeqAt.eqv_refl _ can2]
    have x1120 := x1119.trans x20
    refine ⟨_, rfl, _, rfl, _, rfl, rfl, F9, A9, fin, la, ts, rs, rfl, C9, xF11.trans x1120, fl, x1120 _ _ hla, rowsAt_ex x1120 RA, r1, by omega, tv, fun H21 b21 us21 k21 x21 n21 s21 R21 c21 => ?_⟩
    rw [c21.det cs] at R21
    have RT20 := rowsAt_ex x20 RT19
    obtain ⟨d1, d2⟩ := same s21 R21 (x21 _ _ (x20 _ _ s19)) (rowsAt_ex x21 RT20)
    refine ⟨_, rfl, _, _, d1, d2, can2, can2, Nat.le_trans (Nat.min_le_left _ _) (Nat.le_trans (dep_T46 _) (by decide)), ?_⟩
    rw [PySem.SeqAt.eqv_refl _ can2]
    refine ⟨_, rfl, ?_⟩
    have x1121 := x1120.trans x21
    have s21t := x21 _ _ (x20 _ _ s19)
    have RT21 := rowsAt_ex x21 RT20
    refine ⟨_, rfl, _, rfl, F9, A9, fin, ta, us, mrgT rs k, rfl, C9, xF11.trans x1121, fl, s21t, RT21, T1, by omega, tvT, fun H22 b22 us22 k22 x22 n22 s22 R22 c22 => ?_⟩
    rw [mrg_again tv r1 cc c22.le] at R22
    have tl22 := rowsAt_len R22
    refine ⟨_, rfl, .inl ⟨rfl, _, Evl.sq_of s22⟩, b22, _, _, rfl, rfl, s22, szl (by rw [List.length_map, tl22]; omega), ?_⟩
    generalize e23 : upd _ b22 _ = H23
    obtain ⟨s23, o23⟩ := set_of e23
    clear e23
    have x1122 := x1121.trans x22
    have n22H : H11 b22 = none := ex_none x1121 n22
    have x1123 : Ex H11 H23 := fun b o h => (o23 b (fun z => by rw [z, n22H] at h; cases h)).trans (x1122 _ _ h)
    have n22H21 : ∀ {b : Addr} {o : HO}, H21 b = some o → b ≠ b22 := fun {b o} h z => by rw [z, n22] at h; cases h
    have x2123 : Ex H21 H23 := fun b o h => (o23 b (n22H21 h)).trans (x22 _ _ h)
    have s23t := x2123 _ _ s21t
    have RT23 := rowsAt_ex x2123 RT21
    have R23 : RowsAt K H23 us22 (mrgT rs k) := L2.Paired.mapP R22 fun c y h => row_setL h s22 o23
    refine ⟨_, rfl, sz (by simp), ?_⟩
    intro p24 n24
    generalize e24 : upd _ p24 _ = H24
    obtain ⟨x24, s24, o24⟩ := new_of e24 n24
    clear e24
    refine ⟨ta, p24, _, _, rfl, rfl, x24 _ _ s23t, s24, szl (by rw [List.length_map, tul]; omega), ?_⟩
    intro p25 n25
    generalize e25 : upd _ p25 _ = H25
    obtain ⟨x25, s25, o25⟩ := new_of e25 n25
    clear e25
    have x2325 := x24.trans x25
    have can3 : PyData.canLay0 (.list (dT46 (mrgT rs k) ++ [.none])) = true := canAll fun d hd => (List.mem_append.mp hd).elim (c2 d) fun h => by rw [List.mem_singleton.mp h] <;> rfl
    have dA : ∀ {ts : List Addr}, RowsAt K H25 ts (mrgT rs k) → DpAll K H25 (ts.map V.ref ++ [V.non]) (dT46 (mrgT rs k) ++ [.none]) := fun h => dpA_app46 (dp_T46 h) (.cons .non .nil)
    have d3 : Dp K H25 (.ref p25) (.list (dT46 (mrgT rs k) ++ [.none])) := .lst (Evl.sq_of s25) (dA (rowsAt_ex x2325 RT23))
    have d4 : Dp K H25 (.ref b22) (.list (dT46 (mrgT rs k) ++ [.none])) := .lst (Evl.sq_of (x2325 _ _ s23)) (dA (rowsAt_ex x2325 R23))
    refine ⟨_, rfl, _, _, d3, d4, can3, can3, Nat.le_trans (Nat.min_le_left _ _) (Nat.le_trans (dep_app46 _) (by decide)), ?_⟩
    rw [PySem.SeqAt.eqv_refl _ can3]
    refine ⟨_, rfl, ?_⟩
    have x1125 := x1123.trans x2325
    have s25t := x2325 _ _ s23t
    have RT25 := rowsAt_ex x2325 RT23
    refine ⟨_, rfl, _, rfl, F9, A9, fin, ta, us, mrgT rs k, rfl, C9, xF11.trans x1125, fl, s25t, RT25, T1, by omega, tvT, fun H26 b26 us26 k26 x26 n26 s26 R26 c26 => ?_⟩
    rw [mrg_again tv r1 cc c26.le] at R26
    obtain ⟨d5, d6⟩ := same s26 R26 (x26 _ _ s25t) (rowsAt_ex x26 RT25)
    refine ⟨_, rfl, _, _, d5, d6, can2, can2, Nat.le_trans (Nat.min_le_left _ _) (Nat.le_trans (dep_T46 _) (by decide)), ?_⟩
    rw [PySem.SeqAt.eqv_refl _ can2]
    refine ⟨_, rfl, itF rfl ?_⟩
    have x1126 := x1125.trans x26
    refine ⟨_, _, _, _, _, _, _, rfl, fun b o nb h => x1126 _ _ (k11 b o nb (k10 b o nb h)), (s11.kp fun o h => x1126 _ _ h).up (by omega)⟩
end
end Fc
namespace Fc
open PySem PySem.Spec PyProof.Rows L2
/-- a def that lets nothing out -/
theorem calm_fn {P : Program} {w : World} {K : PySem.W.Frag} {mg : Str → Option Value} {base : Heap} {k : Nat} {f : Addr} {fd : FuncData} {ps : List Str} {sp : Sp} (G : FnOk P w K mg base (L2.CX P w) k f fd ps sp) (hsp : ∀ vs H Q E, sp vs H Q E → sp vs H Q (fun _ _ _ => False)) : FnOk P w K mg base CX0 k f fd ps sp :=
  ⟨G.len, fun A outer s H args us vs Q E hr e b r h => codeAny_mono (G.run A outer s H args us vs Q (fun _ _ _ => False) hr e b r (hsp _ _ _ _ h)) fun r s' hq => by
    cases r with
    | error e =>
      obtain ⟨_, _, _, _, _, _, _, _, _, _, _, _, z⟩ := hq
      exact z.elim
    | ok fl => cases fl <;> exact hq⟩
end Fc
open PySem PySem.W PyProof.Rows in
set_option maxRecDepth 100000 in
set_option maxHeartbeats 0 in
theorem PySem.Challenge.cw_finallycopies_k46_any_tables_merged_holds : PySem.Challenge.rw_finallycopies_k46_any_tables_merged.Holds := by
  w_on; o_law
  refine HandSHeadRun.head_any (r := Fc.R) (q := view Fc.R.prog [45]) (H := Fc.hk) (ob := Fc.ob) (M := 20000) (loose := Fc.looseL) (d := HandSHeadRun.topDef Fc.R.prog 45) (kwd := []) Fc.ob_eq
    (by kernel_rfl) (fun s => by kernel_rfl) Fc.run (by kernel_rfl) (by kernel_rfl) (by kernel_rfl) (by rfl) (by first | assumption | decide +kernel) (by decide +kernel) ⟨rfl, rfl, rfl, rfl, rfl, by decide +kernel⟩ ?hw ?hc
  case hw => w_witness2
  case hc =>
    refine L2.walk_ofE (l := PySem.Challenge.rw_finallycopies_k46_any_tables_merged) (n := 63) (k := 60) (x := "_law_script") (CX := L2.CX0) rfl (by decide) (by kernel_rfl) ⟨rfl, by decide, by decide⟩ ?F (fun _ _ _ _ z => z)
    intro w mg fa h Y G hmg0
    obtain ⟨K, KX, c⟩ := Y
    have hmg : mg ("law" : PySem.Str) = some (.ref fa) := by
      have e : (HandSHeadRun.topDef Fc.R.prog 45).name = ("law" : PySem.Str) := by kernel_rfl
      rw [← e]
      exact hmg0
    have T : Fc.Tx w h K mg := ⟨KX, G, c⟩
    obtain rfl : fa = He.ga K "law" := Value.ref.inj (Option.some.inj (hmg.symm.trans (Fc.g_law T)))
    obtain ⟨fd, F⟩ := Fc.F_law T
    have b := L2.FunD.bindsA (ps := ["_law_script"]) F fun _ _ _ _ _ _ us hl => match us, hl with | [_], _ => rfl
    refine ⟨K, fd, Fc.sp_law K, KX, fun s v => b s [v] rfl, fun H a ns hl _ hS => ⟨a, ns, rfl, hl, hS, fun _ => rfl⟩, fun base _ _ => ?_⟩
    obtain ⟨fd', G', _, _, F'⟩ := Fc.okF_law (P := (PySem.Challenge.rw_finallycopies_k46_any_tables_merged).prog) (base := base) T
    obtain rfl : fd = fd' := by
      obtain ⟨_, _, _, _, _, _, _, _, _, _, _, l1, _⟩ := F.ex
      obtain ⟨_, _, _, _, _, _, _, _, _, _, _, l2, _⟩ := F'.ex
      have z := l1.symm.trans l2
      cases z
      rfl
    exact Fc.calm_fn G' (fun _ _ _ _ z => z)
