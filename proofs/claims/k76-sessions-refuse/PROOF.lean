import PyProof.Rows.All
import Wide.All
import OpenK.AllK
import Wide.FinOn
import KE.KDictItemsList
import HandS.ForMost
import PyProof.EqAt
import PyProof.EqKinds
import PyProof.EnumMake
import HandS.Exc
import HandS.Conv
import HandS.Evl
import HandS.IsInst
import HandS.Style
import HandS.TupAny
import HandS.Defaults
import HandS.HeadHook4
import HandS.Walk
import KE.KExcInit
import KE.KExcIs
import HandS.ExcOwn
import HandS.ExcInit
import HandS.ExcValue
import HandS.OwnEq
import HandS.MakeKw
import HandS.TryMany
import HandS.ExcField
import HandS.CallLocal
import HandS.Lambda
import HandS.Nested
import HandS.EndTab
import HandS.HeadWalk
import PyProof.ReprRoads
import HandS.Head0
import HandS.Head1
import HandS.Head2
import HandS.HeadEnd
import HandS.HeadHook1
import HandS.HeadHook2
import HandS.HeadHook3
import HandS.More
import PyProof.CallFns
import PySem.Challenge.RW_finallycopies_k76_sessions_refuse
set_option Elab.async false
set_option linter.all false
set_option maxRecDepth 100000
set_option maxHeartbeats 4000000
/-! list(enumerate(xs)): the pairs of a list, in order -/
namespace FcE
open PySem PySem.W PySem.Calls PyProof.Rows PyProof.V PySem.Spec

/-- an enumerate object behind a pair that it gave out and that still lives at a -/
def EnB (h : Heap) (e it a : Addr) (f : Bool) (i : Int) (item : Value) : Prop :=
  h.get? e = some { cls := .type "enumerate", dict := none, data := .fields #[rawInt a, .bool f, .ref it, rawInt i, .none, item], slots := #[] }

section
variable {prog : Program} {w : World} {A : Around} {E : Value → Shared → Prop} {s : Shared}
theorem enB_next {e it l a : Addr} {f : Bool} {oa : Obj} {i : Nat} {items : Array Value} {x item : Value} {Q : Option Value → Shared → Prop}
    (he : EnB s.heap e it a f i item) (ha : s.heap.get? a = some oa) (hae : a ≠ e) (hai : a ≠ it) (hit : s.heap.IsListIter it l i) (hl : s.heap.IsList l items) (hx : items[i]? = some x) (hne : e ≠ it)
    (hQ : ∀ h', EnB h' e it a true ((i : Int) + 1) item → h'.IsListIter it l (i + 1) →
      h'.get? s.heap.objs.size = some { cls := .type "tuple", data := .seq #[.int i s.toks, x] } → h'.objs.size = s.heap.objs.size + 1 →
      (∀ b o, b ≠ e → b ≠ it → s.heap.get? b = some o → h'.get? b = some o) → Q (some (.ref s.heap.objs.size)) { s with heap := h', toks := s.toks + 1 }) :
    wpAny (model prog w) A (pyNext (.ref e)) Q E s := by
  obtain ⟨hp, g, d, tk, os⟩ := s
  have hT : Shared.TypeIs ⟨hp, g, d, tk, os⟩ (.ref e) "enumerate" := ⟨_, he, rfl⟩
  unfold pyNext
  refine wpAny_bind (wpAny_attempt (wpAny_callSpecial?_slot (name := Str.ofString "__next__") hT F.slot_enumerate_next
    (wpAny_call_entry F.slot_enumerate_next hT F.entry_enumerate_next ?_ (F.args_enumerate_next_1 _))))
  show wpAny _ _ (field (.ref e) 2 >>= _) _ _ _
  refine wpAny_bind (wpAny_field he rfl (x := .ref it) rfl ?_)
  refine wpAny_bind (wpAny_nextOf_list_item hit hl hx fun h1 hit1 hs1 => ?_)
  replace hs1 : Heap.SameBut it hp h1 := hs1
  have he1 : EnB h1 e it a f i item := (hs1.2 e hne).trans he
  show wpAny _ _ (field (.ref e) 3 >>= _) _ _ ⟨h1, g, d, tk, os⟩
  refine wpAny_bind (wpAny_field he1 rfl (x := rawInt i) rfl ?_)
  show wpAny _ _ (field (.ref e) 4 >>= _) _ _ ⟨h1, g, d, tk, os⟩
  refine wpAny_bind (wpAny_field he1 rfl (x := .none) rfl ?_)
  show wpAny _ _ (mkInt i >>= _) _ _ ⟨h1, g, d, tk, os⟩
  refine wpAny_bind (wpAny_mkInt ?_)
  show wpAny _ _ (setField (.ref e) 3 (rawInt ((i : Int) + 1)) >>= _) _ _ ⟨h1, g, d, tk + 1, os⟩
  refine wpAny_bind (wpAny_setField_rec he1 (by simp) fun h2 he2 hs2 => ?_)
  replace hs2 : Heap.SameBut e h1 h2 := hs2
  replace he2 : EnB h2 e it a f ((i : Int) + 1) item := he2
  show wpAny _ _ (setField (.ref e) 4 .none >>= _) _ _ ⟨h2, g, d, tk + 1, os⟩
  refine wpAny_bind (wpAny_setField_rec he2 (by simp) fun h3 he3 hs3 => ?_)
  replace hs3 : Heap.SameBut e h2 h3 := hs3
  replace he3 : EnB h3 e it a f ((i : Int) + 1) item := he3
  show wpAny _ _ (newTuple [.int i tk, x] >>= _) _ _ ⟨h3, g, d, tk + 1, os⟩
  refine wpAny_bind (wpAny_newTuple ?_)
  have he4 : EnB (h3.push { cls := .type "tuple", data := .seq #[.int i tk, x] }) e it a f ((i : Int) + 1) item := Heap.get?_push_of_some _ he3
  generalize hh4 : h3.push { cls := .type "tuple", data := .seq #[.int i tk, x] } = h4 at he4
  have hsz : h3.objs.size = hp.objs.size := by rw [hs3.1, hs2.1, hs1.1]
  have hel : e < hp.objs.size := Heap.lt_size he
  have ht4 : h4.get? hp.objs.size = some { cls := .type "tuple", data := .seq #[.int i tk, x] } := by rw [← hh4, ← hsz]; exact Heap.get?_push_size _ rfl
  have hz4 : h4.objs.size = hp.objs.size + 1 := by rw [← hh4, Heap.size_push, hsz]
  have hk4 : ∀ b o, b ≠ e → b ≠ it → hp.get? b = some o → h4.get? b = some o := fun b o hbe hbi hb => by
    rw [← hh4]; exact Heap.get?_push_of_some _ (hs3.extBut b o hbe (hs2.extBut b o hbe (hs1.extBut b o hbi hb)))
  have hit4 : h4.IsListIter it l (i + 1) := by
    rw [← hh4]; obtain ⟨o, ho, r⟩ := (hit1.extBut hs2.extBut (Ne.symm hne)).extBut hs3.extBut (Ne.symm hne); exact ⟨o, Heap.get?_push_of_some _ ho, r⟩
  show wpAny _ _ (Builtin.SmallTypes.ownedTupleIsFree (.ref e) >>= _) _ _ ⟨h4, g, d, tk + 1, os⟩
  rw [hsz]
  have ha4 : h4.get? a = some oa := hk4 a oa hae hai ha
  clear hh4 he3 hs3 he2 hs2 he1 hs1 hit1 hsz h3 h2 h1
  refine wpAny_bind ?_
  unfold Builtin.SmallTypes.ownedTupleIsFree
  refine wpAny_bind (wpAny_field he4 rfl (x := rawInt a) rfl ?_)
  show wpAny _ _ (loadIfAlive ((a : Int).toNat) >>= _) _ _ _
  rw [Int.toNat_natCast]
  refine wpAny_bind (kdx_alive ha4 ?_)
  simp only [Option.isNone_some, Bool.false_eq_true, if_false]
  refine wpAny_bind (wpAny_field he4 rfl (x := .bool f) rfl ?_)
  have fin : ∀ h5 : Heap, EnB h5 e it a true ((i : Int) + 1) item → Heap.SameBut e h4 h5 → Q (some (.ref hp.objs.size)) ⟨h5, g, d, tk + 1, os⟩ := fun h5 he5 hs5 =>
    hQ h5 he5 (hit4.extBut hs5.extBut (Ne.symm hne)) (by exact hs5.extBut _ _ (Nat.ne_of_gt hel) ht4) (by show h5.objs.size = hp.objs.size + 1; rw [hs5.1, hz4]) fun b o hbe hbi hb => hs5.extBut b o hbe (hk4 b o hbe hbi hb)
  cases f with
  | true =>
    rw [if_neg (show ¬ ((Value.bool true != Value.bool true) = true) from Bool.false_ne_true)]
    refine wpAny_pure ?_
    simp only [Bool.false_eq_true, if_false]
    exact wpAny_pure ⟨_, rfl, wpAny_pure (fin h4 he4 (Heap.SameBut.refl _ _))⟩
  | false =>
    rw [if_pos (show (Value.bool false != Value.bool true) = true from rfl)]
    refine wpAny_bind (wpAny_setField_rec he4 (by simp) fun h5 he5 hs5 => ?_)
    replace hs5 : Heap.SameBut e h4 h5 := hs5
    replace he5 : EnB h5 e it a true ((i : Int) + 1) item := he5
    refine wpAny_pure ?_
    simp only [Bool.false_eq_true, if_false]
    exact wpAny_pure ⟨_, rfl, wpAny_pure (fin h5 he5 hs5)⟩
theorem enB_done {e it l a : Addr} {f : Bool} {i : Nat} {items : Array Value} {item : Value} {Q : Option Value → Shared → Prop} (hh : A.handled = none)
    (he : EnB s.heap e it a f i item) (hit : s.heap.IsListIter it l i) (hl : s.heap.IsList l items) (hx : items[i]? = none)
    (hQ : ∀ h', Heap.ExtBut it s.heap h' → Q none { s with heap := h' }) : wpAny (model prog w) A (pyNext (.ref e)) Q E s := by
  have hT : s.TypeIs (.ref e) "enumerate" := ⟨_, he, rfl⟩
  unfold pyNext
  refine wpAny_bind (wpAny_attempt (wpAny_callSpecial?_slot (name := Str.ofString "__next__") hT F.slot_enumerate_next
    (wpAny_call_entry F.slot_enumerate_next hT F.entry_enumerate_next ?_ (F.args_enumerate_next_1 _))))
  show wpAny _ _ (field (.ref e) 2 >>= _) _ _ _
  refine wpAny_bind (wpAny_field he rfl (x := .ref it) rfl ?_)
  refine wpAny_bind (wpAny_nextOf_list_end hh hit hl hx fun h' x he' hx' => ?_)
  obtain ⟨o, ho, hc⟩ := hx'
  refine wpAny_bind (wpAny_isInstance (T := "StopIteration") (b := true) ⟨o, ho, hc⟩ isSubtype_stop ?_)
  exact wpAny_pure (hQ _ he')
end
/-- between two pairs: none given out, or the last one lives -/
def EnSt (h : Heap) (e it S : Addr) (i : Nat) : Prop :=
  (i = 0 ∧ ∃ old, IsEnum h e it 0 old) ∨ ∃ a f oa item, EnB h e it a f i item ∧ h.get? a = some oa ∧ a ≠ e ∧ a ≠ it ∧ a ≠ S
theorem EnSt.keep {h h' : Heap} {e it S : Addr} {i : Nat} (x : EnSt h e it S i) (hk : ∀ b o, b ≠ S → h.get? b = some o → h'.get? b = some o) (hS : e ≠ S) : EnSt h' e it S i := by
  rcases x with ⟨z, old, q⟩ | ⟨a, f, oa, item, q, r, n1, n2, n3⟩
  · exact .inl ⟨z, old, hk e _ hS q⟩
  · exact .inr ⟨a, f, oa, item, hk e _ hS q, hk a oa n3 r, n1, n2, n3⟩
/-- the pairs that were given: at as, above lo, in order -/
structure EnG (items : Array Value) (lo : Addr) (h : Heap) (as : List Addr) : Prop where
  above : ∀ a ∈ as, lo < a
  nodup : as.Nodup
  pairs : ∀ (j : Nat) (a : Addr), as[j]? = some a → ∃ t x, items[j]? = some x ∧ h.get? a = some { cls := .type "tuple", data := .seq #[.int j t, x] }
section
variable {prog : Program} {w : World} {A : Around} {E : Value → Shared → Prop} {s : Shared} {R : Result → Shared → Prop} {items : Array Value}
theorem en_item {e it l S : Addr} {i : Nat} {x : Value} {Q : Option Value → Shared → Prop} (hst : EnSt s.heap e it S i) (hS : S < s.heap.objs.size) (hit : s.heap.IsListIter it l i) (hl : s.heap.IsList l items) (hx : items[i]? = some x) (hne : e ≠ it)
    (hQ : ∀ h', EnSt h' e it S (i + 1) → h'.IsListIter it l (i + 1) → h'.get? s.heap.objs.size = some { cls := .type "tuple", data := .seq #[.int i s.toks, x] } → h'.objs.size = s.heap.objs.size + 1 →
      (∀ b o, b ≠ e → b ≠ it → s.heap.get? b = some o → h'.get? b = some o) → Q (some (.ref s.heap.objs.size)) { s with heap := h', toks := s.toks + 1 }) :
    wpAny (model prog w) A (pyNext (.ref e)) Q E s := by
  have itl : it < s.heap.objs.size := by obtain ⟨_, q, _⟩ := hit; exact Heap.lt_size q
  rcases hst with ⟨z, old, q⟩ | ⟨a, f, oa, item, q, r, n1, n2, n3⟩
  · subst z
    refine wpAny_pyNext_enum_item q hit hl hx hne fun h' ho h1 h2 h3 hk => hQ h' (.inr ⟨s.heap.objs.size, false, _, x, ?_, h2, Nat.ne_of_gt (Heap.lt_size q), Nat.ne_of_gt itl, Nat.ne_of_gt hS⟩) h1 h2 h3 hk
    exact ho
  · refine enB_next q r n1 n2 hit hl hx hne fun h' ho h1 h2 h3 hk => hQ h' (.inr ⟨a, true, oa, item, ?_, hk a oa n1 n2 r, n1, n2, n3⟩) h1 h2 h3 hk
    have z : ((i + 1 : Nat) : Int) = (i : Int) + 1 := by omega
    rw [z]
    exact ho
theorem en_done {e it l S : Addr} {i : Nat} {Q : Option Value → Shared → Prop} (hh : A.handled = none) (hst : EnSt s.heap e it S i) (hit : s.heap.IsListIter it l i) (hl : s.heap.IsList l items) (hx : items[i]? = none)
    (hQ : ∀ h', Heap.ExtBut it s.heap h' → Q none { s with heap := h' }) : wpAny (model prog w) A (pyNext (.ref e)) Q E s := by
  rcases hst with ⟨z, old, q⟩ | ⟨a, f, oa, item, q, r, n1, n2, n3⟩
  · subst z
    exact wpAny_pyNext_enum_end hh q hit hl hx hQ
  · exact enB_done hh q hit hl hx hQ

theorem en_loop {S e it l : Addr} (hh : A.handled = none) (hSe : e < S) (hSi : it < S) (hSl : l ≠ S) (hle : l ≠ e) (hli : l ≠ it) (hne : e ≠ it) (hn : items.size ≤ sizeLine) (res : Value) {h0 : Heap}
    (hR : ∀ h' tk acc c as, (∀ b o, b ≠ S → b ≠ e → b ≠ it → h0.get? b = some o → h'.get? b = some o) → h'.get? S = some { cls := .type "list", dict := none, data := .seq acc c, slots := #[] } → as.length = items.size → EnG items S h' as →
      acc.toList = as.map Value.ref → R (.ok (.ret res)) { s with heap := h', toks := tk }) :
    ∀ (k i : Nat) (h : Heap) (tk c : Nat) (acc : Array Value) (as : List Addr), items.size - i = k → i ≤ items.size → EnSt h e it S i → h.IsListIter it l i → h.IsList l items → (∀ b o, b ≠ S → b ≠ e → b ≠ it → h0.get? b = some o → h.get? b = some o) →
      h.get? S = some { cls := .type "list", dict := none, data := .seq acc c, slots := #[] } → acc.toList = as.map Value.ref → as.length = i → EnG items S h as →
      codeAny (model prog w) A (.builtin "list.extend.loop" ⟨[.ref S, .ref e, res], []⟩) R { s with heap := h, toks := tk } := by
  have nSe : S ≠ e := Nat.ne_of_gt hSe
  have nSi : S ≠ it := Nat.ne_of_gt hSi
  intro k
  induction k with
  | zero =>
    intro i h tk c acc as hk hi hst hit hl hkeep hS hacc hal hG
    have hin : i = items.size := by omega
    refine codeAny_builtin PySem.F.entry_extend_loop ?_
    rw [Around.under_plainId PySem.F.plain_extend_loop _]
    show wpAny _ A.in1 (pyNext (.ref e) >>= _) _ _ _
    refine wpAny_bind (en_done (s := { s with heap := h, toks := tk }) (A := A.in1) hh hst hit hl (Array.getElem?_eq_none (by omega)) fun h' he => ?_)
    refine wpAny_pure (hR h' tk acc c as (fun b o h1 h2 h3 z => he b o h3 (hkeep b o h1 h2 h3 z)) (he S _ nSi hS) (by omega) ⟨hG.above, hG.nodup, fun j a hj => ?_⟩ hacc)
    obtain ⟨t, x, e1, e2⟩ := hG.pairs j a hj
    exact ⟨t, x, e1, he a _ (Nat.ne_of_gt (Nat.lt_trans hSi (hG.above a (List.mem_of_getElem? hj)))) e2⟩
  | succ k ih =>
    intro i h tk c acc as hk hi hst hit hl hkeep hS hacc hal hG
    have hlt : i < items.size := by omega
    have hsz : acc.size = i := by rw [← Array.length_toList, hacc, List.length_map, hal]
    have hx : items[i]? = some items[i] := Array.getElem?_eq_getElem hlt
    have hSz : S < h.objs.size := Heap.lt_size hS
    refine codeAny_builtin PySem.F.entry_extend_loop ?_
    rw [Around.under_plainId PySem.F.plain_extend_loop _]
    show wpAny _ A.in1 (pyNext (.ref e) >>= _) _ _ _
    refine wpAny_bind (en_item (s := { s with heap := h, toks := tk }) (S := S) hst hSz hit hl hx hne fun h' hst' hit' ht hz hkp => ?_)
    dsimp only at ht hz hkp ⊢
    have hS' := hkp S _ nSe nSi hS
    have up : ∀ b o, b ≠ S → h'.get? b = some o → (h'.update S (Obj.mapSeq (·.push (Value.ref h.objs.size)))).get? b = some o := fun b o hb z => (Heap.get?_update_other _ _ (Ne.symm hb)).trans z
    have hl' : (h'.update S (Obj.mapSeq (·.push (Value.ref h.objs.size)))).IsList l items := hl.at fun o z => up l o hSl (hkp l o hle hli z)
    have hit2 : (h'.update S (Obj.mapSeq (·.push (Value.ref h.objs.size)))).IsListIter it l (i + 1) := hit'.at fun o z => up it o (Ne.symm nSi) z
    show wpAny _ A.in1 (updateSeq S (·.push (Value.ref h.objs.size)) >>= _) _ _ _
    refine wpAny_bind ?_
    refine wpAny_updateSeq hS' rfl (wpAny_pure ⟨plainId_quiet PySem.F.plain_extend_loop _, ih (i + 1) _ (tk + 1) _ (acc.push (Value.ref h.objs.size)) (as ++ [h.objs.size]) (by omega) hlt (hst'.keep up (Ne.symm nSe)) hit2 hl'
      (fun b o h1 h2 h3 z => up b o h1 (hkp b o h2 h3 (hkeep b o h1 h2 h3 z))) (Heap.get?_update_self _ hS' rfl) (by rw [Array.toList_push, hacc, List.map_append]; rfl) (by rw [List.length_append, hal]; rfl) ⟨?_, ?_, ?_⟩⟩) (by rw [hsz]; omega) (by show (acc.push (Value.ref h.objs.size)).size ≤ sizeLine + 1; rw [Array.size_push, hsz]; omega)
    · intro a ha
      rcases List.mem_append.mp ha with ha | ha
      · exact hG.above a ha
      · rw [List.mem_singleton.mp ha]; exact hSz
    · refine List.nodup_append.mpr ⟨hG.nodup, List.nodup_cons.mpr ⟨List.not_mem_nil, List.nodup_nil⟩, fun a ha b hb => ?_⟩
      rw [List.mem_singleton.mp hb]
      obtain ⟨j, hj⟩ := List.mem_iff_getElem?.mp ha
      obtain ⟨_, _, _, z⟩ := hG.pairs j a hj
      exact Nat.ne_of_lt (Heap.lt_size z)
    · intro j b hj
      rcases Nat.lt_trichotomy j as.length with h1 | h1 | h1
      · rw [List.getElem?_append_left h1] at hj
        obtain ⟨t, x, e1, e2⟩ := hG.pairs j b hj
        have hb := hG.above b (List.mem_of_getElem? hj)
        exact ⟨t, x, e1, up b _ (Nat.ne_of_gt hb) (hkp b _ (Nat.ne_of_gt (Nat.lt_trans hSe hb)) (Nat.ne_of_gt (Nat.lt_trans hSi hb)) e2)⟩
      · subst h1
        have hb : h.objs.size = b := by simpa using hj
        subst hb
        subst hal
        exact ⟨tk, _, hx, up _ _ (Nat.ne_of_gt hSz) ht⟩
      · have hnone : (as ++ [h.objs.size])[j]? = none := List.getElem?_eq_none (by rw [List.length_append, List.length_singleton]; omega)
        rw [hnone] at hj; cases hj
end
theorem nolen_enum : typeLookup (.type "enumerate") "__len__" = pure none := by rw [typeLookup_type, builtinLookup_eq_fast]; kernel_rfl
theorem nohint_enum : typeLookup (.type "enumerate") "__length_hint__" = pure none := by rw [typeLookup_type, builtinLookup_eq_fast]; kernel_rfl
section
variable {prog : Program} {w : World} {A : Around} {E : Value → Shared → Prop} {s : Shared} {items : Array Value}
theorem en_hint {r : Addr} {Q : Bool → Shared → Prop} (hT : s.TypeIs (.ref r) "enumerate") (h : Q true s) : wpAny (model prog w) A (Builtin.List.listLengthHint (.ref r)) Q E s := by
  unfold Builtin.List.listLengthHint
  refine wpAny_bind (wpAny_specialOf hT nolen_enum ?_)
  refine wpAny_ite_split (fun hab => absurd hab (by decide)) (fun _ => ?_)
  refine wpAny_ite_split (fun hab => absurd hab (by decide)) (fun _ => ?_)
  refine wpAny_bind (wpAny_specialOf hT nohint_enum ?_)
  exact wpAny_pure h
theorem en_extend {R : Result → Shared → Prop} {S e it l : Addr} (hh : A.handled = none) (hSe : e < S) (hSi : it < S) (hSl : l ≠ S) (hle : l ≠ e) (hli : l ≠ it) (hne : e ≠ it) (hst : IsEnum s.heap e it 0 .none) (hit : s.heap.IsListIter it l 0) (hl : s.heap.IsList l items)
    (res : Value) (c0 : Nat) (hS : s.heap.get? S = some { cls := .type "list", data := .seq #[] c0 })
    (hR : ∀ h' tk acc c as, (∀ b o, b ≠ S → b ≠ e → b ≠ it → s.heap.get? b = some o → h'.get? b = some o) → h'.get? S = some { cls := .type "list", dict := none, data := .seq acc c, slots := #[] } → as.length = items.size → EnG items S h' as →
      acc.toList = as.map Value.ref → R (.ok (.ret res)) { s with heap := h', toks := tk }) (hn : items.size ≤ sizeLine) :
    wpAny (model prog w) A.in1 (Builtin.List.listExtendWith (.ref S) (.ref e) res)
      (fun fin s' => match fin with | .done f => R (.ok f) s' | .again c' => c'.quiet = true ∧ codeAny (model prog w) A c' R s') (fun e s' => R (.error e) s') s := by
  have nSe : S ≠ e := Nat.ne_of_gt hSe
  have hT : s.TypeIs (.ref e) "enumerate" := ⟨_, hst, rfl⟩
  have key : ∀ (h : Heap) (c1 tk : Nat), (∀ b o, b ≠ S → s.heap.get? b = some o → h.get? b = some o) → h.get? S = some { cls := .type "list", data := .seq #[] c1 } →
      codeAny (model prog w) A (.builtin "list.extend.loop" ⟨[.ref S, .ref e, res], []⟩) R { s with heap := h, toks := tk } := by
    intro h c1 tk hk hS1
    exact en_loop (items := items) (s := s) (h0 := s.heap) hh hSe hSi hSl hle hli hne hn res hR items.size 0 h tk c1 #[] [] (Nat.sub_zero _) (Nat.zero_le _) (.inl ⟨rfl, .none, hk e _ (Ne.symm nSe) hst⟩)
      (hit.at fun o z => hk it o (Nat.ne_of_lt hSi) z) (hl.at fun o z => hk l o hSl z) (fun b o h1 _ _ z => hk b o h1 z) hS1 rfl rfl ⟨(fun _ z => nomatch z), List.nodup_nil, fun j a hj => by simp at hj⟩
  unfold Builtin.List.listExtendWith
  refine wpAny_bind (wpAny_typeOf (T := "enumerate") hT ?_)
  have h1 : Builtin.List.listSameRef (.ref S) (.ref e) = false := by simp [Builtin.List.listSameRef, nSe]
  have h2 : (Value.type "enumerate" == Value.type "list") = false := by decide
  have h3 : (Value.type "enumerate" == Value.type "tuple") = false := by decide
  simp only [h1, h2, h3, Bool.or_false, Bool.false_eq_true, if_false]
  refine wpAny_bind (wpAny_pyIter_enum hst ?_)
  refine wpAny_bind (wpAny_holding (en_hint hT ?_))
  refine wpAny_ite_split (fun _ => ?_) (fun _ => wpAny_pure ⟨plainId_quiet PySem.F.plain_extend_loop _, key _ c0 _ (fun b o _ z => z) hS⟩)
  refine wpAny_bind (wpAny_rule ?_)
  refine wpAny_bind ?_
  show wpAny _ _ (updateSeq S (·.push .none) >>= fun _ => updateSeq S (·.pop)) _ _ _
  refine wpAny_bind (wpAny_updateSeq hS rfl ?_)
  have hS2 := Heap.get?_update_self (Obj.mapSeq (·.push Value.none)) hS rfl
  refine wpAny_updateSeq (hz := by seq_fits) hS2 rfl ?_
  have hS3 := Heap.get?_update_self (Obj.mapSeq (·.pop)) hS2 rfl
  refine wpAny_pure ⟨plainId_quiet PySem.F.plain_extend_loop _, key _ _ _ (fun b o hb z => ?_) hS3⟩
  exact (Heap.get?_update_other _ _ (Ne.symm hb)).trans ((Heap.get?_update_other _ _ (Ne.symm hb)).trans z)
theorem en_call {Q : Value → Shared → Prop} {e it l : Addr} (hh : A.handled = none) (hle : l ≠ e) (hli : l ≠ it) (hne : e ≠ it) (hst : IsEnum s.heap e it 0 .none) (hit : s.heap.IsListIter it l 0) (hl : s.heap.IsList l items) (hn : items.size ≤ sizeLine)
    (hQ : ∀ h' tk acc c as, (∀ b o, b ≠ e → b ≠ it → s.heap.get? b = some o → h'.get? b = some o) → h'.get? s.heap.objs.size = some { cls := .type "list", dict := none, data := .seq acc c, slots := #[] } → as.length = items.size → EnG items s.heap.objs.size h' as →
      acc.toList = as.map Value.ref → Q (.ref s.heap.objs.size) { s with heap := h', toks := tk }) :
    wpAny (model prog w) A (call (.type "list") [.ref e]) Q E s := by
  refine callType_codes (Q₁ := fun obj s₁ => obj = .ref s.heap.objs.size ∧ s₁ = { s with heap := s.heap.push { cls := .type "list", data := .seq #[] } }) PySem.F.called_list (PySem.F.typeCall_list_1 _) PySem.F.entry_list_init
    (code_list_new _ ⟨rfl, rfl⟩) fun obj s₁ h₁ => ?_
  obtain ⟨rfl, rfl⟩ := h₁
  have up : ∀ b o, s.heap.get? b = some o → (s.heap.push { cls := .type "list", data := .seq #[] }).get? b = some o := fun b o z => Heap.get?_push_of_some _ z
  have hS : (s.heap.push { cls := .type "list", data := .seq #[] }).get? s.heap.objs.size = some { cls := .type "list", data := .seq #[] } := Heap.get?_push_size _ rfl
  have le : e < s.heap.objs.size := Heap.lt_size hst
  have li : it < s.heap.objs.size := by obtain ⟨_, q, _⟩ := hit; exact Heap.lt_size q
  have ll : l ≠ s.heap.objs.size := by obtain ⟨_, q, _⟩ := hl; exact Nat.ne_of_lt (Heap.lt_size q)
  refine ⟨⟨_, hS, rfl⟩, PySem.F.args_list_init_2 _ _, ?_⟩
  show wpAny _ _ (do let old ← Builtin.List.listItems (.ref s.heap.objs.size); Builtin.List.listUpdate (.ref s.heap.objs.size) (fun _ => #[]); letGo old.toList.reverse; Builtin.List.listExtendWith (.ref s.heap.objs.size) (.ref e) .none) _ _ _
  refine wpAny_bind ?_
  unfold Builtin.List.listItems
  refine wpAny_bind (wpAny_seqItems hS rfl (wpAny_pure ?_))
  show wpAny _ _ (updateSeq s.heap.objs.size (fun _ => #[]) >>= fun _ => letGo (#[] : Array Value).toList.reverse >>= fun _ => Builtin.List.listExtendWith (.ref s.heap.objs.size) (.ref e) .none) _ _ _
  refine wpAny_bind (wpAny_updateSeq hS rfl ?_)
  have hS2 := Heap.get?_update_self (Obj.mapSeq (fun _ => (#[] : Array Value))) hS rfl
  have oth : ∀ b o, b ≠ s.heap.objs.size → s.heap.get? b = some o → ((s.heap.push { cls := .type "list", data := .seq #[] }).update s.heap.objs.size (Obj.mapSeq (fun _ => (#[] : Array Value)))).get? b = some o :=
    fun b o hb z => (Heap.get?_update_other _ _ (Ne.symm hb)).trans (up b o z)
  refine wpAny_bind (wpAny_letGo ?_)
  refine en_extend (A := A.in1) hh le li ll hle hli hne (oth e _ (Nat.ne_of_lt le) hst) (hit.at fun o z => oth it o (Nat.ne_of_lt li) z) (hl.at fun o z => oth l o ll z) .none _ hS2 (fun h' tk acc c as hk h1 h2 h3 h4 => ?_) hn
  exact ⟨rfl, hQ h' tk acc c as (fun b o n1 n2 z => hk b o (Nat.ne_of_lt (Heap.lt_size z)) n1 n2 (oth b o (Nat.ne_of_lt (Heap.lt_size z)) z)) h1 h2 h3 h4⟩
end
end FcE

set_option maxRecDepth 100000
set_option maxHeartbeats 4000000
namespace FcR
open PySem PySem.Spec PyProof.Rows L2
/-! ### nothing that a callee raises is asked for -/
theorem passF {P : Program} {w : World} {X : Cx} : Passes (CX P w) X (fun _ _ _ => False) := fun _ _ _ _ _ _ _ h => by
  obtain ⟨_, _, _, _, _, _, _, _, _, _, _, _, z⟩ := h
  exact z.elim
/-! ### an attribute as a target -/
def gFld (K : PySem.W.Frag) (to : TE) (f : Str) : TG := fun v σ H Q => to σ H fun x H1 => ∃ a C dx fs, x = .ref a ∧ H1 a = some (.ins C dx fs) ∧ Cls K C ∧ NoAttr K C f ∧ fs.length < 1000 ∧ Q σ (upd H1 a (.ins C dx (putF f v fs)))
theorem pg_fld {X : Cx} {o : Expr} {f : Str} {pos : Pos} {to : TE} (ho : PE X o to) : PG X (.Attribute o f pos) (gFld X.K to f) := by
  refine ⟨fun pins s σ H v u Q I r h => ?_⟩
  have ea : assign (.Attribute o f pos) X.env u = (do
      let ov ← holding [u] (eval o X.env)
      standAt pos.atName
      holding [u, ov] (setAttr ov f u)
      release [u, ov] []) := rfl
  rw [ea]
  refine wpAny_bind (wpAny_holding (thn (ho.run pins s σ H _ I h) fun ov s1 ⟨x, H1, I1, r1, a, C, dx, fs, ex, e1, c, n, l, q⟩ => ?_))
  subst ex
  obtain rfl : ov = Value.ref a := r1
  refine wpAny_bind (wpAny_standAt (wpAny_bind (wpAny_holding ?_)))
  exact setattr_ok I1 e1 c n l r fun s3 I3 => wpAny_release ⟨σ, _, I3, q⟩
/-! ### list(enumerate(e)) -/
def putP : Hp → List Addr → Nat → List V → Hp
  | H, a :: as, j, x :: xs => putP (upd H a (.tup [.int (j : Int), x])) as (j + 1) xs
  | H, _, _, _ => H
theorem putP_off {b : Addr} : ∀ (as : List Addr) (xs : List V) (j : Nat) (H : Hp), b ∉ as → putP H as j xs b = H b
  | [], _, _, _, _ => rfl
  | _ :: _, [], _, _, _ => rfl
  | a :: as, x :: xs, j, H, h => by
    show putP (upd H a (.tup [.int (j : Int), x])) as (j + 1) xs b = H b
    rw [putP_off as xs _ _ (fun z => h (List.mem_cons_of_mem _ z)), upd_ne (fun z => h (by rw [z]; exact List.mem_cons_self))]
theorem putP_at : ∀ (as : List Addr) (xs : List V) (j : Nat) (H : Hp), as.length = xs.length → as.Nodup → ∀ (i : Nat) (a : Addr) (x : V), as[i]? = some a → xs[i]? = some x → putP H as j xs a = some (.tup [.int ((j + i : Nat) : Int), x])
  | [], _, _, _, _, _, i, a, x, h, _ => by simp at h
  | _ :: _, [], _, _, h, _, _, _, _, _, _ => by cases h
  | a0 :: as, x0 :: xs, j, H, h, hn, 0, a, x, h1, h2 => by
    have hn' := List.nodup_cons.mp hn
    simp at h1 h2
    subst h1 h2
    show putP (upd H a0 (.tup [.int (j : Int), x0])) as (j + 1) xs a0 = _
    rw [putP_off as xs _ _ hn'.1, upd_same] <;> rfl
  | a0 :: as, x0 :: xs, j, H, h, hn, i + 1, a, x, h1, h2 => by
    have ih := putP_at as xs (j + 1) (upd H a0 (.tup [.int (j : Int), x0])) (Nat.succ.inj h) (List.nodup_cons.mp hn).2 i a x (by simpa using h1) (by simpa using h2)
    have e : j + 1 + i = j + (i + 1) := by omega
    rw [e] at ih
    exact ih
def rEnumL (K : PySem.W.Frag) : V → Hp → VK → Prop := fun x H Q => ∃ (a : Addr) (xs : List V), x = .ref a ∧ SqL K H a xs ∧
  ∀ (H' : Hp) (p : Addr) (ts : List Addr), (∀ b o, H b = some o → H' b = some o) → H p = none → (∀ t ∈ ts, H t = none) → p ∉ ts → ts.Nodup → ts.length = xs.length → H' p = some (.lst (ts.map V.ref)) →
    (∀ (i : Nat) (t : Addr) (x : V), ts[i]? = some t → xs[i]? = some x → H' t = some (.tup [.int (i : Int), x])) → Q (.ref p) H'
def tListEnum (K : PySem.W.Frag) (te : TE) : TE := fun σ H Q => te σ H fun x H1 => rEnumL K x H1 Q
theorem vals_refs : ∀ as : List Addr, Vals (as.map V.ref) (as.map Value.ref)
  | [] => .nil
  | _ :: as => .cons rfl (vals_refs as)
section
variable {X : Cx} {e : Expr} {te : TE} {p p2 pos2 pos : Pos}
theorem enum_laid {pins : List (Addr × Obj)} {σ : L2.St} {H : Hp} {s : Shared} {h' : Heap} {tk : Nat} {xs : List V} {its : List Value} {acc : Array Value} {c : Nat} {as : List Addr} {S : Addr} (hge : s.heap.objs.size ≤ S) (I : Inv X pins σ H s) (hz : xs.length ≤ sizeLine) (rv : Vals xs its)
    (hk : ∀ b o, s.heap.get? b = some o → h'.get? b = some o) (hS : h'.get? S = some { cls := .type "list", dict := none, data := .seq acc c, slots := #[] }) (hl : as.length = xs.length) (hG : FcE.EnG its.toArray S h' as) (hacc : acc.toList = as.map Value.ref) :
    ∃ H' : Hp, (∀ b o, H b = some o → H' b = some o) ∧ H S = none ∧ (∀ t ∈ as, H t = none) ∧ S ∉ as ∧ H' S = some (.lst (as.map V.ref)) ∧
      (∀ (i : Nat) (t : Addr) (x : V), as[i]? = some t → xs[i]? = some x → H' t = some (.tup [.int (i : Int), x])) ∧ Inv X pins σ H' { s with heap := h', toks := tk } := by
  have hSn : S ∉ as := fun z => Nat.lt_irrefl _ (hG.above _ z)
  have new : ∀ t ∈ as, H t = none := fun t ht => I.hok.fresh (Nat.le_trans hge (Nat.le_of_lt (hG.above t ht)))
  have newS : H S = none := I.hok.fresh hge
  have atP : ∀ (i : Nat) (t : Addr) (x : V), as[i]? = some t → xs[i]? = some x → putP (upd H S (.lst (as.map V.ref))) as 0 xs t = some (.tup [.int (i : Int), x]) := fun i t x h1 h2 => by
    have z := putP_at as xs 0 (upd H S (.lst (as.map V.ref))) hl hG.nodup i t x h1 h2
    rw [Nat.zero_add] at z
    exact z
  have off : ∀ b, b ∉ as → b ≠ S → putP (upd H S (.lst (as.map V.ref))) as 0 xs b = H b := fun b h1 h2 => by rw [putP_off as xs _ _ h1, upd_ne h2]
  have low : ∀ b o, s.heap.get? b = some o → b ∉ as ∧ b ≠ S := fun b o z => ⟨fun y => absurd (Heap.lt_size z) (Nat.not_lt.mpr (Nat.le_trans hge (Nat.le_of_lt (hG.above b y)))), Nat.ne_of_lt (Nat.lt_of_lt_of_le (Heap.lt_size z) hge)⟩
  have kp : ∀ b u, H b = some u → (putP (upd H S (.lst (as.map V.ref))) as 0 xs) b = some u := fun b u z => by
    rw [off b (fun y => by rw [new b y] at z; cases z) (fun y => by rw [y, newS] at z; cases z)]
    exact z
  have eS : putP (upd H S (.lst (as.map V.ref))) as 0 xs S = some (.lst (as.map V.ref)) := by rw [putP_off as xs _ _ hSn, upd_same]
  refine ⟨putP (upd H S (.lst (as.map V.ref))) as 0 xs, kp, newS, new, hSn, eS, atP, ?_⟩
  refine I.call' (ch := []) rfl ⟨fun b o q _ _ _ => hk b o q, fun b o q _ _ _ => ⟨o.slots, hk b o q⟩, fun b o q n _ => ?_, fun b o q _ => ⟨o, hk b o q⟩, fun b ys q => kp b _ q, fun b o u q => kp b _ q, fun b ps q => ⟨#[], by rw [kp b _ q]; simp⟩⟩ (fun b u q => ?_) I.bare fun b z => by simp at z
  · obtain ⟨z1, z2⟩ := low b o q
    rw [off b z1 z2]
    exact n
  · by_cases hb : b ∈ as
    · obtain ⟨j, hj⟩ := List.mem_iff_getElem?.mp hb
      have jl : j < xs.length := by rw [← hl]; exact (List.getElem?_eq_some_iff.mp hj).1
      have hx : xs[j]? = some xs[j] := List.getElem?_eq_getElem jl
      rw [atP j b _ hj hx] at q
      cases q
      obtain ⟨t, x, f1, f2⟩ := hG.pairs j b hj
      obtain ⟨u, g1, g2⟩ := rv.get hx
      have ex : x = u := by
        have f1' : its[j]? = some x := by simpa using f1
        rw [g1] at f1'
        exact (Option.some.inj f1').symm
      exact ⟨by show 2 ≤ sizeLine; decide, [.int (j : Int) t, x], .cons ⟨t, rfl⟩ (.cons (by rw [ex]; exact g2) .nil), ⟨_, f2, rfl, _, rfl⟩⟩
    · by_cases hb2 : b = S
      · rw [hb2] at q ⊢
        rw [eS] at q
        cases q
        refine ⟨by rw [List.length_map]; omega, acc.toList, c, by rw [hacc]; exact vals_refs as, ?_⟩
        rw [Array.toArray_toList]
        exact hS
      · rw [off b hb hb2] at q
        exact (I.hok b u q).stay (fun d v _ y => hk d v y) (fun d y => kp d _ y) fun d ys y => kp d _ y
theorem pe_listEnum (hc : X.calm = true) (he : PE X e te) (hg : Gl X "list") (hm : X.mg "list" = none) (hv : bootBuiltins "list" = some (.type "list")) (hg2 : Gl X "enumerate") (hm2 : X.mg "enumerate" = none) (hv2 : bootBuiltins "enumerate" = some (.type "enumerate"))
    (hs : starEach [.Call (.Name "enumerate" p2) [e] [] pos2] X.env = (false, eval (.Call (.Name "enumerate" p2) [e] [] pos2) X.env) :: starEach [] X.env := by rfl) (hs2 : starEach [e] X.env = (false, eval e X.env) :: starEach [] X.env := by rfl) :
    PE X (.Call (.Name "list" p) [.Call (.Name "enumerate" p2) [e] [] pos2] [] pos) (tListEnum X.K te) := by
  refine ⟨fun pins s σ H Q I hq => ?_⟩
  refine wpAny_Call_Name_kw (ld_blt I hg hm hv ?_)
  refine PyProof.Rows.callWith_type1 ?_ hs rfl
  rw [hs]
  show wpAny _ _ (spliced ((false, eval (.Call (.Name "enumerate" p2) [e] [] pos2) X.env) :: backTo pos (starEach [] X.env))) _ _ s
  refine Calls.spliced_cons ?_
  refine wpAny_Call_Name_kw (ld_blt I hg2 hm2 hv2 ?_)
  refine PyProof.Rows.callWith_type1 ?_ hs2 rfl
  rw [hs2]
  show wpAny _ _ (spliced ((false, eval e X.env) :: backTo pos2 (starEach [] X.env))) _ _ s
  refine Calls.spliced_cons (thn (he.run pins s σ H _ I hq) fun u s1 ⟨x, H1, I1, rx, a, xs, ex, hL, q⟩ => ?_)
  subst ex
  obtain rfl : u = Value.ref a := rx
  refine Calls.spliced_nil ?_
  obtain ⟨its, rv, hl0, hz⟩ := I1.list hL
  have hl : s1.heap.IsList a its.toArray := hl0.isList
  have al : a < s1.heap.objs.size := by obtain ⟨_, y, _⟩ := hl; exact Heap.lt_size y
  refine call_enumerate_list hl fun h1 hE hI hsz hk => ?_
  refine Calls.spliced_nil ?_
  have hl1 : h1.IsList a its.toArray := hl.at fun o y => hk a o y
  have lx : xs.length = its.length := rv.length
  have hlen : its.toArray.size = xs.length := by simp [lx]
  refine FcE.en_call (items := its.toArray) (I1.ok.hd hc) (Nat.ne_of_lt (Nat.lt_succ_of_lt al)) (Nat.ne_of_lt al) (Nat.succ_ne_self _) hE hI hl1 (by rw [hlen]; exact hz) fun h' tk acc c as hkk hS hla hG hacc => ?_
  obtain ⟨H', k1, k2, k3, k4, k5, k6, J⟩ := enum_laid (tk := tk) (S := h1.objs.size) (by rw [hsz]; exact Nat.le_add_right _ _) I1 hz rv
    (fun b o y => hkk b o (Nat.ne_of_lt (Nat.lt_succ_of_lt (Heap.lt_size y))) (Nat.ne_of_lt (Heap.lt_size y)) (hk b o y)) hS (by rw [hla, hlen]) hG hacc
  exact ⟨.ref _, H', J, rfl, q H' _ as k1 k2 k3 k4 hG.nodup (by rw [hla, hlen]) k5 k6⟩
/-! ### == and != of data, up to 150 deep -/
def rEqM (K : PySem.W.Frag) : R2 := fun x y H Q => ∃ d e, Dp K H x d ∧ Dp K H y e ∧ PyData.canLay0 d = true ∧ PyData.canLay0 e = true ∧ min d.depth e.depth ≤ 150 ∧ Q (.bl (PyData.eqv d e)) H
def rNeM (K : PySem.W.Frag) : R2 := fun x y H Q => ∃ d e, Dp K H x d ∧ Dp K H y e ∧ PyData.canLay0 d = true ∧ PyData.canLay0 e = true ∧ min d.depth e.depth ≤ 150 ∧ Q (.bl (!PyData.eqv d e)) H
theorem op_eqM {k : Nat} (hr : Room k X.A) : OpR X (compareOp .Eq) (rEqM X.K) := by
  intro pins s σ H x y v u Q I rx ry h
  obtain ⟨d, e, hd, he, sd, se, hm, q⟩ := h
  obtain ⟨as, r1⟩ := Dp.reads I d x v hd rx
  obtain ⟨bs, r2⟩ := Dp.reads I e y u he ry
  exact SeqAt.compareEq_reads r1 r2 sd se (by have := hr.un; omega) ⟨.bl _, H, I, rfl, q⟩
theorem op_neM {k : Nat} (hr : Room k X.A) : OpR X (compareOp .NotEq) (rNeM X.K) := by
  intro pins s σ H x y v u Q I rx ry h
  obtain ⟨d, e, hd, he, sd, se, hm, q⟩ := h
  obtain ⟨as, r1⟩ := Dp.reads I d x v hd rx
  obtain ⟨bs, r2⟩ := Dp.reads I e y u he ry
  exact SeqAt.compareNe_reads r1 r2 sd se (by have := hr.un; omega) ⟨.bl _, H, I, rfl, q⟩
/-- x in a tuple of data -/
def rInT (K : PySem.W.Frag) : R2 := fun x y H Q => ∃ d ds, Dp K H x d ∧ Dp K H y (.tuple ds) ∧ PyData.canLay0 d = true ∧ PyData.canLayAll0 ds = true ∧ min (PyData.depthAll ds) d.depth ≤ 150 ∧ Q (.bl (ds.any fun z => PyData.eqv z d)) H
theorem op_inT {k : Nat} (hr : Room k X.A) : OpR X (compareOp .In) (rInT X.K) := by
  intro pins s σ H x y v u Q I rx ry h
  obtain ⟨d, ds, hd, he, sd, se, hm, q⟩ := h
  obtain ⟨as, r1⟩ := Dp.reads I d x v hd rx
  obtain ⟨bs, r2⟩ := Dp.reads I (.tuple ds) y u he ry
  exact SeqAt.in_tuple_reads r2 r1 se sd (by have := hr.un; omega) ⟨.bl _, H, I, rfl, q⟩
end
end FcR

set_option maxRecDepth 100000
set_option maxHeartbeats 4000000
namespace Fc
open PySem PySem.Spec PyProof.Rows L2 FcR
open Evl (Ex)
/-! ### built-in names -/
theorem b_len : bootBuiltins "len" = some (.builtin "len") := by decide +kernel
theorem b_isinstance : bootBuiltins "isinstance" = some (.builtin "isinstance") := by decide +kernel
theorem b_all : bootBuiltins "all" = some (.builtin "all") := by decide +kernel
theorem b_any : bootBuiltins "any" = some (.builtin "any") := by decide +kernel
theorem b_sum : bootBuiltins "sum" = some (.builtin "sum") := by decide +kernel
theorem b_list : bootBuiltins "list" = some (.type "list") := by decide +kernel
theorem b_tuple : bootBuiltins "tuple" = some (.type "tuple") := by decide +kernel
theorem b_int : bootBuiltins "int" = some (.type "int") := by decide +kernel
theorem b_bool : bootBuiltins "bool" = some (.type "bool") := by decide +kernel
theorem b_str : bootBuiltins "str" = some (.type "str") := by decide +kernel
theorem b_enumerate : bootBuiltins "enumerate" = some (.type "enumerate") := by decide +kernel
/-! ### a def that keeps its promise, by the place where it stands -/
def Ok (P : Program) (w : World) (K : PySem.W.Frag) (mg : Str → Option Value) (base : Heap) (k : Nat) (at_ : Str × Option Str) (ps : List Str) (sp : Sp) : Prop :=
  ∃ fd, FnOk P w K mg base (CX P w) k (He.fAd K at_) fd ps sp ∧ Binds K fd ps [] ∧ PySem.W.keepIn K (.ref (He.fAd K at_)) = true
theorem Ok.mono {P : Program} {w : World} {K : PySem.W.Frag} {mg : Str → Option Value} {base : Heap} {j k : Nat} {at_ : Str × Option Str} {ps : List Str} {sp : Sp} (h : Ok P w K mg base j at_ ps sp) (e : j ≤ k) : Ok P w K mg base k at_ ps sp := by
  obtain ⟨fd, G, b, kp⟩ := h
  exact ⟨fd, G.mono e, b, kp⟩
/-! ### tests -/
theorem ite_of {c : Bool} {A B : Prop} (h1 : c = true → A) (h2 : c = false → B) : if c = true then A else B := by
  cases c with
  | true => rw [if_pos rfl]; exact h1 rfl
  | false => rw [if_neg Bool.false_ne_true]; exact h2 rfl
theorem itT {c : Bool} {A B : Prop} (hc : c = true) (h : A) : if c = true then A else B := by
  rw [if_pos hc]
  exact h
theorem itF {c : Bool} {A B : Prop} (hc : c = false) (h : B) : if c = true then A else B := by
  rw [hc, if_neg Bool.false_ne_true]
  exact h
theorem sz {n : Nat} (h : n ≤ 100000) : n ≤ sizeLine := Evl.sz_of h
theorem szl {n : Nat} (h : n < 100000) : n < sizeLine := Evl.sz_lt h
/-! ### data stays where what was tracked stays -/
mutual
theorem dp_ex {K : PySem.W.Frag} {H H' : Hp} (e : Ex H H') : ∀ {d : PyData} {v : V}, Dp K H v d → Dp K H' v d
  | _, _, .non => .non
  | _, _, .bl b => .bl b
  | _, _, .int i => .int i
  | _, _, .str x => .str x
  | _, _, .lst h a => .lst (Evl.ex_l e h) (dpA_ex e a)
  | _, _, .tup h a => .tup (Evl.ex_t e h) (dpA_ex e a)
theorem dpA_ex {K : PySem.W.Frag} {H H' : Hp} (e : Ex H H') : ∀ {ds : List PyData} {vs : List V}, DpAll K H vs ds → DpAll K H' vs ds
  | _, _, .nil => .nil
  | _, _, .cons h a => .cons (dp_ex e h) (dpA_ex e a)
end
theorem dpA_len {K : PySem.W.Frag} {H : Hp} : ∀ {ds : List PyData} {vs : List V}, DpAll K H vs ds → vs.length = ds.length
  | _, _, .nil => rfl
  | _, _, .cons _ a => congrArg Nat.succ (dpA_len a)
theorem dpA_get {K : PySem.W.Frag} {H : Hp} : ∀ {ds : List PyData} {vs : List V}, DpAll K H vs ds → ∀ {i : Nat} {d : PyData}, ds[i]? = some d → ∃ v, vs[i]? = some v ∧ Dp K H v d
  | _, _, .nil, i, d, h => by simp at h
  | _, _, .cons h a, 0, d, e => by simp at e; subst e; exact ⟨_, rfl, h⟩
  | _, _, .cons h a, i + 1, d, e => by
    obtain ⟨v, e1, e2⟩ := dpA_get a (i := i) (d := d) (by simpa using e)
    exact ⟨v, by simpa using e1, e2⟩
theorem dpA_app {K : PySem.W.Frag} {H : Hp} : ∀ {ds es : List PyData} {vs ws : List V}, DpAll K H vs ds → DpAll K H ws es → DpAll K H (vs ++ ws) (ds ++ es)
  | _, _, _, _, .nil, b => b
  | _, _, _, _, .cons h a, b => .cons h (dpA_app a b)
theorem dpA_drop {K : PySem.W.Frag} {H : Hp} : ∀ {ds : List PyData} {vs : List V} (n : Nat), DpAll K H vs ds → DpAll K H (vs.drop n) (ds.drop n)
  | _, _, 0, a => a
  | _, _, _ + 1, .nil => .nil
  | _, _, n + 1, .cons _ a => dpA_drop n a
theorem dpA_take {K : PySem.W.Frag} {H : Hp} : ∀ {ds : List PyData} {vs : List V} (n : Nat), DpAll K H vs ds → DpAll K H (vs.take n) (ds.take n)
  | _, _, 0, _ => .nil
  | _, _, _ + 1, .nil => .nil
  | _, _, n + 1, .cons h a => .cons h (dpA_take n a)
theorem dp_tup {K : PySem.W.Frag} {H : Hp} {v : V} {ds : List PyData} (h : Dp K H v (.tuple ds)) : ∃ a xs, v = .ref a ∧ SqT K H a xs ∧ DpAll K H xs ds := by
  cases h with
  | tup h a => exact ⟨_, _, rfl, h, a⟩
theorem dp_lst {K : PySem.W.Frag} {H : Hp} {v : V} {ds : List PyData} (h : Dp K H v (.list ds)) : ∃ a xs, v = .ref a ∧ SqL K H a xs ∧ DpAll K H xs ds := by
  cases h with
  | lst h a => exact ⟨_, _, rfl, h, a⟩
theorem dp_str {K : PySem.W.Frag} {H : Hp} {v : V} {x : Str} (h : Dp K H v (.str x)) : v = .str x := by cases h; rfl
theorem dp_int {K : PySem.W.Frag} {H : Hp} {v : V} {x : Int} (h : Dp K H v (.int x)) : v = .int x := by cases h; rfl
theorem dp_non {K : PySem.W.Frag} {H : Hp} {v : V} (h : Dp K H v .none) : v = .non := by cases h; rfl
theorem exu {F H : Hp} {p : Addr} {o : HO} (e : Ex F H) (hp : H p = none) : Ex F (upd H p o) := fun a u h => by
  rw [upd_ne (ne_of_none (e a u h) hp)]
  exact e a u h
/-- what F holds stays where something that F does not hold changes -/
theorem exm {F H : Hp} {p : Addr} {o : HO} (e : Ex F H) (hp : F p = none) : Ex F (upd H p o) := Evl.Ex.mut e hp
/-- a new object, told of a heap with a name of its own -/
theorem new_of {H H1 : Hp} {p : Addr} {o : HO} (e : upd H p o = H1) (n : H p = none) : Ex H H1 ∧ H1 p = some o ∧ ∀ b, b ≠ p → H1 b = H b := by
  subst e
  exact ⟨exu (Evl.Ex.refl _) n, upd_same, fun b hb => upd_ne hb⟩
theorem set_of {H H1 : Hp} {p : Addr} {o : HO} (e : upd H p o = H1) : H1 p = some o ∧ ∀ b, b ≠ p → H1 b = H b := by
  subst e
  exact ⟨upd_same, fun b hb => upd_ne hb⟩
theorem set_ex {F H H1 : Hp} {p : Addr} (x : Ex F H) (n : F p = none) (o : ∀ b, b ≠ p → H1 b = H b) : Ex F H1 := fun b u e => by
  rw [o b (ne_of_none e n)]
  exact x b u e
theorem ex_none {F H : Hp} {p : Addr} (x : Ex F H) (n : H p = none) : F p = none := by
  cases e : F p with
  | none => rfl
  | some u => rw [x _ _ e] at n; cases n
end Fc

set_option maxRecDepth 100000
set_option maxHeartbeats 4000000
namespace FcX
open PySem PySem.Spec PyProof.Rows PySem.HandSPX
/-! ### an own exception class called with keywords -/
section
variable {M : Model} {A : Around} {E : Value → Shared → Prop} {h : Heap} {g : Array GenState} {d : Drawn} {t : Nat} {os : OsState}
variable {nm q : Str} {C N : Addr} {bs bm bmB : List Value} {hdct : Bool} {sn : List Str} {sub : List Value} {ab : Bool} {col : Option Bool} {dd : Option Addr} {k0 k1 k2 k3 k5 : Option Value} {B newId initId : String}
theorem newcheck (F : ExcBaseFacts B newId initId bmB) (hT : ∀ X : String, bm.contains (.type X) = bmB.contains (.type X)) {us : List Value} {kw : List (Str × Value)} {Q : Unit → Shared → Prop}
    (hC : h.get? C = some (excClassObj nm q C N bs bm hdct sn sub ab col dd k0 k1 k2 k3 k5 newId)) (hq : Q () ⟨h, g, d, t, os⟩) : wpAny M A (checkBuiltinCall newId ⟨.ref C :: us, kw⟩) Q E ⟨h, g, d, t, os⟩ := by
  have hb : (Value.ref C :: bm).contains (.type B) = true := by rw [List.contains_cons, hT, F.hasB, Bool.or_true]
  have ns := F.noStar
  simp only [checkBuiltinCall, F.newKind, F.newSplit, F.newRow]
  repeat (first | refine wpAny_loadPart_at hC ?_ | (refine wpAny_isSubtype_exc hC ?_; rw [hb]) | refine wpAny_staticBase_exc hC ?_ | refine wpAny_madeBy_exc hC ?_ | simp only [bne_self_eq_false, Bool.false_eq_true, if_false] | wp_step)
  exact hq
end
section
variable {prog : Program} {w : World} {A : Around} {E : Value → Shared → Prop} {R : Result → Shared → Prop} {h : Heap} {g : Array GenState} {d : Drawn} {t : Nat} {os : OsState}
variable {nm q : Str} {C N : Addr} {bs bm bmB : List Value} {hdct : Bool} {sn : List Str} {sub : List Value} {ab : Bool} {col : Option Bool} {dd : Option Addr} {k0 k1 k2 k3 k5 : Option Value} {B newId initId : String}
theorem newK (F : ExcBaseFacts B newId initId bmB) (hT : ∀ X : String, bm.contains (.type X) = bmB.contains (.type X)) {us : List Value} {kw : List (Str × Value)}
    (hC : h.get? C = some (excClassObj nm q C N bs bm hdct sn sub ab col dd k0 k1 k2 k3 k5 newId))
    (hq : R (.ok (.ret (.ref (h.objs.size + 1)))) ⟨(h.push (W.kdv_tup us)).push (excO C h.objs.size), g, d, t, os⟩) (hz : us.length ≤ sizeLine) :
    codeAny (model prog w) A (.builtin newId ⟨.ref C :: us, kw⟩) R ⟨h, g, d, t, os⟩ := by
  have hends := F.ends
  have hcB : (Value.ref C :: bm).contains (.type B) = true := by rw [List.contains_cons, hT, F.hasB, Bool.or_true]
  have a1 : (Value.ref C :: bm).contains (.type "AttributeError") = false := by rw [List.contains_cons, hT, F.noAttr]; rfl
  have a2 : (Value.ref C :: bm).contains (.type "NameError") = false := by rw [List.contains_cons, hT, F.noName]; rfl
  refine codeAny_builtinAt F.entry ?_
  unfold Builtin.«BaseException.__new__»
  refine PySem.wpAt_bind ?_
  show PySem.wpAt _ _ _ (stack >>= _) _ _ _
  refine PySem.wpAt_bind (PySem.wpAt_stack fun p below => PySem.wpAt_of_wpAny ?_)
  wp_walk
  refine PySem.wpAt_of_wpAny ?_
  rw [F.owner]
  repeat (first | with_reducible refine wpAny_madeHere_exc F.canon hC ?_ | with_reducible refine wpAny_loadPart_at hC ?_ | (with_reducible refine wpAny_isSubtype_exc hC ?_; first | rw [hcB] | rw [a1] | rw [a2]) | wp_step)
  show R _ _
  rw [Heap.size_push]
  exact hq
theorem typeK (F : ExcBaseFacts B newId initId bmB) (hT : ∀ X : String, bm.contains (.type X) = bmB.contains (.type X)) {us : List Value} {kw : List (Str × Value)} {fI : Addr} {Q : Fin → Shared → Prop}
    (hC : h.get? C = some (excClassObj nm q C N bs bm hdct sn sub ab col dd k0 k1 k2 k3 k5 newId))
    (hi : W.Looks (model prog w) h (typeLookup (.ref C) "__init__") (some (.ref fI))) (hb : ∀ self, W.Looks (model prog w) h (bindSpecial (.ref fI) self) (.ref fI, [self])) (hz : us.length ≤ sizeLine)
    (hq : codeAny (model prog w) A (.call (.ref fI) ⟨.ref (h.objs.size + 1) :: us, kw⟩)
      (fun r s' => match r with | .ok (.ret v) => v = .none ∧ Q (.done (.ret (.ref (h.objs.size + 1)))) s' | .ok _ => False | .error e => E e s')
      ⟨(h.push (W.kdv_tup us)).push (excO C h.objs.size), g, d, t, os⟩) :
    wpAny (model prog w) A (Builtin.«type.__call__» ⟨.ref C :: us, kw⟩) Q E ⟨h, g, d, t, os⟩ := by
  repeat (first | with_reducible refine wpAny_loadPart_at hC ?_ | with_reducible refine wpAny_madeBy_exc hC ?_ | wp_step)
  refine codeAny_call_builtin_code (Code.quiet_builtin _ F.quiet) (newcheck F hT hC ?_)
  refine newK F hT hC ?_ hz
  show wpAny _ _ _ _ _ _
  have kp : ∀ b o, h.get? b = some o → ((h.push (W.kdv_tup us)).push (excO C h.objs.size)).get? b = some o := fun b o e => Heap.get?_push_of_some _ (Heap.get?_push_of_some _ e)
  have hC' := kp _ _ hC
  have he : ((h.push (W.kdv_tup us)).push (excO C h.objs.size)).get? (h.objs.size + 1) = some (excO C h.objs.size) := by heap_get
  have cc : (Value.ref C :: bm).contains (.ref C) = true := by simp
  have i1 := hi.keeps kp
  have b1 := (hb (.ref (h.objs.size + 1))).keeps kp
  unfold isInstance
  repeat (first | with_reducible refine wpAny_loadPart_at he ?_ | (with_reducible refine wpAny_isSubtype_exc hC' ?_; rw [cc]) | wp_step)
  show wpAny _ _ (typeLookup (.ref C) _) _ _ _
  refine i1.at ?_
  refine wpAny_holding (wpAny_bind (b1.at ?_))
  refine wpAny_bind (wpAny_call (codeAny_mono hq fun r s' z => ?_))
  rcases r with e | (v | _ | _ | _) <;> first | exact z | exact z.elim | skip
  obtain ⟨rfl, z⟩ := z
  first
    | exact wpAny_pure (wpAny_pure z)
    | (wp_walk; exact z)
theorem callK (F : ExcBaseFacts B newId initId bmB) (hT : ∀ X : String, bm.contains (.type X) = bmB.contains (.type X)) {us : List Value} {kw : List (Str × Value)} {fI : Addr}
    (hC : h.get? C = some (excClassObj nm q C N bs bm hdct sn sub ab col dd k0 k1 k2 k3 k5 newId))
    (hi : W.Looks (model prog w) h (typeLookup (.ref C) "__init__") (some (.ref fI))) (hb : ∀ self, W.Looks (model prog w) h (bindSpecial (.ref fI) self) (.ref fI, [self])) (hz : us.length ≤ sizeLine)
    (hq : codeAny (model prog w) (A.under (.builtin "type.__call__" ⟨.ref C :: us, kw⟩)) (.call (.ref fI) ⟨.ref (h.objs.size + 1) :: us, kw⟩) (W.InitBack (h.objs.size + 1) R)
      ⟨(h.push (W.kdv_tup us)).push (excO C h.objs.size), g, d, t, os⟩) :
    codeAny (model prog w) A (.call (.ref C) ⟨us, kw⟩) R ⟨h, g, d, t, os⟩ := by
  have f1 := tc_lookup
  have f2 := tc_bind (.ref C)
  have hy : (⟨h, g, d, t, os⟩ : Shared).TypeIs (.ref C) "type" := ⟨_, hC, rfl⟩
  refine codeAny_of_tree ?_
  show wpAny _ _ (callAny (.ref C) _) _ _ _
  repeat (any_goals (first | assumption | with_reducible refine wpAny_loadPart_at hC ?_ | wp_step))
  refine ⟨rfl, ?_⟩
  refine codeAny_call_builtin_at (Code.quiet_builtin _ (by decide +kernel)) entry_typeCall (wpAny_check_type_call_sub hC (typeK F hT hC hi hb hz ?_))
  refine codeAny_mono hq fun r s' z => ?_
  rcases r with e | (v | _ | _ | _) <;> exact z
end
end FcX

set_option maxRecDepth 100000
set_option maxHeartbeats 4000000
namespace FcX
open PySem PySem.Spec PyProof.Rows L2 FcR
/-! ### own exception classes over ArithmeticError -/
abbrev aeT : List Value := [.type "ArithmeticError", .type "Exception", .type "BaseException", .type "object"]
structure XC (K : PySem.W.Frag) (C : Addr) : Prop where
  ini : PySem.W.excInitIn K C aeT "ArithmeticError.__new__" = true
  over : PySem.W.excOver K C aeT = true
  sa : PySem.W.findIn K (.ref C) "__setattr__" = some (some (.builtin "object.__setattr__"))
  ga : PySem.W.findIn K (.ref C) "__getattribute__" = some (some (.builtin "BaseException.__getattribute__"))
  gt : PySem.W.findIn K (.ref C) "__getattr__" = some none
  ex : PySem.W.subIn K (.ref C) (.type "BaseException") = some true
  ty : PySem.W.typeIn K (.ref C) = some (.type "type")
  kp : PySem.W.keepIn K (.ref C) = true
  hd : PySem.W.hasDictIn K C = true
  cl : PySem.W.findIn K (.ref C) "__class__" = some (some (.builtin "object.__class__"))
  cg : PySem.W.specialIn K (.builtin "object.__class__") "__get__" = some (some (.builtin "getset_descriptor.__get__"))
  ct : PySem.W.takesIn K (.builtin "object.__class__") = some true
  mo : PySem.W.mroIn K C (.type "object") = some true
def xcB (K : PySem.W.Frag) (C : Addr) : Bool := PySem.W.excInitIn K C aeT "ArithmeticError.__new__" && (PySem.W.excOver K C aeT && (
  decide (PySem.W.findIn K (.ref C) "__setattr__" = some (some (.builtin "object.__setattr__"))) && (decide (PySem.W.findIn K (.ref C) "__getattribute__" = some (some (.builtin "BaseException.__getattribute__"))) && (
  decide (PySem.W.findIn K (.ref C) "__getattr__" = some none) && (decide (PySem.W.subIn K (.ref C) (.type "BaseException") = some true) && (decide (PySem.W.typeIn K (.ref C) = some (.type "type")) && (PySem.W.keepIn K (.ref C) && (PySem.W.hasDictIn K C && (
  decide (PySem.W.findIn K (.ref C) "__class__" = some (some (.builtin "object.__class__"))) && (decide (PySem.W.specialIn K (.builtin "object.__class__") "__get__" = some (some (.builtin "getset_descriptor.__get__"))) && (
  decide (PySem.W.takesIn K (.builtin "object.__class__") = some true) && decide (PySem.W.mroIn K C (.type "object") = some true))))))))))))
theorem xcB_ok {K : PySem.W.Frag} {C : Addr} (h : xcB K C = true) : XC K C := by
  unfold xcB at h
  simp only [Bool.and_eq_true, decide_eq_true_eq] at h
  obtain ⟨h1, h2, h3, h4, h5, h6, h7, h8, h9, h10, h11, h12, h13⟩ := h
  exact ⟨h1, h2, h3, h4, h5, h6, h7, h8, h9, h10, h11, h12, h13⟩
/-- its __init__, and the field f that it stores -/
structure XI (K : PySem.W.Frag) (C fI : Addr) (f : Str) : Prop where
  ini : PySem.W.findIn K (.ref C) "__init__" = some (some (.ref fI))
  fn : PySem.W.typeIn K (.ref fI) = some (.type "function")
  tk : PySem.W.takerIn K C f = some none
  no : PySem.W.findIn K (.ref C) f = some none
def xiB (K : PySem.W.Frag) (C fI : Addr) (f : Str) : Bool := decide (PySem.W.findIn K (.ref C) "__init__" = some (some (.ref fI))) && (decide (PySem.W.typeIn K (.ref fI) = some (.type "function")) && (decide (PySem.W.takerIn K C f = some none) && decide (PySem.W.findIn K (.ref C) f = some none)))
theorem xiB_ok {K : PySem.W.Frag} {C fI : Addr} {f : Str} (h : xiB K C fI f = true) : XI K C fI f := by
  unfold xiB at h
  simp only [Bool.and_eq_true, decide_eq_true_eq] at h
  obtain ⟨h1, h2, h3, h4⟩ := h
  exact ⟨h1, h2, h3, h4⟩
section
variable {X : Cx} {pins : List (Addr × Obj)} {σ : L2.St} {H : Hp} {s : Shared} {a C fI : Addr} {f : Str} {y : V} {u : Value} {A : Around} {E : Value → Shared → Prop}
/-- the first field of an exception that is being made -/
theorem xst {Q : Unit → Shared → Prop} (T : XC X.K C) (ht : PySem.W.takerIn X.K C f = some none) (I : Inv X pins σ H s) (e : H a = some (exo a C none)) (ry : RelV y u)
    (h : ∀ dx s', H dx = none → dx ≠ a → Inv X pins σ (upd (upd H dx (exd dx [(f, y)])) a (exo a C (some dx))) s' → Q () s') : wpAny (model X.prog X.w) A (setAttr (.ref a) f u) Q E s := by
  obtain ⟨t1, ho⟩ := exo_at I.hok e
  obtain ⟨hp, g, d, t, os⟩ := s
  obtain ⟨cd, hc, hcd⟩ := PySem.W.any_some T.hd
  have hlt := Heap.lt_size ho
  have hne : hp.objs.size ≠ a := Nat.ne_of_gt hlt
  refine PySem.W.set_plain I.kIn (ox := PySem.W.excObj C t1 none .none) (od := none) ⟨ho, rfl, rfl, trivial⟩ T.sa ?_
  refine PySem.W.osa_openX (od := none) (ox := PySem.W.excObj C t1 none .none) F.store_ArithmeticError I.kIn ⟨ho, rfl, rfl, trivial⟩ T.over ht fun b => ?_
  refine wpAny_bind (wpAny_pure (wpAny_bind (PySem.W.instanceDict_exc (c2 := .none) ho (PySem.W.looks_clsIn I.kIn hc) hcd ?_)))
  show wpAny _ _ (Builtin.ObjectAttr.storeInDict hp.objs.size _ f u) _ _ _
  refine PySem.HandSPX.store_in_new ?_ fun h' tk' hn' sb => ?_
  · exact ⟨_, #[], _, (Heap.get?_update_ne _ _ _ _ hne).trans (Heap.get?_push_at rfl rfl), rfl, fun e he => absurd he (by simp), fun _ => rfl⟩
  · have ho1 : (hp.push (PySem.W.dictOf [] 0)).get? a = some (PySem.W.excObj C t1 none .none) := Heap.get?_push_of_some _ ho
    have hx : h'.get? a = some (PySem.W.excObj C t1 (some hp.objs.size) .none) := (sb.2 a hne.symm).trans (Heap.get?_update_self _ ho1 rfl)
    have k : ∀ b o, b ≠ a → hp.get? b = some o → h'.get? b = some o := fun b o hb q =>
      (sb.2 b (Nat.ne_of_lt (Heap.lt_size q))).trans ((Heap.get?_update_ne _ _ _ _ hb).trans (Heap.get?_push_of_some _ q))
    have hnd : H hp.objs.size = none := I.hok.fresh (Nat.le_refl _)
    have nd : ∀ {b : Addr} {o : Obj}, hp.get? b = some o → b ≠ hp.objs.size := fun q => Nat.ne_of_lt (Heap.lt_size q)
    have na : ∀ {b : Addr}, H b = none → b ≠ a := fun n z => by rw [z, e] at n; cases n
    have U : Un X.fs [] H (upd (upd H hp.objs.size (exd hp.objs.size [(f, y)])) a (exo a C (some hp.objs.size))) hp h' := {
      keep := fun b o q n _ _ => k b o (na n) q
      slot := fun b o q n _ _ => ⟨o.slots, k b o (na n) q⟩
      free := fun b o q n _ => by rw [upd_ne (na n), upd_ne (nd q)]; exact n
      there := fun b o q _ => by
        by_cases hb : b = a
        · exact ⟨_, by rw [hb]; exact hx⟩
        · exact ⟨o, k b o hb q⟩
      tups := fun b xs q => by rw [upd_ne (at_ne e q exo_tup), upd_ne (ne_of_none q hnd)]; exact q
      frzs := fun b o v q => by rw [upd_ne (at_ne e q exo_frz), upd_ne (ne_of_none q hnd)]; exact q
      tbls := fun b ps q => ⟨#[], by rw [upd_ne (at_ne e q exo_tbl), upd_ne (ne_of_none q hnd), q]; simp⟩ }
    refine h hp.objs.size _ hnd hne (I.un (t' := tk') U fun b o q => ?_)
    by_cases hb : b = a
    · subst hb
      rw [upd_same] at q
      cases q
      exact exo_ok hx
    · rw [upd_ne hb] at q
      by_cases hd : b = hp.objs.size
      · subst hd
        rw [upd_same] at q
        cases q
        exact exd_ok hn' (relO_put (fs := []) ry fun g => True.intro)
      · rw [upd_ne hd] at q
        refine (I.hok b o q).stay (fun c v hc z => k c v ?_ z) (fun c hc => ?_) (fun c xs hc => ?_)
        · rcases hc with hc | hc
          · rw [hc]
            exact hb
          · exact at_ne e hc exo_own
        · rw [upd_ne (at_ne e hc exo_own), upd_ne (ne_of_none hc hnd)]
          exact hc
        · rw [upd_ne (at_ne e hc exo_tup), upd_ne (ne_of_none hc hnd)]
          exact hc
end
/-- self.f = e, in the __init__ of such a class -/
def tXst (K : PySem.W.Frag) (f : Str) (to te : TE) : TS := fun D σ H => te σ H fun y H1 => to σ H1 fun x H2 => ∃ a C : Addr, x = .ref a ∧ XC K C ∧ PySem.W.takerIn K C f = some none ∧ H2 a = some (exo a C none) ∧
  ∀ dx, H2 dx = none → dx ≠ a → D.nx σ (upd (upd H2 dx (exd dx [(f, y)])) a (exo a C (some dx)))
theorem ps_xst {X : Cx} {o e : Expr} {to te : TE} {f : Str} {p pos : Pos} (ho : PE X o to) (he : PE X e te) (hs : swapsWith e (some (.Attribute o f p)) pos.line X.env = pure false := by rfl) : PS X (.Assign [.Attribute o f p] e pos) (tXst X.K f to te) := by
  refine ⟨fun pins s σ H D I h => ?_⟩
  refine plainObj_wpAny_Assign_Attribute (thn (he.run pins s σ H _ I h) fun v s1 ⟨y, H1, I1, r1, q1⟩ => thn (ho.run pins s1 σ H1 _ I1 q1) fun u s2 ⟨x, H2, I2, r2, a, C, ex, T, ht, ea, q⟩ => ?_) hs
  subst ex
  obtain rfl : u = Value.ref a := r2
  exact xst T ht I2 ea r1 fun dx s' n ne J => ⟨σ, _, J, q dx n ne⟩
/-- what such an __init__ promises -/
def spX (K : PySem.W.Frag) (C : Addr) (f : Str) : Sp := fun vs H Q _ => ∃ (a : Addr) (y : V), vs = [.ref a, y] ∧ H a = some (exo a C none) ∧ ∀ dx, H dx = none → dx ≠ a → Q .non (upd (upd H dx (exd dx [(f, y)])) a (exo a C (some dx)))
/-- a made exception as a value -/
def XV (H : Hp) (C : Addr) (f : Str) (y : V) (a : Addr) : Prop := ∃ d, H a = some (exo a C (some d)) ∧ H d = some (exd d [(f, y)])
def tMkX (C : Addr) (f : Str) (ta : TA) : TE := fun σ H Q => ta σ H fun vs H1 => ∃ y, vs = [y] ∧ ∀ (a : Addr) (H2 : Hp), Evl.Ex H1 H2 → H1 a = none → XV H2 C f y a → Q (.ref a) H2
theorem XV.ex {H H' : Hp} {C : Addr} {f : Str} {y : V} {a : Addr} (h : XV H C f y a) (e : Evl.Ex H H') : XV H' C f y a := by
  obtain ⟨d, h1, h2⟩ := h
  exact ⟨d, e _ _ h1, e _ _ h2⟩
theorem mk_ex {H : Hp} {C a dx : Addr} {f : Str} {y : V} (h1 : H a = none) (h2 : H dx = none) (h3 : dx ≠ a) : Evl.Ex H (upd (upd (upd H a (exo a C none)) dx (exd dx [(f, y)])) a (exo a C (some dx))) ∧ XV (upd (upd (upd H a (exo a C none)) dx (exd dx [(f, y)])) a (exo a C (some dx))) C f y a := by
  refine ⟨fun b o e => ?_, dx, upd_same, by rw [upd_ne h3, upd_same]⟩
  rw [upd_ne (ne_of_none e h1), upd_ne (ne_of_none e h2), upd_ne (ne_of_none e h1)]
  exact e
section
variable {X : Cx} {CX : CXT} {k : Nat} {C fI : Addr} {fd : FuncData} {f n x : Str} {p pos kpos : Pos} {e : Expr} {es : List Expr} {ta : TA} {te : TE}
theorem run_mkX {pins : List (Addr × Obj)} {σ : L2.St} {H : Hp} {s : Shared} {Q : VK} {us : List Value} {kw : List (Str × Value)} {v : Value} {y : V} (T : XC X.K C) (N : XI X.K C fI f) (G : FnOk X.prog X.w X.K X.mg X.base CX k fI fd ["self", n] (spX X.K C f)) (hr : Room (k + 1) X.A)
    (hb : ∀ (s : Shared) (o : Value), X.K.In s.heap → BindsTo s fd ⟨o :: us, kw⟩ [("self", o), (n, v)]) (hz : us.length ≤ 1000) (hx : Passes CX X (fun _ _ _ => False)) (I : Inv X pins σ H s) (r : RelV y v)
    (q : ∀ (a : Addr) (H2 : Hp), Evl.Ex H H2 → H a = none → XV H2 C f y a → Q (.ref a) H2) :
    wpAny (model X.prog X.w) X.A (call (.ref C) us kw) (EP X pins σ Q) X.xe s := by
  obtain ⟨hp, g, dr, tk, os⟩ := s
  obtain ⟨nm, N', qn, bs, bm, hdct, sn, sub, ab, col, dd, k0, k1, k2, k3, k5, hC, hT⟩ := PySem.W.excInit_of I.kIn T.ini
  have hsz : hp.objs.size ≤ hp.objs.size + 1 := Nat.le_succ _
  have hn : H (hp.objs.size + 1) = none := I.hok.fresh hsz
  have kk : ∀ b o, hp.get? b = some o → ((hp.push (PySem.W.kdv_tup us)).push (PySem.HandSPX.excO C hp.objs.size)).get? b = some o := fun b o e => Heap.get?_push_of_some _ (Heap.get?_push_of_some _ e)
  have hget : ((hp.push (PySem.W.kdv_tup us)).push (PySem.HandSPX.excO C hp.objs.size)).get? (hp.objs.size + 1) = some (PySem.HandSPX.excO C hp.objs.size) := by heap_get
  have I2 : Inv X pins σ (upd H (hp.objs.size + 1) (exo (hp.objs.size + 1) C none)) ⟨(hp.push (PySem.W.kdv_tup us)).push (PySem.HandSPX.excO C hp.objs.size), g, dr, tk, os⟩ :=
    I.laid (t' := tk) (a := hp.objs.size + 1) (o := exo (hp.objs.size + 1) C none) (h' := (hp.push (PySem.W.kdv_tup us)).push (PySem.HandSPX.excO C hp.objs.size)) kk hsz (exo_ok hget)
  have hq : spX X.K C f [.ref (hp.objs.size + 1), y] (upd H (hp.objs.size + 1) (exo (hp.objs.size + 1) C none)) (fun z H2 => z = .non ∧ Q (.ref (hp.objs.size + 1)) H2) (fun _ _ _ => False) :=
    ⟨hp.objs.size + 1, y, rfl, upd_same, fun dx h1 h2 => ⟨rfl, by
      obtain ⟨z1, z2⟩ := mk_ex (C := C) (f := f) (y := y) hn (by rw [upd_ne h2] at h1; exact h1) h2
      exact q (hp.objs.size + 1) _ z1 hn z2⟩⟩
  have hus : us.length ≤ sizeLine := by
    rw [sizeLine_eq]
    omega
  refine wpAny_call (callK F.excBase_ArithmeticError hT hC (PySem.W.looks_findIn I.kIn N.ini) (fun self => PySem.W.bind_fn I.kIn self N.fn) hus
    (codeAny_mono (G.run _ X.stack _ _ ⟨Value.ref (hp.objs.size + 1) :: us, kw⟩ [Value.ref (hp.objs.size + 1), v] [V.ref (hp.objs.size + 1), y] _ (fun _ _ _ => False) (hr.make C us kw) (I2.env0.make C us kw) (hb _ _ I2.kIn) (.cons (show RelV (V.ref (hp.objs.size + 1)) (Value.ref (hp.objs.size + 1)) from rfl) (.cons r .nil)) hq) fun r s' hq' => ?_))
  cases r with
  | error er => exact hx pins σ _ _ er s' I2 hq'
  | ok fl =>
    cases fl with
    | ret z =>
      obtain ⟨v3, H3, I3, rv, ev, q3⟩ := I2.after hq'
      subst ev
      exact ⟨rv, ⟨V.ref (hp.objs.size + 1), H3, I3, rfl, q3⟩⟩
    | next => exact False.elim hq'
    | brk => exact False.elim hq'
    | cont => exact False.elim hq'
/-- C(e) -/
theorem pe_mkX (T : XC X.K C) (N : XI X.K C fI f) (G : FnOk X.prog X.w X.K X.mg X.base CX k fI fd ["self", n] (spX X.K C f)) (hr : Room (k + 1) X.A) (hb : Binds X.K fd ["self", n] []) (hx : Passes CX X (fun _ _ _ => False)) (hg : Gl X x) (hm : X.mg x = some (.ref C)) (ha : PE X e te)
    (hdb : (x == ("__debug__" : Str)) = false := by decide) (he : starEach [e] X.env = (false, eval e X.env) :: starEach [] X.env := by rfl) : PE X (.Call (.Name x p) [e] [] pos) (tMkX C f (tCons te tNil)) := by
  refine ⟨fun pins s σ H Q I h => ?_⟩
  refine wpAny_Call_Name_kw (ld_glob I hg hm ?_ hdb)
  refine PySem.W.callWith_K (h₀ := X.base) I.ok.mod.kin T.kp (thn ((pa_cons (hs := he) ha pa_nil).run pos pins s σ H _ I h) fun us s1 ⟨vs, H1, I1, r1, y, ev, q⟩ => ⟨I1.kIn, ?_⟩) he (by rfl)
  subst ev
  cases r1 with
  | @cons _ v _ _ r1 r2 =>
    cases r2
    exact run_mkX (kw := []) T N G hr (fun s o hk => hb s [o, v] hk rfl) (show 1 ≤ 1000 by decide) hx I1 r1 q
/-- C(n = e) -/
theorem pe_mkXK (T : XC X.K C) (N : XI X.K C fI f) (G : FnOk X.prog X.w X.K X.mg X.base CX k fI fd ["self", n] (spX X.K C f)) (hr : Room (k + 1) X.A) (hb : ∀ (s : Shared) (o v : Value), X.K.In s.heap → BindsTo s fd ⟨[o], [(n, v)]⟩ [("self", o), (n, v)]) (hx : Passes CX X (fun _ _ _ => False)) (hg : Gl X x) (hm : X.mg x = some (.ref C)) (ha : PE X e te)
    (hdb : (x == ("__debug__" : Str)) = false := by decide) : PE X (.Call (.Name x p) [] [⟨some n, e, kpos⟩] pos) (tMkX C f (tCons te tNil)) := by
  refine ⟨fun pins s σ H Q I h => ?_⟩
  refine wpAny_Call_Name_kw (ld_glob I hg hm ?_ hdb)
  refine PySem.W.callWith_KW0 (h₀ := X.base) I.ok.mod.kin T.kp rfl (thn ((pk_cons ha pk_nil).run pos pins s σ H _ I h) fun us s1 ⟨vs, H1, I1, r1, y, ev, q⟩ => ⟨I1.kIn, ?_⟩)
  subst ev
  cases r1 with
  | @cons _ v _ _ r1 r2 =>
    cases r2
    exact run_mkX (us := []) (kw := [(n, v)]) T N G hr (fun s o hk => hb s o v hk) (by decide) hx I1 r1 q
/-- e.f -/
def tXfv (K : PySem.W.Frag) (f : Str) (te : TE) : TE := fun σ H Q => te σ H fun x H1 => ∃ (a C : Addr) (y : V), x = .ref a ∧ XC K C ∧ PySem.W.findIn K (.ref C) f = some none ∧ XV H1 C f y a ∧ Q y H1
theorem pe_xfv (ha : PE X e te) (hb : attributeBase e f X.env (eval e X.env) = eval e X.env := by rfl) : PE X (.Attribute e f pos) (tXfv X.K f te) := by
  refine ⟨fun pins s σ H Q I h => ?_⟩
  refine attr_of hb (thn (ha.run pins s σ H _ I h) fun u s1 ⟨x, H1, I1, rx, a, C, y, ex, T, hno, ⟨d, ea, ed⟩, q⟩ => ?_)
  subst ex
  obtain rfl : u = Value.ref a := rx
  obtain ⟨t1, ho⟩ := exo_at I1.hok ea
  obtain ⟨mA, hns, hr⟩ := exd_at I1.hok ed
  obtain ⟨od, hod, hl⟩ := lookIn_ns hns
  obtain ⟨z, hz, rz⟩ := RelO.some_of (v := y) (o := mA f) (by
    have w := hr f
    rw [lookup_put, if_pos rfl] at w
    exact w)
  have J : PySem.W.InstAt s1.heap a (PySem.W.excObj C t1 (some d) .none) C (some od) := ⟨ho, rfl, rfl, hod⟩
  exact HandSPX.exc_get I1.kIn J T.ga T.gt T.ex (PySem.W.findObj_own T.hd hno rfl (by rw [hl, hz])) (handed_of rz) ⟨y, H1, I1.tok _, rz, q⟩
/-- an exception object: its class is told -/
def XO (H : Hp) (C a : Addr) : Prop := (∃ d fs, H a = some (exo a C (some d)) ∧ H d = some (exd d fs)) ∨ H a = some (exo a C none)
theorem xo_kit {pins : List (Addr × Obj)} {σ : L2.St} {H : Hp} {s : Shared} {a : Addr} (T : XC X.K C) (I : Inv X pins σ H s) (h : XO H C a) : ∃ P : Heap → Prop, PySem.W.KitX X.K (.ref a) (.ref C) P ∧ P s.heap := by
  have hc : (PySem.W.clsIn X.K C).isSome = true := by
    obtain ⟨cd, hc, _⟩ := PySem.W.any_some T.hd
    rw [hc]
    rfl
  rcases h with ⟨d, fs, ea, ed⟩ | ea
  · obtain ⟨t1, ho⟩ := exo_at I.hok ea
    obtain ⟨mA, hns, _⟩ := exd_at I.hok ed
    obtain ⟨od, hod, _⟩ := lookIn_ns hns
    exact ⟨_, PySem.W.kitx_exc (ox := PySem.W.excObj C t1 (some d) .none) (od := some od) hc T.ga T.gt T.ex T.cl T.cg T.ct T.mo, ⟨ho, rfl, rfl, hod⟩⟩
  · obtain ⟨t1, ho⟩ := exo_at I.hok ea
    exact ⟨_, PySem.W.kitx_exc (ox := PySem.W.excObj C t1 none .none) (od := none) hc T.ga T.gt T.ex T.cl T.cg T.ct T.mo, ⟨ho, rfl, rfl, trivial⟩⟩
/-- isinstance(e, c) -/
def rIsX (K : PySem.W.Frag) : List V → Hp → VK → Prop := fun xs H Q => ∃ (a C : Addr) (c : V) (u : Value) (b : Bool), xs = [.ref a, c] ∧ ClsV c u ∧ XC K C ∧ XO H C a ∧ PySem.W.kitOne K (.ref C) u = some b ∧ Q (.bl b) H
theorem call_isX : CallR X (.builtin "isinstance") (rIsX X.K) := by
  intro pins s σ H xs us Q I r h
  obtain ⟨a, C, c, u, b, rfl, k, T, xo, e, q⟩ := h
  obtain ⟨u1, u2, rfl, r1, r2⟩ := vals2 r
  have e2 := k.eq r2
  subst e2
  obtain rfl : u1 = Value.ref a := r1
  obtain ⟨P, Z, p⟩ := xo_kit T I xo
  exact PySem.W.kia_one Z I.kIn p e (fun z => nomatch z) fun tk => ⟨.bl b, H, I.tok tk, rfl, q⟩
/-- isinstance(e, (c, ..)) -/
def rIsXT (K : PySem.W.Frag) : List V → Hp → VK → Prop := fun xs H Q => ∃ (a C tp : Addr) (cs : List V) (us : List Value) (b : Bool), xs = [.ref a, .ref tp] ∧ H tp = some (.tup cs) ∧ Paired ClsV cs us ∧ XC K C ∧ XO H C a ∧ PySem.W.kitAny K (.ref C) us = some b ∧ Q (.bl b) H
theorem call_isXT : CallR X (.builtin "isinstance") (rIsXT X.K) := by
  intro pins s σ H xs us Q I r h
  obtain ⟨a, C, tp, cs, vs, b, rfl, htp, k, T, xo, e, q⟩ := h
  obtain ⟨u1, u2, rfl, r1, r2⟩ := vals2 r
  obtain rfl : u1 = Value.ref a := r1
  obtain rfl : u2 = Value.ref tp := r2
  obtain ⟨P, Z, p⟩ := xo_kit T I xo
  obtain ⟨hz, ws, rw', o, ho, hc, n, hd⟩ := (show ObjOk X.prog X.w H s.heap tp (.tup cs) from I.hok tp _ htp)
  have e3 := ClsV.all k rw'
  subst e3
  obtain ⟨oc, od, oda, osl⟩ := o
  dsimp only at hc hd
  subst hc hd
  exact PySem.W.kia_tup Z I.kIn p ho e (fun z => nomatch z) fun tk => ⟨.bl b, H, I.tok tk, rfl, q⟩
/-- C(), no __init__ of its own -/
theorem pe_exc0 (hC : PySem.W.excIn X.K C aeT "ArithmeticError.__new__" = true) (kC : PySem.W.keepIn X.K (.ref C) = true) (hg : Gl X x) (hm : X.mg x = some (.ref C)) (hdb : (x == ("__debug__" : Str)) = false := by decide) :
    PE X (.Call (.Name x p) [] [] pos) (fun σ H Q => ∀ a, H a = none → Q (.ref a) (upd H a (exo a C none))) := by
  refine ⟨fun pins s σ H Q I h => ?_⟩
  refine wpAny_Call_Name_kw (ld_glob I hg hm ?_ hdb)
  refine PySem.W.callWith_K0 I.kIn kC ?_
  obtain ⟨bm, N, nm, qn, bs, hdct, sn, sub, ab, col, dd, k0, k1, k2, k3, k5, mN, h1, h2, h3, h4⟩ := exc_obj I.kIn hC
  refine wpAny_call_exc_subT F.excBase_ArithmeticError h4 h1 h2 h3 (fun h' a hm => ?_) (Nat.zero_le _)
  have hn : H a = none := I.hok.gone hm.new
  obtain ⟨t, ht, _, _⟩ := hm.there
  exact ⟨.ref a, upd H a (exo a C none), I.laidN hm.keeps hm.new hn (exo_ok ht), rfl, h a hn⟩
/-- f(k = v, ..), keywords alone: g puts them in the parameters' order -/
def tCallW (sp : Sp) (g : List V → List V) (n : Nat) (E : XK) (tk : TA) : TE := fun σ H Q => tk σ H fun zs H1 => zs.length = n ∧ sp (g zs) H1 Q E
theorem pe_callW {ps ks : List Str} {sp : Sp} {E : XK} {g : List Value → List Value} {gV : List V → List V} {kws : List Keyword} {tk : TA} {fI : Addr} (G : FnOk X.prog X.w X.K X.mg X.base CX k fI fd ps sp) (hr : Room k X.A) (hg : Gl X x) (hm : X.mg x = some (.ref fI)) (hk : PySem.W.keepIn X.K (.ref fI) = true)
    (hb : ∀ (s : Shared) (ws : List Value), ws.length = ks.length → BindsTo s fd ⟨[], ks.zip ws⟩ (ps.zip (g ws))) (hrel : ∀ {zs : List V} {ws : List Value}, Vals zs ws → zs.length = ks.length → Vals (gV zs) (g ws)) (hx : Passes CX X E) (hkw : PK X kws tk)
    (hall : (backToKw pos (keywordEach kws X.env)).all (·.1.isSome) = true := by rfl) (hks : (backToKw pos (keywordEach kws X.env)).filterMap (·.1) = ks := by rfl) (hdb : (x == ("__debug__" : Str)) = false := by decide)
    (hpl : ((backTo pos (starEach [] X.env)).any (·.1) || (backToKw pos (keywordEach kws X.env)).any (·.1.isNone)) = false := by rfl) :
    PE X (.Call (.Name x p) [] kws pos) (tCallW sp gV ks.length E tk) := by
  refine ⟨fun pins s σ H Q I h => ?_⟩
  refine wpAny_Call_Name_kw (ld_glob I hg hm ?_ hdb)
  refine PySem.W.callWith_KW0 (h₀ := X.base) I.ok.mod.kin hk hall (thn (hkw.run pos pins s σ H _ I h) fun ws s1 ⟨zs, H1, I1, r, l, q⟩ => ⟨I1.kIn, ?_⟩) hpl
  rw [hks]
  refine wpAny_call (codeAny_mono (G.run X.A X.stack s1 H1 ⟨[], ks.zip ws⟩ (g ws) (gV zs) Q E hr I1.env0 (hb s1 ws (r.length.symm.trans l)) (hrel r l) q) fun r s' hq => ?_)
  cases r with
  | error e => exact hx pins σ H1 s1 e s' I1 hq
  | ok fl =>
    cases fl with
    | ret u => exact I1.after hq
    | next => exact False.elim hq
    | brk => exact False.elim hq
    | cont => exact False.elim hq
end
/-- a binding of a def without defaults -/
theorem bindsX {K : PySem.W.Frag} {x qual : Str} {params : Arguments} {body : List Stmt} {scope : Scope} {kws : List (Str × V)} {f : Addr} {fd : FuncData} {args : Args} {binds : List (Str × Value)} (F : FunD K x qual params body scope [] kws f fd)
    (h : ∀ (kV doc pm : Value) (an : Option Addr) (cdv ct : Value), bindArgs (PySem.W.fnOf x qual params body scope .none kV doc pm an cdv ct) args = pure binds) (s : Shared) : BindsTo s fd args binds := by
  obtain ⟨oc, od, dV, kV, doc, pm, an, cdv, ct, osl, rfl, lk, hcd, hD, hK⟩ := F.ex
  rcases hD with ⟨_, rfl⟩ | ⟨e, _⟩
  · exact .of_eq (h kV doc pm an cdv ct)
  · exact absurd rfl e
/-- isinstance between the classes of the package, and against built-in ones -/
def xkB (K : PySem.W.Frag) (ns : List Str) : Bool := ns.all fun c => ns.all (fun d => decide (PySem.W.kitOne K (.ref (He.ga K c)) (.ref (He.ga K d)) = some (c == d || d == "CopyError"))) &&
  (decide (PySem.W.kitOne K (.ref (He.ga K c)) (.type "ArithmeticError") = some true) && decide (PySem.W.kitAny K (.ref (He.ga K c)) [.type "ValueError", .type "TypeError", .type "LookupError"] = some false))
theorem xk_own {K : PySem.W.Frag} {ns : List Str} (h : xkB K ns = true) {c d : Str} (hc : c ∈ ns) (hd : d ∈ ns) : PySem.W.kitOne K (.ref (He.ga K c)) (.ref (He.ga K d)) = some (c == d || d == "CopyError") := by
  have z := List.all_eq_true.mp h c hc
  simp only [Bool.and_eq_true, List.all_eq_true, decide_eq_true_eq] at z
  exact z.1 d hd
theorem xk_ae {K : PySem.W.Frag} {ns : List Str} (h : xkB K ns = true) {c : Str} (hc : c ∈ ns) : PySem.W.kitOne K (.ref (He.ga K c)) (.type "ArithmeticError") = some true := by
  have z := List.all_eq_true.mp h c hc
  simp only [Bool.and_eq_true, List.all_eq_true, decide_eq_true_eq] at z
  exact z.2.1
theorem xk_no {K : PySem.W.Frag} {ns : List Str} (h : xkB K ns = true) {c : Str} (hc : c ∈ ns) : PySem.W.kitAny K (.ref (He.ga K c)) [.type "ValueError", .type "TypeError", .type "LookupError"] = some false := by
  have z := List.all_eq_true.mp h c hc
  simp only [Bool.and_eq_true, List.all_eq_true, decide_eq_true_eq] at z
  exact z.2.2
end FcX

set_option maxRecDepth 100000
set_option maxHeartbeats 4000000
namespace Fc
open PySem PySem.Spec PyProof.Rows L2 FcR
open Evl (Ex)
/-- len of a list or tuple, within a comprehension -/
abbrev rLenK (K : PySem.W.Frag) : List V → Hp → VK → Prop := fun xs H Q => ∃ p ys, xs = [V.ref p] ∧ (SqL K H p ys ∨ SqT K H p ys) ∧ Q (V.int (ys.length : Int)) H
/-! ### a part of H as F -/
def frz (F H : Hp) (L : List Addr) : Hp := fun b => if b ∈ L then H b else F b
theorem frz_in {F H : Hp} {L : List Addr} {b : Addr} (h : b ∈ L) : frz F H L b = H b := if_pos h
theorem frz_out {F H : Hp} {L : List Addr} {b : Addr} (h : b ∉ L) : frz F H L b = F b := if_neg h
theorem frz_ex {F H : Hp} {L : List Addr} (h : ∀ b ∈ L, F b = none) : Ex F (frz F H L) := fun b o e => by
  rw [frz_out (fun z => by rw [h b z] at e; cases e)]
  exact e
theorem frz_le {F H : Hp} {L : List Addr} (e : Ex F H) : Ex (frz F H L) H := fun b o h => by
  by_cases z : b ∈ L
  · rw [frz_in z] at h; exact h
  · rw [frz_out z] at h; exact e b o h
/-- what grows: F to F', H to H', where M alone of what H tracked may change -/
structure Gr (M : Addr → Prop) (F H F' H' : Hp) : Prop where
  ff : Ex F F'
  fh : Ex F' H'
  nw : ∀ b, H b ≠ none → F b = none → ¬ M b → F' b = none
  kp : ∀ b o, H b = some o → ¬ M b → H' b = some o
theorem Gr.refl {M : Addr → Prop} {F H : Hp} (x : Ex F H) : Gr M F H F H := ⟨Evl.Ex.refl _, x, fun _ _ e _ => e, fun _ _ e _ => e⟩
theorem Gr.trans {M : Addr → Prop} {F H F1 H1 F2 H2 : Hp} (a : Gr M F H F1 H1) (b : Gr M F1 H1 F2 H2) : Gr M F H F2 H2 :=
  ⟨a.ff.trans b.ff, b.fh, fun c h1 h2 h3 => b.nw c (fun z => by
    cases e : H c with
    | none => exact h1 e
    | some o => rw [a.kp c o e h3] at z; cases z) (a.nw c h1 h2 h3) h3, fun c o e h => b.kp c o (a.kp c o e h) h⟩
theorem Gr.new {M : Addr → Prop} {F H H1 : Hp} (x : Ex F H) (e : Ex H H1) : Gr M F H F H1 := ⟨Evl.Ex.refl _, x.trans e, fun _ _ h _ => h, fun b o h _ => e b o h⟩
theorem Gr.set {M : Addr → Prop} {F H H1 : Hp} {p : Addr} (x : Ex F H) (hp : M p) (hf : F p = none) (o : ∀ b, b ≠ p → H1 b = H b) : Gr M F H F H1 :=
  ⟨Evl.Ex.refl _, set_ex x hf o, fun _ _ h _ => h, fun b u e hb => by rw [o b (fun z => hb (z ▸ hp))]; exact e⟩
theorem Gr.frz {M : Addr → Prop} {F H H1 : Hp} {p : Addr} {u : HO} (x : Ex F H) (n : H p = none) (s : H1 p = some u) (o : ∀ b, b ≠ p → H1 b = H b) : Gr M F H (upd F p u) H1 := by
  refine ⟨exu (Evl.Ex.refl _) (ex_none x n), fun b w e => ?_, fun b h1 h2 _ => ?_, fun b w e _ => ?_⟩
  · by_cases z : b = p
    · rw [z, upd_same] at e
      cases e
      rw [z]
      exact s
    · rw [upd_ne z] at e
      rw [o b z]
      exact x b w e
  · rw [upd_ne (fun z => h1 (by rw [z]; exact n))]
    exact h2
  · rw [o b (ne_of_none e n)]
    exact e
theorem Gr.mono {M M' : Addr → Prop} {F H F' H' : Hp} (g : Gr M F H F' H') (h : ∀ b, M b → M' b) : Gr M' F H F' H' :=
  ⟨g.ff, g.fh, fun b h1 h2 h3 => g.nw b h1 h2 fun z => h3 (h b z), fun b o e hb => g.kp b o e fun z => hb (h b z)⟩
/-- what is not M keeps what H held -/
theorem Gr.ex {F H F' H' : Hp} (g : Gr (fun _ => False) F H F' H') : Ex H H' := fun b o e => g.kp b o e id
/-- what a call changes of what is new does not count -/
theorem Gr.hide {M M' : Addr → Prop} {F H F1 H1 F2 H2 : Hp} (a : Gr M F H F1 H1) (b : Gr M' F1 H1 F2 H2) (h : ∀ x, M' x → H x = none ∨ M x) : Gr M F H F2 H2 := by
  have hn : ∀ x, H x ≠ none → ¬ M x → ¬ M' x := fun x h1 h2 h3 => (h x h3).elim h1 h2
  refine ⟨a.ff.trans b.ff, b.fh, fun x h1 h2 h3 => b.nw x (fun z => ?_) (a.nw x h1 h2 h3) (hn x h1 h3), fun x o e h1 => b.kp x o (a.kp x o e h1) (hn x (by rw [e]; exact fun z => nomatch z) h1)⟩
  cases e : H x with
  | none => exact h1 e
  | some o => rw [a.kp x o e h3] at z; cases z
theorem Gr.frzAt {M : Addr → Prop} {F H F1 H1 : Hp} {p : Addr} {o : HO} (g : Gr M F H F1 H1) (hp : H p = none) (h1 : H1 p = some o) (hf : F1 p = none) : Gr M F H (upd F1 p o) H1 := by
  refine ⟨exu g.ff hf, fun b u e => ?_, fun b a1 a2 a3 => ?_, g.kp⟩
  · by_cases z : b = p
    · rw [z, upd_same] at e; cases e; rw [z]; exact h1
    · rw [upd_ne z] at e; exact g.fh b u e
  · rw [upd_ne (fun z => a1 (by rw [z]; exact hp))]
    exact g.nw b a1 a2 a3
/-! ### a region R of new objects that still change, beside F, within H' -/
structure Rg (M : Addr → Prop) (F0 H F R H' : Hp) : Prop where
  g : Gr M F0 H F H'
  rh : Ex R H'
  dj : ∀ b o, R b = some o → F b = none
  rn : ∀ b o, R b = some o → H b = none ∧ ¬ M b
def hp0 : Hp := fun _ => none
theorem hp0_at (b : Addr) : hp0 b = none := rfl
section
variable {M : Addr → Prop} {F0 H F R H' : Hp}
theorem Rg.start (g : Gr M F0 H F H') : Rg M F0 H F hp0 H' := ⟨g, fun b o e => (by cases e), fun b o e => (by cases e), fun b o e => (by cases e)⟩
/-- a new address is new to all -/
theorem Rg.fresh (x : Rg M F0 H F R H') {p : Addr} (n : H' p = none) : F p = none ∧ R p = none ∧ (¬ M p → H p = none) := by
  refine ⟨ex_none x.g.fh n, ex_none x.rh n, fun hm => ?_⟩
  cases e : H p with
  | none => rfl
  | some o => rw [x.g.kp p o e hm] at n; cases n
/-- new, neither frozen nor in the region (rubbish) -/
theorem Rg.junk (x : Rg M F0 H F R H') {H1 : Hp} (e : Ex H' H1) : Rg M F0 H F R H1 := ⟨x.g.trans (Gr.new x.g.fh e), x.rh.trans e, x.dj, x.rn⟩
theorem Rg.newR (x : Rg M F0 H F R H') {H1 : Hp} {p : Addr} {o : HO} (hm : ¬ M p) (n : H' p = none) (s : H1 p = some o) (e : ∀ b, b ≠ p → H1 b = H' b) : Rg M F0 H F (upd R p o) H1 := by
  obtain ⟨f1, f2, f3⟩ := x.fresh n
  have ex : Ex H' H1 := fun b u h => by rw [e b (ne_of_none h n)]; exact h
  refine ⟨x.g.trans (Gr.new x.g.fh ex), fun b u h => ?_, fun b u h => ?_, fun b u h => ?_⟩
  all_goals by_cases z : b = p
  · rw [z, upd_same] at h; cases h; rw [z]; exact s
  · rw [upd_ne z] at h; rw [e b z]; exact x.rh b u h
  · rw [z]; exact f1
  · rw [upd_ne z] at h; exact x.dj b u h
  · rw [z]; exact ⟨f3 hm, hm⟩
  · rw [upd_ne z] at h; exact x.rn b u h
theorem Rg.newF (x : Rg M F0 H F R H') {H1 : Hp} {p : Addr} {o : HO} (n : H' p = none) (s : H1 p = some o) (e : ∀ b, b ≠ p → H1 b = H' b) : Rg M F0 H (upd F p o) R H1 := by
  obtain ⟨f1, f2, f3⟩ := x.fresh n
  have ex : Ex H' H1 := fun b u h => by rw [e b (ne_of_none h n)]; exact h
  refine ⟨x.g.trans (Gr.frz x.g.fh n s e), x.rh.trans ex, fun b u h => ?_, x.rn⟩
  rw [upd_ne (ne_of_none h f2)]
  exact x.dj b u h
theorem Rg.setR (x : Rg M F0 H F R H') {H1 : Hp} {p : Addr} {o u0 : HO} (hp : R p = some u0) (s : H1 p = some o) (e : ∀ b, b ≠ p → H1 b = H' b) : Rg M F0 H F (upd R p o) H1 := by
  obtain ⟨r1, r2⟩ := x.rn p u0 hp
  refine ⟨⟨x.g.ff, fun b u h => ?_, x.g.nw, fun b u h hb => ?_⟩, fun b u h => ?_, fun b u h => ?_, fun b u h => ?_⟩
  · have z : b ≠ p := fun z => by rw [z, x.dj p u0 hp] at h; cases h
    rw [e b z]; exact x.g.fh b u h
  · have z : b ≠ p := fun z => by rw [z, r1] at h; cases h
    rw [e b z]; exact x.g.kp b u h hb
  all_goals by_cases z : b = p
  · rw [z, upd_same] at h; cases h; rw [z]; exact s
  · rw [upd_ne z] at h; rw [e b z]; exact x.rh b u h
  · rw [z]; exact x.dj p u0 hp
  · rw [upd_ne z] at h; exact x.dj b u h
  · rw [z]; exact ⟨r1, r2⟩
  · rw [upd_ne z] at h; exact x.rn b u h
/-- something of M is stored -/
theorem Rg.setM (x : Rg M F0 H F R H') {H1 : Hp} {p : Addr} (hp : M p) (hf : F p = none) (e : ∀ b, b ≠ p → H1 b = H' b) : Rg M F0 H F R H1 := by
  refine ⟨x.g.trans (Gr.set x.g.fh hp hf e), fun b u h => ?_, x.dj, x.rn⟩
  rw [e b (fun z => (x.rn b u h).2 (z ▸ hp))]
  exact x.rh b u h
/-- a call that changes nothing of the region -/
theorem Rg.call {M' : Addr → Prop} {F2 H2 : Hp} (x : Rg M F0 H F R H') (c : Gr M' F H' F2 H2) (hM : ∀ b, M' b → M b) : Rg M F0 H F2 R H2 := by
  refine ⟨x.g.trans (c.mono hM), fun b o h => c.kp b o (x.rh b o h) fun z => (x.rn b o h).2 (hM b z), fun b o h => ?_, x.rn⟩
  exact c.nw b (by rw [x.rh b o h]; exact fun z => nomatch z) (x.dj b o h) fun z => (x.rn b o h).2 (hM b z)
/-- a call that may change M' of the region R1, the rest R staying -/
theorem Rg.only (x : Rg M F0 H F R H') {R' : Hp} (e : Ex R' R) : Rg M F0 H F R' H' := ⟨x.g, e.trans x.rh, fun b o h => x.dj b o (e b o h), fun b o h => x.rn b o (e b o h)⟩
/-- F with R -/
def joinH (F R : Hp) : Hp := fun b => match R b with
  | some o => some o
  | none => F b
theorem joinH_r {b : Addr} {o : HO} (h : R b = some o) : joinH F R b = some o := by unfold joinH; rw [h]
theorem joinH_f (dj : ∀ b o, R b = some o → F b = none) : Ex F (joinH F R) := fun b o h => by
  unfold joinH
  cases e : R b with
  | none => exact h
  | some u => rw [dj b u e] at h; cases h
theorem joinH_ex : Ex R (joinH F R) := fun b o h => joinH_r h
/-- the region is done: it is frozen -/
theorem Rg.done (x : Rg M F0 H F R H') : Gr M F0 H (joinH F R) H' := by
  refine ⟨x.g.ff.trans (joinH_f x.dj), fun b o h => ?_, fun b h1 h2 h3 => ?_, x.g.kp⟩
  · unfold joinH at h
    cases e : R b with
    | none => rw [e] at h; exact x.g.fh b o h
    | some u => rw [e] at h; cases h; exact x.rh b _ e
  · unfold joinH
    cases e : R b with
    | none => exact x.g.nw b h1 h2 h3
    | some u => exact absurd (x.rn b u e).1 h1
/-- a part of the region is frozen -/
theorem Rg.part (x : Rg M F0 H F R H') {R1 R2 : Hp} (e1 : Ex R1 R) (e2 : Ex R2 R) (d : ∀ b o, R1 b = some o → R2 b = none) : Rg M F0 H (joinH F R2) R1 H' := by
  refine ⟨(x.only e2).done, e1.trans x.rh, fun b o h => ?_, fun b o h => x.rn b o (e1 b o h)⟩
  unfold joinH
  rw [d b o h]
  exact x.dj b o (e1 b o h)
end
end Fc

set_option maxRecDepth 100000
set_option maxHeartbeats 4000000
namespace FcO
open PySem PySem.Spec PyProof.Rows L2
/-! ### own special methods: len(o) by an own __len__ -/
section
variable {X : Cx} {CX : CXT} {C f : Addr} {fd : FuncData} {ps : List Str} {sp : Sp} {E : XK} {k : Nat}
/-- a def called somewhere below the running body -/
theorem run_sub {A : Around} (F : FnOk X.prog X.w X.K X.mg X.base CX k f fd ps sp) (sb : Sub X k A) (hb : Binds X.K fd ps []) (hx : Passes CX X E) {pins : List (Addr × Obj)} {σ : L2.St} {H : Hp} {s : Shared} {us : List Value} {vs : List V} {Q : VK} (I : Inv X pins σ H s) (r : Vals vs us) (h : sp vs H Q E) :
    wpAny (model X.prog X.w) A (call (.ref f) us) (EP X pins σ Q) X.xe s := by
  have e0 : Env0 X.prog X.w X.K X.mg X.base A X.stack s H := by
    have e := I.env0
    exact ⟨by rw [sb.fr]; exact e.frames, e.mod, e.bs, e.bsz, e.funs, e.frf, e.hok, e.bare⟩
  have hl := F.len _ _ _ _ h
  refine wpAny_call (codeAny_mono (F.run A X.stack s H ⟨us, []⟩ us vs _ E sb.room e0 (by
    have := hb s us I.kIn (by rw [List.append_nil, ← r.length]; exact hl)
    rw [List.append_nil] at this
    exact this) r h) fun r s' hq => ?_)
  cases r with
  | error e => exact hx pins σ H s e s' I hq
  | ok fl =>
    cases fl with
    | ret w => exact I.after hq
    | next => exact False.elim hq
    | brk => exact False.elim hq
    | cont => exact False.elim hq
/-- callSpecial? of an instance whose class has its own method -/
theorem special_own {M : Model} {A : Around} {E : Value → Shared → Prop} {s : Shared} {K : PySem.W.Frag} {x C f : Addr} {ox : Obj} {od : Option Obj} {name : Str} {args : List Value} {Q : Option Value → Shared → Prop} (X : K.In s.heap) (I : PySem.W.InstAt s.heap x ox C od) (hs : PySem.W.findIn K (.ref C) name = some (some (.ref f))) (hf : PySem.W.isFn K (.ref f) = true)
    (h : wpAny M A (call (.ref f) (.ref x :: args)) (fun v => Q (some v)) E s) : wpAny M A (callSpecial? (.ref x) name args) Q E s := by
  simp only [callSpecial?]
  refine wpAny_bind (wpAny_bind (I.type.here ((PySem.W.looks_findIn X hs).here ?_)))
  refine wpAny_holding (wpAny_bind ((PySem.W.bind_fn X _ (beq_iff_eq.mp hf)).here ?_))
  exact wpAny_bind (wpAny_mono h (fun v s' h' => wpAny_pure h') fun _ _ h' => h')
abbrev rLenO (C : Addr) (sp : Sp) (E : XK) : List V → Hp → VK → Prop := fun xs H Q => ∃ (a dx : Addr) (fs : List (Str × V)), xs = [.ref a] ∧ H a = some (.ins C dx fs) ∧ sp [.ref a] H (fun v H' => ∃ n : Nat, v = .int (n : Int) ∧ (n : Int) < 2 ^ 63 ∧ Q (.int (n : Int)) H') E
theorem call_lenO (F : FnOk X.prog X.w X.K X.mg X.base CX k f fd ps sp) (hr : Room (k + 1) X.A) (hm : Meth X.K C "__len__" f) (hb : Binds X.K fd ps []) (hx : Passes CX X E) : CallR X (.builtin "len") (rLenO C sp E) := by
  intro pins s σ H xs us Q I r h
  obtain ⟨a, dx, fs, rfl, ha, q⟩ := h
  obtain ⟨u, rfl, ru⟩ := vals1 r
  obtain rfl : u = Value.ref a := ru
  obtain ⟨mA, J, _⟩ := ins_get I.hok ha
  obtain ⟨od, J, _⟩ := J.look
  refine Calls.call_function_entry kind_len plain_len entry_len (args_len1 _) ?_
  unfold Builtin.«len»
  refine wpAny_bind (m := oneArg "len" _) (wpAny_pure ?_)
  refine wpAny_bind (m := callSpecial? (.ref a) (PySem.Str.ofString "__len__")) (special_own I.kIn J hm.at_ hm.fn (wpAny_mono (run_sub F ⟨hr.in1, rfl⟩ hb hx I r q) (fun v s1 hv => ?_) fun _ _ e => e))
  obtain ⟨z, H1, I1, rz, n, rfl, hn, q1⟩ := hv
  obtain ⟨t, rfl⟩ : ∃ t, v = Value.int (n : Int) t := rz
  refine wpAny_bind (wpAny_holding (wpAny_pure ?_))
  refine wpAny_bind (wpAny_letGo ?_)
  show wpAny _ _ (if ((n : Nat) : Int) < 0 then _ else _) _ _ _
  rw [if_neg (by omega)]
  show wpAny _ _ (if ((n : Nat) : Int) ≥ 2 ^ 63 then _ else _) _ _ _
  rw [if_neg (by omega)]
  exact wpAny_bind (wpAny_mkInt (wpAny_pure ⟨_, rfl, ⟨.int (n : Int), H1, I1.tok _, ⟨_, rfl⟩, q1⟩⟩))
end
end FcO
namespace FcO
open PySem PySem.Spec PyProof.Rows L2
/-! ### == and != by an own __eq__, both answers -/
structure EqC (K : PySem.W.Frag) (C : Addr) : Prop where
  ne : PySem.W.findIn K (.ref C) "__ne__" = some (some (.builtin "object.__ne__"))
  ha : PySem.W.findIn K (.ref C) "__class__" = some (some (.builtin "object.__class__"))
  hn : PySem.W.specialIn K (.builtin "object.__class__") "__get__" = some (some (.builtin "getset_descriptor.__get__"))
  htk : PySem.W.takesIn K (.builtin "object.__class__") = some true
  hm : PySem.W.mroIn K C (.type "object") = some true
  same : PySem.W.kitOne K (.ref C) (.ref C) = some true
  no : ∀ T ∈ (["NoneType", "bool", "int", "str", "list", "tuple", "dict"] : List String), PySem.W.kitOne K (.type T) (.ref C) = some false
def eqB (K : PySem.W.Frag) (C : Addr) : Bool :=
  (decide (PySem.W.findIn K (.ref C) "__ne__" = some (some (.builtin "object.__ne__"))) && decide (PySem.W.findIn K (.ref C) "__class__" = some (some (.builtin "object.__class__")))) &&
  ((decide (PySem.W.specialIn K (.builtin "object.__class__") "__get__" = some (some (.builtin "getset_descriptor.__get__"))) && decide (PySem.W.takesIn K (.builtin "object.__class__") = some true)) &&
  ((decide (PySem.W.mroIn K C (.type "object") = some true) && decide (PySem.W.kitOne K (.ref C) (.ref C) = some true)) &&
   ((["NoneType", "bool", "int", "str", "list", "tuple", "dict"] : List String).all fun T => decide (PySem.W.kitOne K (.type T) (.ref C) = some false))))
theorem eqB_ok {K : PySem.W.Frag} {C : Addr} (h : eqB K C = true) : EqC K C := by
  unfold eqB at h
  obtain ⟨h1, h2⟩ := Bool.and_eq_true_iff.mp h
  obtain ⟨a1, a2⟩ := Bool.and_eq_true_iff.mp h1
  obtain ⟨h3, h4⟩ := Bool.and_eq_true_iff.mp h2
  obtain ⟨a3, a4⟩ := Bool.and_eq_true_iff.mp h3
  obtain ⟨h5, h6⟩ := Bool.and_eq_true_iff.mp h4
  obtain ⟨a5, a6⟩ := Bool.and_eq_true_iff.mp h5
  exact ⟨of_decide_eq_true a1, of_decide_eq_true a2, of_decide_eq_true a3, of_decide_eq_true a4, of_decide_eq_true a5, of_decide_eq_true a6, fun T hT => of_decide_eq_true (List.all_eq_true.mp h6 T hT)⟩
section
variable {X : Cx} {CX : CXT} {C f : Addr} {fd : FuncData} {ps : List Str} {sp : Sp} {E : XK} {k : Nat}
theorem ty_ins {K : PySem.W.Frag} {H : Hp} {a C dx : Addr} {fs : List (Str × V)} (c : Cls K C) (z : EqC K C) (h : H a = some (.ins C dx fs)) : TyX K H (.ref a) (.ref C) := .base (.ins h c z.ha z.hn z.htk z.hm)
def rEqO (K : PySem.W.Frag) (C : Addr) (sp : Sp) (E : XK) : R2 := fun x y H Q => ∃ (a dx : Addr) (fs : List (Str × V)) (tb : Value), x = .ref a ∧ H a = some (.ins C dx fs) ∧ TyX K H y tb ∧ PySem.W.notFirst K C tb = true ∧ sp [x, y] H (fun v H' => ∃ b, v = .bl b ∧ Q (.bl b) H') E
def rNeO (K : PySem.W.Frag) (C : Addr) (sp : Sp) (E : XK) : R2 := fun x y H Q => ∃ (a dx : Addr) (fs : List (Str × V)) (tb : Value), x = .ref a ∧ H a = some (.ins C dx fs) ∧ TyX K H y tb ∧ PySem.W.notFirst K C tb = true ∧ sp [x, y] H (fun v H' => ∃ b, v = .bl b ∧ Q (.bl (!b)) H') E
theorem op_eqO (F : FnOk X.prog X.w X.K X.mg X.base CX k f fd ps sp) (hr : Room k X.A) (hm : Meth X.K C "__eq__" f) (hb : Binds X.K fd ps []) (hx : Passes CX X E) : OpR X (compareOp .Eq) (rEqO X.K C sp E) := by
  intro pins s σ H x y v u Q I rx ry h
  obtain ⟨a, dx, fs, tb, rfl, ha, ty, nf, q⟩ := h
  obtain rfl : v = Value.ref a := rx
  obtain ⟨mA, J, _⟩ := ins_get I.hok ha
  obtain ⟨od, J, _⟩ := J.look
  obtain ⟨Pk, kx, pk, _⟩ := kit_of I ry ty
  obtain ⟨m, hF⟩ := I.fr
  show wpAny (model X.prog X.w) X.A (richCompare .Eq (.ref a) u) (EP X pins σ Q) X.xe s
  refine PySem.W.cmp_K (op := .Eq) (tb := tb) hr.units0 hF I.ok.mod.kin J (kx.ty _ _ I.kIn pk) nf hm.at_ hm.fn ?_
  refine wpAny_mono (run_sub F ⟨hr, rfl⟩ hb hx I (.cons (show L2.RelV (.ref a) (Value.ref a) from rfl) (.cons ry .nil)) q) (fun r s1 hv => ?_) fun _ _ e => e
  obtain ⟨z, H1, I1, rz, b, rfl, q1⟩ := hv
  cases rz
  exact ⟨.bl b, H1, I1, rfl, q1⟩
theorem op_neO (F : FnOk X.prog X.w X.K X.mg X.base CX k f fd ps sp) (hr : Room (k + 1) X.A) (hm : Meth X.K C "__eq__" f) (zc : EqC X.K C) (hb : Binds X.K fd ps []) (hx : Passes CX X E) : OpR X (compareOp .NotEq) (rNeO X.K C sp E) := by
  intro pins s σ H x y v u Q I rx ry h
  obtain ⟨a, dx, fs, tb, rfl, ha, ty, nf, q⟩ := h
  obtain rfl : v = Value.ref a := rx
  obtain ⟨mA, J, _⟩ := ins_get I.hok ha
  obtain ⟨od, J, _⟩ := J.look
  obtain ⟨Pk, kx, pk, _⟩ := kit_of I ry ty
  have hbT := kx.ty (model X.prog X.w) s.heap I.kIn pk
  have Xk := I.kIn
  have callE : wpAny (model X.prog X.w) X.A.in1 (call (.ref f) [.ref a, u]) (fun v s' => ∃ b, v = .bool b ∧ EP X pins σ Q (.bool (!b)) s') X.xe s := by
    refine wpAny_mono (run_sub F ⟨hr.in1, rfl⟩ hb hx I (.cons (show L2.RelV (.ref a) (Value.ref a) from rfl) (.cons ry .nil)) q) (fun r s1 hv => ?_) fun _ _ e => e
    obtain ⟨z, H1, I1, rz, b, rfl, q1⟩ := hv
    cases rz
    exact ⟨b, rfl, .bl (!b), H1, I1, rfl, q1⟩
  have inst : PySem.W.Looks (model X.prog X.w) s.heap (isInstance (.ref a) (.type "object")) true := J.type.andThen (PySem.W.looks_mroIn Xk zc.hm)
  have hbs : bindSpecial (.builtin "object.__ne__") (.ref a) = pure (.builtin "object.__ne__", [.ref a]) := PySem.F.cmp_object.ne.bind _
  have hu1 : X.A.in1.units < cLine := hr.in1.units0
  have callN : wpAny (model X.prog X.w) X.A (call (.builtin "object.__ne__") [.ref a, u]) (fun v s' => ∃ b, v = .bool b ∧ EP X pins σ Q (.bool b) s') X.xe s := by
    refine wpAny_call (codeAny_call_builtin PySem.F.cmp_object.ne.plain PySem.F.cmpEntry_ne (@PySem.W.check_slot (model X.prog X.w) _ _ _ "object.__ne__" "object" "__ne__" (.ref a) [u] [] _ PySem.F.cmpKind_ne PySem.F.cmpSplit_ne inst (PySem.F.cmpArgs_ne _ _) ?_))
    unfold Builtin.«object.__ne__»
    repeat (first
      | with_reducible refine wpAny_cRoomFor hu1 ?_
      | (refine wpAny_bind (m := callSpecialIfBound? (.ref a) (Str.ofString "__eq__") [u])
          (PySem.W.ifBound_K Xk J hm.at_ hm.fn (wpAny_mono callE (fun r s' hr => by
            obtain ⟨b, rfl, hq⟩ := hr
            repeat (first | exact ⟨_, rfl, hq⟩ | exact wpAny_pure ⟨_, rfl, hq⟩ | exact wpAny_truthy_bool ⟨_, rfl, hq⟩ | (refine wpAny_bind (m := truthy (.bool _)) (wpAny_truthy_bool ?_)) | wp_step)) fun _ _ e => e)))
      | wp_step)
  have one : wpAny (model X.prog X.w) X.A (tryCompare (.ref a) (cmpInfo .NotEq).2.1 u) (fun r s' => ∃ v, r = some v ∧ EP X pins σ Q v s') X.xe s := by
    unfold tryCompare
    refine wpAny_bind (m := callSpecialIfBound? (.ref a) (Str.ofString "__ne__") [u]) ?_
    simp only [callSpecialIfBound?, bindSpecialIfBound?]
    refine wpAny_holding (wpAny_bind (wpAny_bind (wpAny_bind (J.type.here ((PySem.W.looks_findIn Xk zc.ne).here ?_)))))
    simp only [hbs]
    refine wpAny_bind (wpAny_askSetting (wpAny_ite ?_))
    split
    · exact wpAny_bind (wpAny_pure (wpAny_pure (wpAny_bind (wpAny_mono callN (fun v s' h' => by
        obtain ⟨b, rfl, hq⟩ := h'
        exact wpAny_pure (wpAny_pure ⟨_, rfl, hq⟩)) fun _ _ h' => h'))))
    · exact wpAny_tryCatch (wpAny_bind (wpAny_pure (wpAny_pure (wpAny_bind (wpAny_mono callN (fun v s' h' => by
        obtain ⟨b, rfl, hq⟩ := h'
        exact wpAny_pure (wpAny_pure ⟨_, rfl, hq⟩)) fun _ _ h' => h')))))
  show wpAny (model X.prog X.w) X.A (richCompare .NotEq (.ref a) u) (EP X pins σ Q) X.xe s
  unfold richCompare
  simp only [oneThing_ref]
  refine wpAny_holding (wpAny_bind (wpAny_cRoomFor hr.units0 ?_))
  refine wpAny_bind (J.type.here (wpAny_bind (hbT.here ?_)))
  split
  · rename_i qq
    have e : PySem.W.subIn X.K tb (.ref C) = some false := by
      rcases Bool.or_eq_true_iff.mp nf with e | e
      · rw [beq_iff_eq.mp e] at qq; simp at qq
      · exact beq_iff_eq.mp e
    refine wpAny_bind ((PySem.W.looks_subIn Xk e).here ?_)
    simp only [Bool.false_eq_true, if_false]
    refine wpAny_bind (wpAny_mono one (fun r s' z => ?_) fun _ _ e => e)
    obtain ⟨v, rfl, hq⟩ := z
    exact wpAny_pure hq
  · refine wpAny_bind (wpAny_pure ?_)
    simp only [Bool.false_eq_true, if_false]
    refine wpAny_bind (wpAny_mono one (fun r s' z => ?_) fun _ _ e => e)
    obtain ⟨v, rfl, hq⟩ := z
    exact wpAny_pure hq
end
end FcO
namespace FcO
open PySem PySem.Spec PyProof.Rows L2
/-! ### C(k = v, ..): a new instance by keywords alone -/
def tMakeW (C : Addr) (sp : Sp) (g : List V → List V) (n : Nat) (E : XK) (tk : TA) : TE := fun σ H Q => tk σ H fun zs H1 => zs.length = n ∧ ∀ x dx, H1 x = none → H1 dx = none → dx ≠ x → sp (.ref x :: g zs) (upd (upd H1 dx (.own x)) x (.ins C dx [])) (fun v H3 => v = .non ∧ Q (.ref x) H3) E
section
variable {X : Cx} {CX : CXT} {C f : Addr} {fd : FuncData} {ps ks : List Str} {sp : Sp} {E : XK} {k : Nat} {x : Str} {p pos : Pos} {kws : List Keyword} {tk : TA} {g : List Value → List Value} {gV : List V → List V}
theorem pe_makeW (M : Mk X.K C f) (F : FnOk X.prog X.w X.K X.mg X.base CX k f fd ps sp) (hr : Room (k + 1) X.A) (hg : Gl X x) (hm : X.mg x = some (.ref C))
    (hb : ∀ (s : Shared) (y : Value) (ws : List Value), ws.length = ks.length → BindsTo s fd ⟨[y], ks.zip ws⟩ (ps.zip (y :: g ws))) (hrel : ∀ {zs : List V} {ws : List Value}, Vals zs ws → zs.length = ks.length → Vals (gV zs) (g ws)) (hx : Passes CX X E) (hkw : PK X kws tk)
    (hall : (backToKw pos (keywordEach kws X.env)).all (·.1.isSome) = true := by rfl) (hks : (backToKw pos (keywordEach kws X.env)).filterMap (·.1) = ks := by rfl) (hdb : (x == ("__debug__" : Str)) = false := by decide)
    (hpl : ((backTo pos (starEach [] X.env)).any (·.1) || (backToKw pos (keywordEach kws X.env)).any (·.1.isNone)) = false := by rfl) :
    PE X (.Call (.Name x p) [] kws pos) (tMakeW C sp gV ks.length E tk) := by
  refine ⟨fun pins s0 σ H0 Q I0 h0 => ?_⟩
  refine wpAny_Call_Name_kw (ld_glob I0 hg hm ?_ hdb)
  refine PySem.W.callWith_KW0 (h₀ := X.base) I0.ok.mod.kin M.kp hall (thn (hkw.run pos pins s0 σ H0 _ I0 h0) fun ws s ⟨zs, H, I, rz, l, h⟩ => ⟨I.kIn, ?_⟩) hpl
  rw [hks]
  have hq := h (s.heap.objs.size + 1) s.heap.objs.size (I.hok.fresh (Nat.le_succ _)) (I.hok.fresh (Nat.le_refl _)) (Nat.ne_of_lt (Nat.lt_succ_self _))
  have I2 := Inv.made (C := C) I
  have r2 : Vals (V.ref (s.heap.objs.size + 1) :: gV zs) (Value.ref (s.heap.objs.size + 1) :: g ws) := .cons (show L2.RelV (.ref _) (Value.ref _) from rfl) (hrel rz l)
  refine wpAny_call (make_map (f := f) I.kIn M.makes M.init (beq_iff_eq.mp M.fn) (codeAny_mono (F.run _ X.stack _ _ ⟨Value.ref (s.heap.objs.size + 1) :: [], ks.zip ws⟩ (Value.ref (s.heap.objs.size + 1) :: g ws) _ _ E (hr.make C [] (ks.zip ws))
    (I2.env0.make C [] (ks.zip ws)) (hb _ _ ws (rz.length.symm.trans l)) r2 hq) fun r s' hq' => ?_))
  cases r with
  | error e => exact hx pins σ _ _ e s' I2 hq'
  | ok fl =>
    cases fl with
    | ret u =>
      obtain ⟨v, H', I3, rv, ev, q3⟩ := I2.after hq'
      subst ev
      exact ⟨rv, ⟨V.ref (s.heap.objs.size + 1), H', I3, rfl, q3⟩⟩
    | next => exact False.elim hq'
    | brk => exact False.elim hq'
    | cont => exact False.elim hq'
end
end FcO

set_option maxRecDepth 100000
set_option maxHeartbeats 4000000
namespace FcX
open PySem PySem.Spec PyProof.Rows L2 FcR
/-! ### raise C(e), C an own class over ArithmeticError whose __init__ stores one field -/
def tMkR (C : Addr) (f : Str) (ta : TA) : L2.St → Hp → XK → Prop := fun σ H Q => ta σ H fun vs H1 => ∃ y, vs = [y] ∧ ∀ d, H1 d = none → Q (.ref C) (some d) (upd H1 d (.xd [(f, y)]))
theorem del_made {H : Hp} {a dx : Addr} {u1 u2 u3 o : HO} (h1 : H a = none) (h3 : dx ≠ a) : upd (del (upd (upd (upd H a u1) dx u2) a u3) a) dx o = upd H dx o := by
  funext b
  by_cases hb : b = dx
  · rw [hb, upd_same, upd_same]
  · rw [upd_ne hb, upd_ne hb]
    by_cases ha : b = a
    · rw [ha, del_same, h1]
    · rw [del_ne ha, upd_ne ha, upd_ne hb, upd_ne ha]
section
variable {X : Cx} {CX : CXT} {k : Nat} {C fI : Addr} {fd : FuncData} {f n x : Str} {p pos : Pos} {e : Expr} {te : TE}
theorem pmk_X (T : XC X.K C) (N : XI X.K C fI f) (G : FnOk X.prog X.w X.K X.mg X.base CX k fI fd ["self", n] (spX X.K C f)) (hr : Room (k + 1) X.A) (hb : Binds X.K fd ["self", n] []) (hx : Passes CX X (fun _ _ _ => False)) (hg : Gl X x) (hm : X.mg x = some (.ref C)) (ha : PE X e te)
    (hdb : (x == ("__debug__" : Str)) = false := by decide) (he : starEach [e] X.env = (false, eval e X.env) :: starEach [] X.env := by rfl) : PMk X (.Call (.Name x p) [e] [] pos) (tMkR C f (tCons te tNil)) := by
  intro pins s0 σ H0 Q I0 h
  refine wpAny_Call_Name_kw (ld_glob I0 hg hm ?_ hdb)
  refine PySem.W.callWith_K (h₀ := X.base) I0.ok.mod.kin T.kp (thn ((pa_cons (hs := he) ha pa_nil).run pos pins s0 σ H0 _ I0 h) fun us s1 ⟨vs, H, I, r1, y, ev, q⟩ => ⟨I.kIn, ?_⟩) he (by rfl)
  subst ev
  cases r1 with
  | @cons _ v _ _ r r2 =>
  cases r2
  show wpAny _ _ (call (.ref C) [v]) _ _ _
  obtain ⟨hp, g, dr, tk, os⟩ := s1
  obtain ⟨nm, N', qn, bs, bm, hdct, sn, sub, ab, col, dd, k0, k1, k2, k3, k5, hC, hT⟩ := PySem.W.excInit_of I.kIn T.ini
  have hsz : hp.objs.size ≤ hp.objs.size + 1 := Nat.le_succ _
  have hn : H (hp.objs.size + 1) = none := I.hok.fresh hsz
  have kk : ∀ b o, hp.get? b = some o → ((hp.push (PySem.W.kdv_tup [v])).push (PySem.HandSPX.excO C hp.objs.size)).get? b = some o := fun b o e => Heap.get?_push_of_some _ (Heap.get?_push_of_some _ e)
  have hget : ((hp.push (PySem.W.kdv_tup [v])).push (PySem.HandSPX.excO C hp.objs.size)).get? (hp.objs.size + 1) = some (PySem.HandSPX.excO C hp.objs.size) := by heap_get
  have I2 : Inv X pins σ (upd H (hp.objs.size + 1) (exo (hp.objs.size + 1) C none)) ⟨(hp.push (PySem.W.kdv_tup [v])).push (PySem.HandSPX.excO C hp.objs.size), g, dr, tk, os⟩ :=
    I.laid (t' := tk) (a := hp.objs.size + 1) (o := exo (hp.objs.size + 1) C none) (h' := (hp.push (PySem.W.kdv_tup [v])).push (PySem.HandSPX.excO C hp.objs.size)) kk hsz (exo_ok hget)
  have hq : spX X.K C f [.ref (hp.objs.size + 1), y] (upd H (hp.objs.size + 1) (exo (hp.objs.size + 1) C none)) (fun z H2 => z = .non ∧ ∃ (d : Addr) (fs : List (Str × V)), H2 (hp.objs.size + 1) = some (exo (hp.objs.size + 1) C (some d)) ∧ H2 d = some (exd d fs) ∧ H d = none ∧ Q (.ref C) (some d) (upd (del H2 (hp.objs.size + 1)) d (.xd fs))) (fun _ _ _ => False) :=
    ⟨hp.objs.size + 1, y, rfl, upd_same, fun dx h1 h2 => ⟨rfl, dx, [(f, y)], upd_same, by rw [upd_ne h2, upd_same], by rw [upd_ne h2] at h1; exact h1, by
      rw [del_made hn h2]
      exact q dx (by rw [upd_ne h2] at h1; exact h1)⟩⟩
  refine wpAny_call (callK F.excBase_ArithmeticError hT hC (PySem.W.looks_findIn I.kIn N.ini) (fun self => PySem.W.bind_fn I.kIn self N.fn) (by rw [sizeLine_eq]; show 1 ≤ _; decide)
    (codeAny_mono (G.run _ X.stack _ _ ⟨Value.ref (hp.objs.size + 1) :: [v], []⟩ [Value.ref (hp.objs.size + 1), v] [V.ref (hp.objs.size + 1), y] _ (fun _ _ _ => False) (hr.make C [v] []) (I2.env0.make C [v] []) (hb _ [Value.ref (hp.objs.size + 1), v] I2.kIn rfl) (.cons (show RelV (V.ref (hp.objs.size + 1)) (Value.ref (hp.objs.size + 1)) from rfl) (.cons r .nil)) hq) fun r s' hq' => ?_))
  cases r with
  | error er => exact hx pins σ _ _ er s' I2 hq'
  | ok fl =>
    cases fl with
    | ret u =>
      obtain ⟨v3, H2, os2, bare2, un2, hok2, rv, ev, d, fs, ea, ed, hd1, q2⟩ := hq'
      subst ev
      obtain ⟨h2, g2, d2, t2, os'⟩ := s'
      exact ⟨rv, mk_end (raises_own T.ex T.ty) I hsz kk un2 hok2 os2 bare2 ea ed hd1 q2⟩
    | next => exact False.elim hq'
    | brk => exact False.elim hq'
    | cont => exact False.elim hq'
end
end FcX

set_option maxRecDepth 100000
set_option maxHeartbeats 4000000
namespace FcX
open PySem PySem.Spec PyProof.Rows L2 FcR
/-! ### which clause takes which class -/
def xhB (K : PySem.W.Frag) (ns : List Str) : Bool := ns.all fun c => ns.all fun d => decide (PySem.W.exmOne K (.ref (He.ga K c)) (.ref (He.ga K d)) = some (c == d || d == "CopyError"))
theorem xh_own {K : PySem.W.Frag} {ns : List Str} (h : xhB K ns = true) {c d : Str} (hc : c ∈ ns) (hd : d ∈ ns) : PySem.W.exmOne K (.ref (He.ga K c)) (.ref (He.ga K d)) = some (c == d || d == "CopyError") := by
  have z := List.all_eq_true.mp h c hc
  simp only [List.all_eq_true, decide_eq_true_eq] at z
  exact z d hd
theorem XC.xf {K : PySem.W.Frag} {C : Addr} (T : XC K C) : XfC K C := ⟨T.ga, T.gt, T.ex, T.hd⟩
/-! ### several clauses, with or without a name -/
abbrev Cl := Value × Option Nat × (Addr → Value → Option Addr → TS)
def wMix (K : PySem.W.Frag) (Wout : WX) (D : Ends) : List Cl → WX
  | [] => Wout
  | (c, none, ts) :: r => fun cls d σ H => ∃ b, PySem.W.exmOne K cls c = some b ∧ (b = true → ∀ a, H a = none → ts a cls d D σ H) ∧ (b = false → wMix K Wout D r cls d σ H)
  | (c, some i, ts) :: r => fun cls d σ H => ∃ b, PySem.W.exmOne K cls c = some b ∧ (b = true → ∀ a, H a = none → ts a cls d { nx := fun σ' H' => D.nx (σ'.set i none) H', rt := D.rt, bk := fun σ' H' => D.bk (σ'.set i none) H', ct := fun σ' H' => D.ct (σ'.set i none) H' } (σ.set i (some (.ref a))) H) ∧ (b = false → wMix K Wout D r cls d σ H)
inductive HdsM (X : Cx) : List ExceptHandler → List Cl → Prop
  | nil : HdsM X [] []
  | cons {x : Str} {c : Value} {ts : Addr → Value → Option Addr → TS} {b₀ : Stmt} {suite : List Stmt} {np pos' : Pos} {hds : List ExceptHandler} {l : List Cl} (hc : Names X x c)
      (hsu : ∀ (a : Addr) (oe : Obj) (cls : Value) (d : Option Addr) (pn : List (Addr × Obj)), Zc cls d oe → (∃ vs, oe.data = .fields vs) → PSs (X.suite a ((a, oe) :: pn)) (b₀ :: suite) (ts a cls d)) (r : HdsM X hds l) :
      HdsM X (.ExceptHandler (some (.Name x np)) none (b₀ :: suite) pos' :: hds) ((c, none, ts) :: l)
  | as {x n : Str} {i : Nat} {c : Value} {ts : Addr → Value → Option Addr → TS} {b₀ : Stmt} {suite : List Stmt} {np pos' : Pos} {hds : List ExceptHandler} {l : List Cl} (hi : X.N[i]? = some n) (hln : X.env.kindOf n = some .local) (hc : Names X x c)
      (hsu : ∀ (a : Addr) (oe : Obj) (cls : Value) (d : Option Addr) (pn : List (Addr × Obj)), Zc cls d oe → (∃ vs, oe.data = .fields vs) → PSs (X.suite a ((a, oe) :: pn)) (b₀ :: suite) (ts a cls d)) (r : HdsM X hds l) :
      HdsM X (.ExceptHandler (some (.Name x np)) (some n) (b₀ :: suite) pos' :: hds) ((c, some i, ts) :: l)
section
variable {X : Cx} {body : List Stmt} {h₀ : ExceptHandler} {hds : List ExceptHandler} {l : List Cl} {pos : Pos} {tb : WX → TS} {Wout : WX}
theorem ps_try_mix (hs : X.stack = X.env :: X.outer) (hf : X.env.frame = some X.env.locals) (hN : X.N.Nodup) (tk : Takes X Wout)
    (hb : ∀ (W : WX) (pn : List (Addr × Obj)) (xe : Value → Shared → Prop), Takes (X.tr pn xe) W → PassesOwn (model X.prog X.w) X.A X.env xe → PSs (X.tr pn xe) body (tb W))
    (hh : HdsM X (h₀ :: hds) l) : PS X (.Try body (h₀ :: hds) [] [] pos) (fun D σ H => tb (wMix X.K Wout D l) D σ H) := by
  refine ⟨fun pins s σ H D I h => ?_⟩
  have ok := I.ok
  have hfr : X.A.frames = some (X.env :: X.outer) := by rw [ok.frames, hs]
  refine wpAny_Try_except ?_
  refine wpAny_mono ((hb (wMix X.K Wout D l) (X.pn ++ pins) (fun e s₁ => wpAny (model X.prog X.w) X.A (noteFrame e X.env) (fun _ s₂ => wpAny (model X.prog X.w) X.A (setFlight e none) (fun _ s₃ =>
    wpAny (model X.prog X.w) X.A (handleBy e X.env (h₀ :: hds)) (SP X pins D) X.xe s₃) X.xe s₂) X.xe s₁) (fun u s' xx => ?_) PassesOwn.looking).run [] s σ H D (I.toTry _) h) (fun f s1 hsp => ?_) (fun e s1 he => he)
  · obtain ⟨a, B, sI, pins', σ', H', cls, d, rfl, J', nb, up, sky, na, os, ag, w⟩ := xx
    have J : Inv X pins σ' H' sI := J'.ofTry ok
    have sky' : Sky B (X.env :: X.outer) a (Zc cls d) X.env.locals s'.heap := by rw [← hs]; exact sky
    show wpAny (model X.prog X.w) X.A (noteFrame (.ref a) X.env) _ _ _
    refine Sky.land Zc.steady hfr hf sky' fun h3 fl3 up3 => ?_
    have J3 : Inv X pins σ' H' { s' with heap := h3 } := J.landed nb fl3.1 (up.trans up3) os ag
    obtain ⟨oe3, vs3, he3, hz3, hd3⟩ := fl3.there
    have notFr : ∀ {h : Heap} {o : Obj} {vs : Array Value}, h.FunFrames B (X.env :: X.outer) → h.get? a = some o → o.data = .fields vs → a ∉ frs (X.env :: X.outer) := fun {h o vs} ff e dd hm => by
      obtain ⟨_, o', e', hnf⟩ := ff.mem hm
      rw [e] at e'; cases e'
      exact hnf _ dd
    have nfr := notFr fl3.2.2.1 he3 hd3
    have nL : a ≠ X.env.locals := fun z => nfr (List.mem_filterMap.mpr ⟨X.env, List.mem_cons_self, by rw [hf, z]⟩)
    have nF : a ∉ X.fs := fun hm => by
      obtain ⟨e, he, q⟩ := List.mem_filterMap.mp hm
      exact nfr (List.mem_filterMap.mpr ⟨e, List.mem_cons_of_mem _ he, q⟩)
    have S3 := J3.suite he3 hd3 na nL nF
    have LT : PySem.W.Looks (model X.prog X.w) h3 (typeOf (.ref a)) cls := fun A Q E s k q => wpAny_typeOf_ref (k _ _ he3) (by rw [hz3.1]; exact q)
    have test : ∀ {x : Str} {c : Value} {np : Pos} {Q : Value → Shared → Prop} {E : Value → Shared → Prop}, Names X x c → Q c { s' with heap := h3 } → wpAny (model X.prog X.w) (X.A.mark (some (.ref a))) (eval (.Name x np) X.env) Q E { s' with heap := h3 } := fun {x c np Q E} hc q => by
      obtain ⟨hg, hdbg, hm | ⟨hm, hv, hnn⟩⟩ := hc
      · exact ld_glob (X := X.suite a ((a, oe3) :: (X.pn ++ pins))) S3 hg hm q hdbg
      · exact ld_blt (X := X.suite a ((a, oe3) :: (X.pn ++ pins))) S3 hg hm hv q hnn hdbg
    have go : ∀ {hds' : List ExceptHandler} {l' : List Cl}, HdsM X hds' l' → wMix X.K Wout D l' cls d σ' H' →
        wpAny (model X.prog X.w) X.A (handleBy (.ref a) X.env hds') (SP X pins D) X.xe { s' with heap := h3 } := by
      intro hds' l' hk
      induction hk with
      | nil =>
        intro w
        refine wpAny_handleBy_nil ?_
        obtain ⟨k1, k2, k3, oe, vs, T, oT, ts', he, hz, hd, h1, hr⟩ := id fl3
        unfold PySem.passOn
        refine wpAny_bind (wpAny_field he hd h1 ?_)
        rw [if_neg (show ¬ ((Value.ref T == Value.none) = true) from by simp)]
        have fin : wpAny (model X.prog X.w) X.A (setFlight (.ref a) X.env.frame) (fun _ s4 => wpAny (model X.prog X.w) X.A (throw (.ref a) : Sem Flow) (SP X pins D) X.xe s4) X.xe { s' with heap := h3 } := by
          rw [hf]
          refine HandSPX.setFlight_upZ fl3 fun h4 hh4 up4 => wpAny_throw (tk _ _ ?_)
          exact ⟨a, B, sI, pins, σ', H', cls, d, rfl, J, nb, (up.trans up3).trans up4, .inr (.inr (by rw [hs]; exact hh4)), na, os, ag, w⟩
        first
          | exact wpAny_bind (wpAny_pure (wpAny_bind fin))
          | exact wpAny_bind fin
      | @cons x c ts b₀ suite np pos' hds2 l2 hc hsu r ih =>
        intro w
        obtain ⟨b, hb1, hyes, hno⟩ := w
        refine wpAny_handleBy_cons (codeAny_handlers_test ?_) (by intro q; cases q)
        have LM := PySem.W.exm_one (M := model X.prog X.w) (J3.kIn) LT hb1
        refine test hc (LM.here ?_)
        cases b with
        | true =>
          refine codeAny_handlers_suite ?_
          refine HandSPX.lands_againZ fl3 fun h4 fl4 up4 => ?_
          have J4 : Inv X pins σ' H' { s' with heap := h4 } := J.landed nb fl4.1 ((up.trans up3).trans up4) os ag
          obtain ⟨oe4, vs4, he4, hz4, hd4⟩ := fl4.there
          have S4 := J4.suite he4 hd4 na nL nF
          refine wpAny_mono ((hsu a oe4 cls d (X.pn ++ pins) hz4 ⟨_, hd4⟩).run [] _ _ H' _ S4 (hyes rfl a na)) (fun f s6 hsp => ?_) (fun _ _ z => False.elim z)
          cases f with
          | next =>
            obtain ⟨σ6, H6, S6, q6⟩ := hsp
            exact ⟨_, _, S6.unsuite ok, q6⟩
          | brk =>
            obtain ⟨σ6, H6, S6, q6⟩ := hsp
            exact ⟨_, _, S6.unsuite ok, q6⟩
          | cont =>
            obtain ⟨σ6, H6, S6, q6⟩ := hsp
            exact ⟨_, _, S6.unsuite ok, q6⟩
          | ret u =>
            obtain ⟨v6, σ6, H6, S6, r6, q6⟩ := hsp
            exact ⟨_, _, _, S6.unsuite ok, r6, q6⟩
        | false =>
          show wpAny _ X.A (handleBy (.ref a) X.env hds2) _ _ _
          exact ih (hno rfl)
      | @as x n i c ts b₀ suite np pos' hds2 l2 hi hln hc hsu r ih =>
        intro w
        obtain ⟨b, hb1, hyes, hno⟩ := w
        have hloc : Loc X.env.scope n := .inl hln
        refine wpAny_handleBy_cons (codeAny_handlers_test ?_) (by intro q; cases q)
        have LM := PySem.W.exm_one (M := model X.prog X.w) (J3.kIn) LT hb1
        refine test hc (LM.here ?_)
        cases b with
        | true =>
          refine codeAny_handlers_suite_as ?_
          refine HandSPX.lands_againZ fl3 fun h4 fl4 up4 => ?_
          have J4 : Inv X pins σ' H' { s' with heap := h4 } := J.landed nb fl4.1 ((up.trans up3).trans up4) os ag
          obtain ⟨oe4, vs4, he4, hz4, hd4⟩ := fl4.there
          have S4 := J4.suite he4 hd4 na nL nF
          refine store_ok (X := X.suite a ((a, oe4) :: (X.pn ++ pins))) (v := .ref a) S4 hN hi hloc rfl (fun s5 S5 => ?_) (.inr hln)
          refine wpAny_mono ((hsu a oe4 cls d (X.pn ++ pins) hz4 ⟨_, hd4⟩).run [] s5 _ H' _ S5 (hyes rfl a na)) (fun f s6 hsp => ?_) (fun _ _ z => False.elim z)
          have end_ : ∀ {σ6 : L2.St} {H6 : Hp} {Q : Shared → Prop}, Inv (X.suite a ((a, oe4) :: (X.pn ++ pins))) [] σ6 H6 s6 → (∀ s7, Inv X pins (σ6.set i none) H6 s7 → Q s7) →
              wpAny (model X.prog X.w) X.A (do bindName X.env n .none; unbindBehindTheSuite X.env n pos') (fun _ s7 => Q s7) X.xe s6 := fun {σ6 H6 Q} S6 hq => gone_ok (S6.unsuite ok) hN hi hln hq
          cases f with
          | next =>
            obtain ⟨σ6, H6, S6, q6⟩ := hsp
            exact end_ S6 fun s7 J7 => ⟨_, _, J7, q6⟩
          | brk =>
            obtain ⟨σ6, H6, S6, q6⟩ := hsp
            exact end_ S6 fun s7 J7 => ⟨_, _, J7, q6⟩
          | cont =>
            obtain ⟨σ6, H6, S6, q6⟩ := hsp
            exact end_ S6 fun s7 J7 => ⟨_, _, J7, q6⟩
          | ret u =>
            obtain ⟨v6, σ6, H6, S6, r6, q6⟩ := hsp
            exact end_ S6 fun s7 J7 => ⟨_, _, _, J7, r6, q6⟩
        | false =>
          show wpAny _ X.A (handleBy (.ref a) X.env hds2) _ _ _
          exact ih (hno rfl)
    exact go hh w
  · cases f with
    | next =>
      obtain ⟨σ', H', J', q⟩ := hsp
      exact wpAny_execs_nil ⟨σ', H', J'.ofTry ok, q⟩
    | brk =>
      obtain ⟨σ', H', J', q⟩ := hsp
      exact ⟨σ', H', J'.ofTry ok, q⟩
    | cont =>
      obtain ⟨σ', H', J', q⟩ := hsp
      exact ⟨σ', H', J'.ofTry ok, q⟩
    | ret u =>
      obtain ⟨v, σ', H', J', r, q⟩ := hsp
      exact ⟨v, σ', H', J'.ofTry ok, r, q⟩
end
/-! ### calls that may raise, in a try -/
/-- of several defs that the slot may hold -/
structure HeldX (P : Program) (w : World) (K : PySem.W.Frag) (mg : Str → Option Value) (base : Heap) (k : Nat) (f : Addr) (sp : Sp) : Prop where
  ex : ∃ (fd : FuncData) (ps : List Str), FnOk P w K mg base (L2.CX P w) k f fd ps sp ∧ PySem.W.keepIn K (.ref f) = true ∧ Binds K fd ps []
def tCallAX (i : Nat) (S : Addr → Sp → Prop) (W : WX) (t : TA) : TE := fun σ H Q => ∃ f sp, σ[i]? = some (some (.ref f)) ∧ S f sp ∧ t σ H fun vs H1 => sp vs H1 Q (WE W σ)
section
variable {X : Cx} {k i : Nat} {x : Str} {p pos : Pos} {e : Expr} {es : List Expr} {t : TA} {W : WX}
theorem pe_callAX {S : Addr → Sp → Prop} (A : ∀ f sp, S f sp → HeldX X.prog X.w X.K X.mg X.base k f sp) (hr : Room k X.A) (hN : X.N[i]? = some x) (hv : Vis X.env.scope x) (tk : Takes X W) (ha : PA X (e :: es) t)
    (hdb : (x == ("__debug__" : Str)) = false := by decide) (hcd : (x == ("__classdict__" : Str)) = false := by decide)
    (he : starEach (e :: es) X.env = (false, eval e X.env) :: starEach es X.env := by rfl) (hpl : (backTo pos (starEach es X.env)).any (·.1) = false := by rfl) : PE X (.Call (.Name x p) (e :: es) [] pos) (tCallAX i S W t) := by
  refine ⟨fun pins s σ H Q I h => ?_⟩
  obtain ⟨f, sp, hs, hS, ht⟩ := h
  obtain ⟨fd, ps, F, hk, hb⟩ := (A f sp hS).ex
  refine wpAny_Call_Name_kw (thn ((pe_var (pos := p) hN hv hdb hcd).run pins s σ H (fun v H1 => v = .ref f ∧ H1 = H) I ⟨.ref f, hs, rfl, rfl⟩) fun u s1 ⟨v, H1, I1, r1, q1⟩ => ?_)
  obtain ⟨rfl, rfl⟩ := q1
  cases r1
  refine PySem.W.callWith_K (h₀ := X.base) I.ok.mod.kin hk (thn (ha.run pos pins s1 σ _ _ I1 ht) fun us s2 ⟨vs, H2, I2, r, q⟩ => ⟨I2.kIn, ?_⟩) he hpl
  exact run_fnS F hr hb (passAt tk σ) I2 r q
end
end FcX

set_option maxRecDepth 100000
set_option maxHeartbeats 4000000
namespace FcX
open PySem PySem.Spec PyProof.Rows L2 FcR
/-! ### making an object, and calling a method, where it may raise: one of several promises -/
section
variable {X : Cx} {k : Nat} {f C : Addr} {S : Sp → Prop} {W : WX} {x m : Str} {p pos apos : Pos} {e o : Expr} {es : List Expr} {ta : TE} {t : TA}
def tMakeS (C : Addr) (S : Sp → Prop) (W : WX) (t : TA) : TE := fun σ H Q => t σ H fun vs H1 => ∃ sp, S sp ∧ ∀ x dx, H1 x = none → H1 dx = none → dx ≠ x →
  sp (.ref x :: vs) (upd (upd H1 dx (.own x)) x (.ins C dx [])) (fun v H2 => v = .non ∧ Q (.ref x) H2) (WE W σ)
theorem run_makeS {pins : List (Addr × Obj)} {σ : L2.St} {H : Hp} {s : Shared} {Q : VK} {us : List Value} {vs : List V} {sp : Sp} (M : Mk X.K C f) (h0 : HeldX X.prog X.w X.K X.mg X.base k f sp) (hr : Room (k + 1) X.A)
    (tk : Takes X W) (I : Inv X pins σ H s) (r : Vals vs us)
    (h : ∀ x dx, H x = none → H dx = none → dx ≠ x → sp (.ref x :: vs) (upd (upd H dx (.own x)) x (.ins C dx [])) (fun v H2 => v = .non ∧ Q (.ref x) H2) (WE W σ)) :
    wpAny (model X.prog X.w) X.A (call (.ref C) us) (EP X pins σ Q) X.xe s := by
  obtain ⟨fd, ps, F, _, hb⟩ := h0.ex
  have hq := h (s.heap.objs.size + 1) s.heap.objs.size (I.hok.fresh (Nat.le_succ _)) (I.hok.fresh (Nat.le_refl _)) (Nat.ne_of_lt (Nat.lt_succ_self _))
  have I2 := Inv.made (C := C) I
  have r2 : Vals (V.ref (s.heap.objs.size + 1) :: vs) (Value.ref (s.heap.objs.size + 1) :: us) := .cons rfl r
  have hl : (Value.ref (s.heap.objs.size + 1) :: us).length = ps.length := by
    have e := r2.length
    rw [F.len _ _ _ _ hq] at e
    exact e.symm
  have hb' := hb { s with heap := (s.heap.push _).push _ } (Value.ref (s.heap.objs.size + 1) :: us) I2.kIn (by rw [List.append_nil]; exact hl)
  rw [List.append_nil] at hb'
  refine wpAny_call (make_map (f := f) I.kIn M.makes M.init (beq_iff_eq.mp M.fn) (codeAny_mono (F.run _ X.stack _ _ ⟨Value.ref (s.heap.objs.size + 1) :: us, []⟩ (Value.ref (s.heap.objs.size + 1) :: us) _ _ (WE W σ) (hr.make C us [])
    (I2.env0.make C us []) hb' r2 hq) fun r s' hq' => ?_))
  cases r with
  | error e => exact passAt tk σ pins _ _ e s' I2 hq'
  | ok fl =>
    cases fl with
    | ret u =>
      obtain ⟨v, H', I3, rv, ev, q3⟩ := I2.after hq'
      subst ev
      exact ⟨rv, ⟨V.ref (s.heap.objs.size + 1), H', I3, rfl, q3⟩⟩
    | next => exact False.elim hq'
    | brk => exact False.elim hq'
    | cont => exact False.elim hq'
theorem pe_makeS (A : ∀ sp, S sp → HeldX X.prog X.w X.K X.mg X.base k f sp) (M : Mk X.K C f) (hr : Room (k + 1) X.A) (hg : Gl X x) (hm : X.mg x = some (.ref C)) (tk : Takes X W)
    (ha : PA X (e :: es) t) (hdb : (x == ("__debug__" : Str)) = false := by decide) (he : starEach (e :: es) X.env = (false, eval e X.env) :: starEach es X.env := by rfl) (hpl : (backTo pos (starEach es X.env)).any (·.1) = false := by rfl) :
    PE X (.Call (.Name x p) (e :: es) [] pos) (tMakeS C S W t) := by
  refine ⟨fun pins s σ H Q I h => ?_⟩
  refine wpAny_Call_Name_kw (ld_glob I hg hm ?_ hdb)
  refine PySem.W.callWith_K (h₀ := X.base) I.ok.mod.kin M.kp (thn (ha.run pos pins s σ H _ I h) fun us s1 ⟨vs, H1, I1, r, q⟩ => ⟨I1.kIn, ?_⟩) he hpl
  obtain ⟨sp, hS, q⟩ := q
  exact run_makeS M (A sp hS) hr tk I1 r q
def tMethS (C : Addr) (m : Str) (S : Sp → Prop) (W : WX) (ta : TE) (t : TA) : TE := fun σ H Q => ta σ H fun x H1 => ∃ a dx fs, x = .ref a ∧ H1 a = some (.ins C dx fs) ∧ fs.lookup m = none ∧
  t σ H1 fun vs H2 => ∃ sp, S sp ∧ sp (x :: vs) H2 Q (WE W σ)
theorem pe_methS {pl : Sem Bool} (A : ∀ sp, S sp → HeldX X.prog X.w X.K X.mg X.base k f sp) (he : PE X o ta) (c : Cls X.K C) (hm : Meth X.K C m f) (hr : Room k X.A) (tk : Takes X W) (ha : PA X (e :: es) t)
    (hst : starEach (e :: es) X.env = (false, eval e X.env) :: starEach es X.env := by rfl) (hpl : (backTo pos (starEach es X.env)).any (·.1) = false := by rfl)
    (ht : eval (.Call (.Attribute o m apos) (e :: es) [] pos) X.env = (do
      let ov ← eval o X.env
      standAt apos.atName
      let (f, first) ← holding [ov] (getMethod ov m pl)
      callWith pos f first (backTo pos (starEach (e :: es) X.env)) (backToKw pos (keywordEach [] X.env))) := by rfl) :
    PE X (.Call (.Attribute o m apos) (e :: es) [] pos) (tMethS C m S W ta t) := by
  refine ⟨fun pins s σ H Q I h => ?_⟩
  refine PySem.W.methodCall_KW (pl := pl) (thn (he.run pins s σ H _ I h) fun u s1 ⟨x, H1, I1, rx, a, dx, fs, ex, ea, l, q⟩ => ?_) ht
  subst ex
  obtain rfl : u = Value.ref a := rx
  refine getmeth_ok I1 ea c hm l ?_
  refine PySem.W.callWith_K (first := [.ref a]) (h₀ := X.base) I.ok.mod.kin hm.kp (thn (ha.run pos pins s1 σ H1 _ I1 q) fun us s2 ⟨vs, H2, I2, r, q2⟩ => ⟨I2.kIn, ?_⟩) hst hpl
  obtain ⟨sp, hS, q2⟩ := q2
  obtain ⟨fd, ps, F, _, hb⟩ := (A sp hS).ex
  exact run_fnS (us := .ref a :: us) (vs := .ref a :: vs) F hr hb (passAt tk σ) I2 (.cons rfl r) q2
end
end FcX

set_option maxRecDepth 100000
set_option maxHeartbeats 4000000
namespace FcL
open PySem PySem.Spec PyProof.Rows L2 FcR FcX LamX NdefX
/-! ### promises that hold where no repr is under way -/
structure FnG (P : Program) (w : World) (K : PySem.W.Frag) (mg : Str → Option Value) (base : Heap) (k : Nat) (f : Addr) (fd : FuncData) (ps : List Str) (sp : Sp) : Prop where
  len : ∀ vs H Q E, sp vs H Q E → vs.length = ps.length
  run : ∀ (A : Around) (outer : List Env) (s : Shared) (H : Hp) (args : Args) (us : List Value) (vs : List V) (Q : VK) (E : XK), A.guards = some [] → Room k A → Env0 P w K mg base A outer s H → BindsTo s fd args (ps.zip us) → Vals vs us → sp vs H Q E →
    codeAny (model P w) A (.call (.ref f) args) (CR (L2.CX P w) outer P w H s Q E) s
theorem FnG.of {P : Program} {w : World} {K : PySem.W.Frag} {mg : Str → Option Value} {base : Heap} {k : Nat} {f : Addr} {fd : FuncData} {ps : List Str} {sp : Sp} (F : FnOk P w K mg base (L2.CX P w) k f fd ps sp) : FnG P w K mg base k f fd ps sp :=
  ⟨F.len, fun A outer s H args us vs Q E _ hr e0 b r h => F.run A outer s H args us vs Q E hr e0 b r h⟩
theorem FnG.mono {P : Program} {w : World} {K : PySem.W.Frag} {mg : Str → Option Value} {base : Heap} {j k : Nat} {f : Addr} {fd : FuncData} {ps : List Str} {sp : Sp} (F : FnG P w K mg base j f fd ps sp) (h : j ≤ k) : FnG P w K mg base k f fd ps sp :=
  ⟨F.len, fun A outer s H args us vs Q E hg hr => F.run A outer s H args us vs Q E hg (hr.mono h)⟩
def OkG (P : Program) (w : World) (K : PySem.W.Frag) (mg : Str → Option Value) (base : Heap) (k : Nat) (at_ : Str × Option Str) (ps : List Str) (sp : Sp) : Prop :=
  ∃ fd, FnG P w K mg base k (He.fAd K at_) fd ps sp ∧ Binds K fd ps [] ∧ PySem.W.keepIn K (.ref (He.fAd K at_)) = true
section
variable {P : Program} {w : World} {K : PySem.W.Frag} {mg : Str → Option Value} {base : Heap} {x qual : Str} {params : Arguments} {body : List Stmt} {scope : Scope} {dvs : List V} {kws : List (Str × V)} {fd : FuncData} {at_ : Str × Option Str}
/-- such a def: its body knows the guards, and its code object -/
theorem okG {N ps : List Str} {k : Nat} {sp : Sp} (F : FunD K x qual params body scope dvs kws (He.fAd K at_) fd) (S : FnScope N ps scope) (len : ∀ vs H Q E, sp vs H Q E → vs.length = ps.length)
    (hbody : ∀ (cdv : Value) (A : Around) (outer : List Env) (s : Shared) (H : Hp) (vs : List V) (Q : VK) (E : XK), A.guards = some [] → cdv = .ref (He.codeOf K at_) → Room k (A.deeper (envOfC qual scope s.heap.objs.size (He.fAd K at_) cdv)) → sp vs H Q E →
      ∃ t, PSs (cxOf (L2.CX P w) P w K mg base N qual scope (He.fAd K at_) cdv A outer s H E) body t ∧ t { nx := fun _ H' => Q .non H', rt := Q } (start N vs) H) : FnG P w K mg base (k + 1) (He.fAd K at_) fd ps sp := by
  obtain ⟨oc, od, dV, kV, doc, pm, an, cdv, ct, osl, rfl, lk, hcd, _, _⟩ := F.ex
  obtain ⟨c, rfl⟩ := He.codeIn_ref hcd
  refine ⟨len, fun A outer s H args us vs Q E hg hr e0 hb r hsp => run_ofS lk hcd S hr e0 hb r (len _ _ _ _ hsp) fun hr' => ?_⟩
  exact hbody (.ref c) A outer s H vs Q E hg (by rw [He.codeOf_eq lk rfl]) hr' hsp
end
section
variable {X : Cx} {k : Nat} {f : Addr} {fd : FuncData} {ps : List Str} {sp : Sp} {x : Str} {p pos : Pos} {e : Expr} {es : List Expr} {t : TA}
theorem run_fnG {pins : List (Addr × Obj)} {σ : L2.St} {H : Hp} {s : Shared} {Q : VK} {us : List Value} {vs : List V} {base' : Heap} (F : FnG X.prog X.w X.K X.mg base' k f fd ps sp) (hg : X.A.guards = some []) (hr : Room k X.A) (hb : Binds X.K fd ps [])
    (e0 : Env0 X.prog X.w X.K X.mg base' X.A X.stack s H) (I : Inv X pins σ H s) (r : Vals vs us) (h : sp vs H Q (fun _ _ _ => False)) : wpAny (model X.prog X.w) X.A (call (.ref f) us) (EP X pins σ Q) X.xe s := by
  have hl : us.length = ps.length := by rw [← r.length]; exact F.len _ _ _ _ h
  have b := hb s us I.kIn (by rw [List.append_nil]; exact hl)
  rw [List.append_nil] at b
  refine wpAny_call (codeAny_mono (F.run X.A X.stack s H ⟨us, []⟩ us vs Q _ hg hr e0 b r h) fun r s' h' => ?_)
  cases r with
  | error e =>
    obtain ⟨_, _, _, _, _, _, _, _, _, _, _, _, z⟩ := h'
    exact z.elim
  | ok fl =>
    cases fl with
    | ret u => exact I.after h'
    | next => exact False.elim h'
    | brk => exact False.elim h'
    | cont => exact False.elim h'
/-- f(..), f such a def -/
theorem pe_callGd (F : FnG X.prog X.w X.K X.mg X.base k f fd ps sp) (hgd : X.A.guards = some []) (hr : Room k X.A) (hg : Gl X x) (hm : X.mg x = some (.ref f)) (hk : PySem.W.keepIn X.K (.ref f) = true) (hb : Binds X.K fd ps [])
    (ha : PA X (e :: es) t) (hdb : (x == ("__debug__" : Str)) = false := by decide) (he : starEach (e :: es) X.env = (false, eval e X.env) :: starEach es X.env := by rfl) (hpl : (backTo pos (starEach es X.env)).any (·.1) = false := by rfl) :
    PE X (.Call (.Name x p) (e :: es) [] pos) (tCall sp [] (fun _ _ _ => False) t) := by
  refine ⟨fun pins s σ H Q I h => ?_⟩
  refine wpAny_Call_Name_kw (ld_glob I hg hm ?_ hdb)
  refine PySem.W.callWith_K (h₀ := X.base) I.ok.mod.kin hk (thn (ha.run pos pins s σ H _ I h) fun us s1 ⟨vs, H1, I1, r, q⟩ => ⟨I1.kIn, ?_⟩) he hpl
  have q : sp (vs ++ []) H1 Q (fun _ _ _ => False) := q
  rw [List.append_nil] at q
  exact run_fnG F hgd hr hb I1.env0 I1 r q
end
/-! ### the tables of the defs that make lambdas -/
def tabsN (K : PySem.W.Frag) (tf : List He.Defn) : Bool := decide (tf.map fun p => (He.cT K p).2).Nodup
def lamQ (p : He.Defn) : Str := (p.1 ++ ".<locals>.") ++ "<lambda>"
def tabT (K : PySem.W.Frag) (tf : List He.Defn) : List (Addr × Str) := tf.map fun p => ((He.cT K p).2, lamQ p)
theorem tabT_m {K : PySem.W.Frag} {tf : List He.Defn} {i : Nat} {p : He.Defn} (h : tf[i]? = some p) : ((He.cT K p).2, lamQ p) ∈ tabT K tf := List.mem_map.mpr ⟨p, List.mem_of_getElem? h, rfl⟩
theorem tabT_u {K : PySem.W.Frag} {tf : List He.Defn} (nd : tabsN K tf = true) {i : Nat} {p : He.Defn} (h : tf[i]? = some p) : ∀ q ∈ tabT K tf, q.1 = (He.cT K p).2 → q.2 = lamQ p := fun q hq e => by
  obtain ⟨p', hp', rfl⟩ := List.mem_map.mp hq
  obtain ⟨j, hj⟩ := List.mem_iff_getElem?.mp hp'
  have nd := of_decide_eq_true nd
  have e1 : (tf.map fun p => (He.cT K p).2)[i]? = some (He.cT K p).2 := by rw [List.getElem?_map, h] <;> rfl
  have e2 : (tf.map fun p => (He.cT K p).2)[j]? = some (He.cT K p).2 := by rw [List.getElem?_map, hj, ← e] <;> rfl
  have ij := (List.getElem?_inj (List.getElem?_eq_some_iff.mp e1).1 nd).mp (e1.trans e2.symm)
  rw [← ij, h] at hj
  rw [Option.some.inj hj]
/-! ### the end of a law whose defs make lambdas, or look at texts by repr -/
def TabG (K : PySem.W.Frag) (base : Heap) (mg : Str → Option Value) (tf : List He.Defn) : Prop := ∀ p ∈ tf, TabB base mg (He.cT K p).1 (He.cT K p).2
theorem law_callG {P : Program} {w : World} {K : PySem.W.Frag} {mg mb : Str → Option Value} {k : Nat} {fa a : Addr} {cs : List (Addr × Addr)} {fd : FuncData} {x : Str} {sp : Sp} {s₁ : Shared} {vs : List Value} {ns : List Int}
    (KX : K.In s₁.heap) (hns : s₁.heap.Ns mainGlobals mg) (hb : s₁.heap.Ns builtinsNs mb) (hbb : ∀ x : Str, x ≠ "__name__" → mb x = bootBuiltins x) (hlim : s₁.heap.NoLimit) (hg : s₁.gens = #[])
    (hT : ∀ p ∈ cs, s₁.heap.get? p.2 = some { cls := .none, data := .fields #[] }) (nT : ∀ p ∈ cs, K.lookup p.2 = none) (C : ∀ p ∈ cs, PySem.W.CodeHd s₁.heap p.1 p.2)
    (hbm : ∃ (bm : Addr) (ob : Obj), mg "__builtins__" = some (.ref bm) ∧ bm ≠ builtinsNs ∧ s₁.heap.get? bm = some ob ∧ ob.cls = .type "module" ∧ ob.dict = some builtinsNs ∧ ob.data = .plain)
    (ha : s₁.heap.get? a = some { cls := .type "list", data := .seq vs.toArray }) (hi : IntsAre vs ns) (hl : ns.length ≤ sizeLine) (hr : Room k callerA)
    (F : ∀ base : Heap, K.In base → (∀ p ∈ cs, TabB base mg p.1 p.2) → FnG P w K mg base k fa fd [x] sp) (hbind : ∀ (s : Shared) (u : Value), BindsTo s fd ⟨[u], []⟩ [(x, u)])
    (hsp : ∀ H : Hp, (∀ p ∈ cs, H p.2 = some (.tbl #[])) → SqL K H a (ns.map V.int) → sp [.ref a] H (fun v _ => v = .bl true) fun _ _ _ => False) :
    codeAny (model P w) callerA (.call (.ref fa) ⟨[.ref a], []⟩) (fun r s' => r = .ok (.ret (.bool true)) ∧ OldK s₁.heap s'.heap ∧ s'.os = s₁.os ∧ AllBare s'.gens) s₁ := by
  classical
  let oa : Obj := { cls := .type "list", data := .seq vs.toArray }
  let Tb : Addr → Prop := fun b => ∃ p ∈ cs, p.2 = b
  let Sc : Addr → Prop := fun b => b = a ∧ K.lookup a = none
  let H : Hp := fun b => if Tb b then some (.tbl #[]) else if Sc b then some (.frz oa (.lst (ns.map V.int))) else none
  have tT : ∀ b, Tb b → s₁.heap.get? b = some { cls := .none, data := .fields #[] } := fun b ⟨p, hp, e⟩ => e ▸ hT p hp
  have nTa : ¬ Tb a := fun z => by
    have q := tT a z
    rw [ha] at q
    have z' : Data.seq vs.toArray _ = Data.fields #[] := congrArg Obj.data (Option.some.inj q)
    cases z'
  have hTb : ∀ b, Tb b → H b = some (.tbl #[]) := fun b z => if_pos z
  have hSc : K.lookup a = none → H a = some (.frz oa (.lst (ns.map V.int))) := fun z => (if_neg nTa).trans (if_pos ⟨rfl, z⟩)
  have inv : ∀ b, H b = none ∨ (Tb b ∧ H b = some (.tbl #[])) ∨ (Sc b ∧ H b = some (.frz oa (.lst (ns.map V.int)))) := fun b => by
    by_cases h1 : Tb b
    · exact .inr (.inl ⟨h1, hTb b h1⟩)
    · by_cases h2 : Sc b
      · exact .inr (.inr ⟨h2, (if_neg h1).trans (if_pos h2)⟩)
      · exact .inl ((if_neg h1).trans (if_neg h2))
  have none_of : ∀ {b : Addr} {o : Obj}, s₁.heap.get? b = some o → (∀ vs n, o.data ≠ .seq vs n) → o.data ≠ .fields #[] → H b = none := fun {b o} e n1 n2 => by
    rcases inv b with z | ⟨z, _⟩ | ⟨z, _⟩
    · exact z
    · rw [tT b z] at e
      cases e
      exact absurd rfl n2
    · rw [z.1, ha] at e
      cases e
      exact absurd rfl (n1 _ _)
  have rv := vals_ints hi
  have lenV := hi.length
  have hok : HOk P w H s₁.heap := fun b o e => by
    rcases inv b with z | ⟨z, q⟩ | ⟨z, q⟩
    · rw [z] at e
      cases e
    · rw [q] at e
      cases e
      exact tT b z
    · rw [q] at e
      cases e
      rw [z.1]
      exact ⟨ha, by rw [List.length_map]; exact hl, vs, _, rv, ha⟩
  have hS : SqL K H a (ns.map V.int) := by
    cases q : K.lookup a with
    | none => exact .inl (.inr ⟨oa, hSc q⟩)
    | some o =>
      have e := KX a o q
      rw [ha] at e
      cases e
      exact .inr ⟨_, vs.toArray, _, q, rfl, rfl, rfl, by rw [List.size_toArray, lenV]; exact hl, by simpa using rv⟩
  have up : ∀ {b : Addr} {o : Obj}, s₁.heap.get? b = some o → H b = none → (hidT s₁.heap H).get? b = some o := fun e n => hidT_get e n
  have nsK : ∀ {b : Addr} {m : Str → Option Value}, s₁.heap.Ns b m → (hidT s₁.heap H).Ns b m := fun {b m} ⟨o, es, ep, e, d, r⟩ => ⟨o, es, ep, up e (none_of e (fun _ _ z => by rw [d] at z; cases z) fun z => by rw [d] at z; cases z), d, r⟩
  have hKb : K.In (hidT s₁.heap H) := fun b o e => up (KX b o e) (by
    rcases inv b with z | ⟨⟨p, hp, z⟩, _⟩ | ⟨z, _⟩
    · exact z
    · rw [← z, nT p hp] at e
      cases e
    · rw [z.1, z.2] at e
      cases e)
  have hM : L2.Mod K mg (hidT s₁.heap H) := ⟨hKb, nsK hns, ⟨mb, nsK hb, hbb⟩, let ⟨mc, h1, h2⟩ := hlim; ⟨mc, nsK h1, h2⟩⟩
  have TB : ∀ p ∈ cs, TabB (hidT s₁.heap H) mg p.1 p.2 := fun p hp => by
    have notP : ∀ {b : Addr} {o : Obj}, s₁.heap.get? b = some o → o.data ≠ .fields #[] → b ≠ p.2 := fun {b o} e n z => by
      rw [z, hT p hp] at e
      cases e
      exact n rfl
    obtain ⟨og, eg, pg, e1, d1, _⟩ := id hns
    obtain ⟨bm, ob, b1, b2, b3, b4, b5, b6⟩ := hbm
    refine ⟨?_, ⟨bm, ob, b1, b2, fun z => ?_, notP b3 (by rw [b6]; exact fun z => by cases z), up b3 (none_of b3 (fun _ _ z => by rw [b6] at z; cases z) fun z => by rw [b6] at z; cases z), b4, b5, b6⟩, notP e1 fun z => by rw [d1] at z; cases z⟩
    · obtain ⟨o, us, file, tf, flags, tg, inF, text, tt, e1, r1, r2, r3, r4, r5, r6, r7, r8, hne⟩ := C p hp
      refine ⟨o, us, file, tf, flags, tg, inF, text, tt, up e1 (none_of e1 (fun _ _ z => by rw [r2] at z; cases z) fun z => ?_), r1, r2, r3, r4, r5, r6, r7, r8, hne⟩
      rw [r2] at z
      cases z
      simp at r3
    · rw [z, e1] at b3
      cases b3
      rw [d1] at b6
      cases b6
  have e0 : Env0 P w K mg (hidT s₁.heap H) callerA [] s₁ H := ⟨rfl, hM, fun b o e => of_hidT e, Nat.le_of_eq (hidT_size _ _), trivial, fun b hb => absurd (show b ∈ ([] : List Addr) from hb) (by simp), hok, .of_eq hg⟩
  refine codeAny_mono ((F _ hKb TB).run callerA [] s₁ H ⟨[.ref a], []⟩ [.ref a] [.ref a] _ _ rfl hr e0 (hbind s₁ (.ref a)) (.cons rfl .nil) (hsp H (fun p hp => hTb p.2 ⟨p, hp, rfl⟩) hS)) fun r s' h => ?_
  cases r with
  | error e =>
    obtain ⟨_, _, _, _, _, _, _, _, _, _, _, _, z⟩ := h
    exact z.elim
  | ok fl =>
    cases fl with
    | next => exact False.elim h
    | brk => exact False.elim h
    | cont => exact False.elim h
    | ret u =>
      obtain ⟨v, H', os, bare, un, hok', r', rfl⟩ := h
      obtain rfl : u = Value.bool true := r'
      have stays : ∀ b o, ¬ Tb b → s₁.heap.get? b = some o → s'.heap.get? b = some o := fun b o nb e => by
        rcases inv b with z | ⟨z, _⟩ | ⟨z, q⟩
        · exact un.keep b o e z (fun z => absurd (show b ∈ ([] : List Addr) from z) (by simp)) (by simp)
        · exact absurd z nb
        · obtain ⟨e2, _⟩ := hok' b _ (un.frzs b _ _ q)
          rw [z.1, ha] at e
          cases e
          exact e2
      have grown : ∀ p ∈ cs, ∃ more : Array Value, s'.heap.get? p.2 = some { cls := .none, data := .fields more } := fun p hp => by
        obtain ⟨more, z⟩ := un.tbls p.2 #[] (hTb p.2 ⟨p, hp, rfl⟩)
        exact ⟨_, hok' p.2 _ z⟩
      refine ⟨rfl, ⟨fun b o e => ?_, fun b o e => ?_⟩, os, bare⟩
      all_goals by_cases z : Tb b
      · obtain ⟨p, hp, rfl⟩ := z
        obtain ⟨more, hm⟩ := grown p hp
        rw [hT p hp] at e
        cases e
        exact .inr (.inl ⟨((C p hp).tab (hT p hp)).isCodeTable, rfl, #[], more, rfl, by rw [Array.empty_append]; exact hm⟩)
      · exact .inl (stays b o z e)
      · obtain ⟨p, hp, rfl⟩ := z
        obtain ⟨more, hm⟩ := grown p hp
        exact ⟨_, hm⟩
      · exact ⟨o, stays b o z e⟩
theorem walk_ofG {l : PySem.W.OpenLaw} {n k : Nat} {q : Program} {loose : List Str} {XP : (Str → Option Value) → Heap → Prop} {YP : World → Heap → Prop} {d : DefRec} {x : Str} (hn : l.most = some n) (hn2 : n ≤ sizeLine) (hdf : d.params.defaults = []) (hr : Room k callerA)
    (F : ∀ (w : World) (mg : Str → Option Value) (fa : Addr) (h : Heap), YP w h → h.Ns mainGlobals mg → mg d.name = some (.ref fa) → ∃ (K : PySem.W.Frag) (cs : List (Addr × Addr)) (fd : FuncData) (sp : Sp), K.In h ∧
      (∀ p ∈ cs, h.get? p.2 = some { cls := .none, data := .fields #[] }) ∧ (∀ p ∈ cs, K.lookup p.2 = none) ∧ (∀ p ∈ cs, PySem.W.CodeHd h p.1 p.2) ∧ (∀ (s : Shared) (u : Value), BindsTo s fd ⟨[u], []⟩ [(x, u)]) ∧
      (∀ (H : Hp) (a : Addr) (ns : List Int), ns.length ≤ n → (∀ p ∈ cs, H p.2 = some (.tbl #[])) → SqL K H a (ns.map V.int) → sp [.ref a] H (fun v _ => v = .bl true) fun _ _ _ => False) ∧
      ∀ base : Heap, K.In base → (∀ p ∈ cs, TabB base mg p.1 p.2) → FnG l.prog w K mg base k fa fd [x] sp) :
    PySem.W.WalkO q loose XP YP l.row.toRowW d [] (fun f vs => PySem.call f vs) := by
  refine Att.attach_callB hn hdf fun w s₀ s₁ mg mb fa o pm cd doc a vs ns G Y ho hd hcd hmg hobj hints hlen hbits hg => ?_
  obtain ⟨K, cs, fd, sp, KX, hT, nT, C, hb, hsp, hF⟩ := F w mg fa _ Y G.T.g hmg
  exact law_callG KX G.T.g G.T.b G.T.builtins G.T.nolimit hg hT nT C G.T.bmain hobj hints (Nat.le_trans hlen hn2) hr hF hb fun H hH hS => hsp H a ns hlen hH hS
end FcL

set_option maxRecDepth 100000
set_option maxHeartbeats 0

namespace Fc
open PySem PySem.Spec PyProof.Rows L2
def topS (i : Nat) : Stmt := PySem.Challenge.pw_finallycopies_k76_sessions_refuse.main.body.getD i (.Pass ⟨0, 0, 0, 0⟩)
abbrev sd_InvalidCode___init__ : Stmt := inClass (topS 3) 0
def d_InvalidCode___init__ : He.DefD := ⟨("InvalidCode", some "__init__"), "__init__", "InvalidCode.__init__", defArgs sd_InvalidCode___init__, defBody sd_InvalidCode___init__, defScope sd_InvalidCode___init__, [], []⟩
abbrev sd_InvalidNumber___init__ : Stmt := inClass (topS 4) 0
def d_InvalidNumber___init__ : He.DefD := ⟨("InvalidNumber", some "__init__"), "__init__", "InvalidNumber.__init__", defArgs sd_InvalidNumber___init__, defBody sd_InvalidNumber___init__, defScope sd_InvalidNumber___init__, [], []⟩
abbrev sd_InvalidAnswers___init__ : Stmt := inClass (topS 5) 0
def d_InvalidAnswers___init__ : He.DefD := ⟨("InvalidAnswers", some "__init__"), "__init__", "InvalidAnswers.__init__", defArgs sd_InvalidAnswers___init__, defBody sd_InvalidAnswers___init__, defScope sd_InvalidAnswers___init__, [], []⟩
abbrev sd_InvalidBound___init__ : Stmt := inClass (topS 6) 0
def d_InvalidBound___init__ : He.DefD := ⟨("InvalidBound", some "__init__"), "__init__", "InvalidBound.__init__", defArgs sd_InvalidBound___init__, defBody sd_InvalidBound___init__, defScope sd_InvalidBound___init__, [], []⟩
abbrev sd_NotWaiting___init__ : Stmt := inClass (topS 7) 0
def d_NotWaiting___init__ : He.DefD := ⟨("NotWaiting", some "__init__"), "__init__", "NotWaiting.__init__", defArgs sd_NotWaiting___init__, defBody sd_NotWaiting___init__, defScope sd_NotWaiting___init__, [], []⟩
abbrev sd_LimitExceeded___init__ : Stmt := inClass (topS 8) 0
def d_LimitExceeded___init__ : He.DefD := ⟨("LimitExceeded", some "__init__"), "__init__", "LimitExceeded.__init__", defArgs sd_LimitExceeded___init__, defBody sd_LimitExceeded___init__, defScope sd_LimitExceeded___init__, [], []⟩
abbrev sd_is_integer : Stmt := topS 10
def d_is_integer : He.DefD := ⟨("is_integer", none), "is_integer", "is_integer", defArgs sd_is_integer, defBody sd_is_integer, defScope sd_is_integer, [], []⟩
abbrev sd_is_between : Stmt := topS 11
def d_is_between : He.DefD := ⟨("is_between", none), "is_between", "is_between", defArgs sd_is_between, defBody sd_is_between, defScope sd_is_between, [], []⟩
abbrev sd_is_name : Stmt := topS 49
def d_is_name : He.DefD := ⟨("is_name", none), "is_name", "is_name", defArgs sd_is_name, defBody sd_is_name, defScope sd_is_name, [], []⟩
abbrev sd_is_statement : Stmt := topS 50
def d_is_statement : He.DefD := ⟨("is_statement", none), "is_statement", "is_statement", defArgs sd_is_statement, defBody sd_is_statement, defScope sd_is_statement, [], []⟩
abbrev sd_parts_in : Stmt := topS 51
def d_parts_in : He.DefD := ⟨("parts_in", none), "parts_in", "parts_in", defArgs sd_parts_in, defBody sd_parts_in, defScope sd_parts_in, [], []⟩
abbrev sd_Code___init__ : Stmt := inClass (topS 52) 0
def d_Code___init__ : He.DefD := ⟨("Code", some "__init__"), "__init__", "Code.__init__", defArgs sd_Code___init__, defBody sd_Code___init__, defScope sd_Code___init__, [], []⟩
abbrev sd_Code_check : Stmt := inClass (topS 52) 1
def d_Code_check : He.DefD := ⟨("Code", some "check"), "check", "Code.check", defArgs sd_Code_check, defBody sd_Code_check, defScope sd_Code_check, [], []⟩
abbrev sd_Code_keep : Stmt := inClass (topS 52) 2
def d_Code_keep : He.DefD := ⟨("Code", some "keep"), "keep", "Code.keep", defArgs sd_Code_keep, defBody sd_Code_keep, defScope sd_Code_keep, [], []⟩
abbrev sd_Code___eq__ : Stmt := inClass (topS 52) 3
def d_Code___eq__ : He.DefD := ⟨("Code", some "__eq__"), "__eq__", "Code.__eq__", defArgs sd_Code___eq__, defBody sd_Code___eq__, defScope sd_Code___eq__, [], []⟩
abbrev sd_Code___len__ : Stmt := inClass (topS 52) 4
def d_Code___len__ : He.DefD := ⟨("Code", some "__len__"), "__len__", "Code.__len__", defArgs sd_Code___len__, defBody sd_Code___len__, defScope sd_Code___len__, [], []⟩
abbrev sd_Code___getitem__ : Stmt := inClass (topS 52) 5
def d_Code___getitem__ : He.DefD := ⟨("Code", some "__getitem__"), "__getitem__", "Code.__getitem__", defArgs sd_Code___getitem__, defBody sd_Code___getitem__, defScope sd_Code___getitem__, [], []⟩
abbrev sd_Code___iter__ : Stmt := inClass (topS 52) 6
def d_Code___iter__ : He.DefD := ⟨("Code", some "__iter__"), "__iter__", "Code.__iter__", defArgs sd_Code___iter__, defBody sd_Code___iter__, defScope sd_Code___iter__, [], []⟩
abbrev sd_Code_check_number : Stmt := inClass (topS 52) 7
def d_Code_check_number : He.DefD := ⟨("Code", some "check_number"), "check_number", "Code.check_number", defArgs sd_Code_check_number, defBody sd_Code_check_number, defScope sd_Code_check_number, [], []⟩
abbrev sd_Code_is_place : Stmt := inClass (topS 52) 8
def d_Code_is_place : He.DefD := ⟨("Code", some "is_place"), "is_place", "Code.is_place", defArgs sd_Code_is_place, defBody sd_Code_is_place, defScope sd_Code_is_place, [], []⟩
abbrev sd_Code_check_place : Stmt := inClass (topS 52) 9
def d_Code_check_place : He.DefD := ⟨("Code", some "check_place"), "check_place", "Code.check_place", defArgs sd_Code_check_place, defBody sd_Code_check_place, defScope sd_Code_check_place, [], []⟩
abbrev sd_Code_kind : Stmt := inClass (topS 52) 10
def d_Code_kind : He.DefD := ⟨("Code", some "kind"), "kind", "Code.kind", defArgs sd_Code_kind, defBody sd_Code_kind, defScope sd_Code_kind, [], []⟩
abbrev sd_Code_parent : Stmt := inClass (topS 52) 11
def d_Code_parent : He.DefD := ⟨("Code", some "parent"), "parent", "Code.parent", defArgs sd_Code_parent, defBody sd_Code_parent, defScope sd_Code_parent, [], []⟩
abbrev sd_Code_parts : Stmt := inClass (topS 52) 12
def d_Code_parts : He.DefD := ⟨("Code", some "parts"), "parts", "Code.parts", defArgs sd_Code_parts, defBody sd_Code_parts, defScope sd_Code_parts, [], []⟩
abbrev sd_Code_places : Stmt := inClass (topS 52) 13
def d_Code_places : He.DefD := ⟨("Code", some "places"), "places", "Code.places", defArgs sd_Code_places, defBody sd_Code_places, defScope sd_Code_places, [], []⟩
abbrev sd_Code_entry : Stmt := inClass (topS 52) 14
def d_Code_entry : He.DefD := ⟨("Code", some "entry"), "entry", "Code.entry", defArgs sd_Code_entry, defBody sd_Code_entry, defScope sd_Code_entry, [], []⟩
abbrev sd_Code_entry_of : Stmt := inClass (topS 52) 15
def d_Code_entry_of : He.DefD := ⟨("Code", some "entry_of"), "entry_of", "Code.entry_of", defArgs sd_Code_entry_of, defBody sd_Code_entry_of, defScope sd_Code_entry_of, [], []⟩
abbrev sd_Code_layers : Stmt := inClass (topS 52) 16
def d_Code_layers : He.DefD := ⟨("Code", some "layers"), "layers", "Code.layers", defArgs sd_Code_layers, defBody sd_Code_layers, defScope sd_Code_layers, [], []⟩
abbrev sd_Code_layers_of : Stmt := inClass (topS 52) 17
def d_Code_layers_of : He.DefD := ⟨("Code", some "layers_of"), "layers_of", "Code.layers_of", defArgs sd_Code_layers_of, defBody sd_Code_layers_of, defScope sd_Code_layers_of, [], []⟩
abbrev sd_Run___init__ : Stmt := inClass (topS 58) 0
def d_Run___init__ : He.DefD := ⟨("Run", some "__init__"), "__init__", "Run.__init__", defArgs sd_Run___init__, defBody sd_Run___init__, defScope sd_Run___init__, [], []⟩
abbrev sd_Run___eq__ : Stmt := inClass (topS 58) 1
def d_Run___eq__ : He.DefD := ⟨("Run", some "__eq__"), "__eq__", "Run.__eq__", defArgs sd_Run___eq__, defBody sd_Run___eq__, defScope sd_Run___eq__, [], []⟩
abbrev sd_Run_facts : Stmt := inClass (topS 58) 2
def d_Run_facts : He.DefD := ⟨("Run", some "facts"), "facts", "Run.facts", defArgs sd_Run_facts, defBody sd_Run_facts, defScope sd_Run_facts, [], []⟩
abbrev sd_way_of : Stmt := topS 59
def d_way_of : He.DefD := ⟨("way_of", none), "way_of", "way_of", defArgs sd_way_of, defBody sd_way_of, defScope sd_way_of, [], []⟩
abbrev sd_Walker___init__ : Stmt := inClass (topS 60) 0
def d_Walker___init__ : He.DefD := ⟨("Walker", some "__init__"), "__init__", "Walker.__init__", defArgs sd_Walker___init__, defBody sd_Walker___init__, defScope sd_Walker___init__, [], []⟩
abbrev sd_Walker_is_waiting : Stmt := inClass (topS 60) 1
def d_Walker_is_waiting : He.DefD := ⟨("Walker", some "is_waiting"), "is_waiting", "Walker.is_waiting", defArgs sd_Walker_is_waiting, defBody sd_Walker_is_waiting, defScope sd_Walker_is_waiting, [], []⟩
abbrev sd_Walker_leave : Stmt := inClass (topS 60) 2
def d_Walker_leave : He.DefD := ⟨("Walker", some "leave"), "leave", "Walker.leave", defArgs sd_Walker_leave, defBody sd_Walker_leave, defScope sd_Walker_leave, [], []⟩
abbrev sd_Walker_do_place : Stmt := inClass (topS 60) 3
def d_Walker_do_place : He.DefD := ⟨("Walker", some "do_place"), "do_place", "Walker.do_place", defArgs sd_Walker_do_place, defBody sd_Walker_do_place, defScope sd_Walker_do_place, [], []⟩
abbrev sd_Walker_go_on : Stmt := inClass (topS 60) 4
def d_Walker_go_on : He.DefD := ⟨("Walker", some "go_on"), "go_on", "Walker.go_on", defArgs sd_Walker_go_on, defBody sd_Walker_go_on, defScope sd_Walker_go_on, [], []⟩
abbrev sd_Walker_answer : Stmt := inClass (topS 60) 5
def d_Walker_answer : He.DefD := ⟨("Walker", some "answer"), "answer", "Walker.answer", defArgs sd_Walker_answer, defBody sd_Walker_answer, defScope sd_Walker_answer, [], []⟩
abbrev sd_Walker_moment : Stmt := inClass (topS 60) 6
def d_Walker_moment : He.DefD := ⟨("Walker", some "moment"), "moment", "Walker.moment", defArgs sd_Walker_moment, defBody sd_Walker_moment, defScope sd_Walker_moment, [], []⟩
abbrev sd_check_answers : Stmt := topS 61
def d_check_answers : He.DefD := ⟨("check_answers", none), "check_answers", "check_answers", defArgs sd_check_answers, defBody sd_check_answers, defScope sd_check_answers, [], []⟩
abbrev sd_run : Stmt := topS 62
def d_run : He.DefD := ⟨("run", none), "run", "run", defArgs sd_run, defBody sd_run, defScope sd_run, [], []⟩
abbrev sd_Session___init__ : Stmt := inClass (topS 68) 0
def d_Session___init__ : He.DefD := ⟨("Session", some "__init__"), "__init__", "Session.__init__", defArgs sd_Session___init__, defBody sd_Session___init__, defScope sd_Session___init__, [], []⟩
abbrev sd_Session_begin : Stmt := inClass (topS 68) 1
def d_Session_begin : He.DefD := ⟨("Session", some "begin"), "begin", "Session.begin", defArgs sd_Session_begin, defBody sd_Session_begin, defScope sd_Session_begin, [], []⟩
abbrev sd_Session___eq__ : Stmt := inClass (topS 68) 2
def d_Session___eq__ : He.DefD := ⟨("Session", some "__eq__"), "__eq__", "Session.__eq__", defArgs sd_Session___eq__, defBody sd_Session___eq__, defScope sd_Session___eq__, [], []⟩
abbrev sd_Session_code : Stmt := inClass (topS 68) 3
def d_Session_code : He.DefD := ⟨("Session", some "code"), "code", "Session.code", defArgs sd_Session_code, defBody sd_Session_code, defScope sd_Session_code, [], []⟩
abbrev sd_Session_answers : Stmt := inClass (topS 68) 4
def d_Session_answers : He.DefD := ⟨("Session", some "answers"), "answers", "Session.answers", defArgs sd_Session_answers, defBody sd_Session_answers, defScope sd_Session_answers, [], []⟩
abbrev sd_Session_places : Stmt := inClass (topS 68) 5
def d_Session_places : He.DefD := ⟨("Session", some "places"), "places", "Session.places", defArgs sd_Session_places, defBody sd_Session_places, defScope sd_Session_places, [], []⟩
abbrev sd_Session_now : Stmt := inClass (topS 68) 6
def d_Session_now : He.DefD := ⟨("Session", some "now"), "now", "Session.now", defArgs sd_Session_now, defBody sd_Session_now, defScope sd_Session_now, [], []⟩
abbrev sd_Session_address : Stmt := inClass (topS 68) 7
def d_Session_address : He.DefD := ⟨("Session", some "address"), "address", "Session.address", defArgs sd_Session_address, defBody sd_Session_address, defScope sd_Session_address, [], []⟩
abbrev sd_Session_answer : Stmt := inClass (topS 68) 8
def d_Session_answer : He.DefD := ⟨("Session", some "answer"), "answer", "Session.answer", defArgs sd_Session_answer, defBody sd_Session_answer, defScope sd_Session_answer, [], []⟩
abbrev sd_Session_undo : Stmt := inClass (topS 68) 9
def d_Session_undo : He.DefD := ⟨("Session", some "undo"), "undo", "Session.undo", defArgs sd_Session_undo, defBody sd_Session_undo, defScope sd_Session_undo, [], []⟩
abbrev sd_law_cell_at : Stmt := topS 70
def d_law_cell_at : He.DefD := ⟨("_law_cell_at", none), "_law_cell_at", "_law_cell_at", defArgs sd_law_cell_at, defBody sd_law_cell_at, defScope sd_law_cell_at, [], []⟩
abbrev sd_law_source_of : Stmt := topS 71
def d_law_source_of : He.DefD := ⟨("_law_source_of", none), "_law_source_of", "_law_source_of", defArgs sd_law_source_of, defBody sd_law_source_of, defScope sd_law_source_of, [], []⟩
abbrev sd_law_draw : Stmt := topS 72
def d_law_draw : He.DefD := ⟨("_law_draw", none), "_law_draw", "_law_draw", defArgs sd_law_draw, defBody sd_law_draw, defScope sd_law_draw, [], []⟩
abbrev sd_law_one : Stmt := topS 73
def d_law_one : He.DefD := ⟨("_law_one", none), "_law_one", "_law_one", defArgs sd_law_one, defBody sd_law_one, defScope sd_law_one, [], []⟩
abbrev sd_law_leaf : Stmt := topS 74
def d_law_leaf : He.DefD := ⟨("_law_leaf", none), "_law_leaf", "_law_leaf", defArgs sd_law_leaf, defBody sd_law_leaf, defScope sd_law_leaf, [], []⟩
abbrev sd_law_statement : Stmt := topS 75
def d_law_statement : He.DefD := ⟨("_law_statement", none), "_law_statement", "_law_statement", defArgs sd_law_statement, defBody sd_law_statement, defScope sd_law_statement, [], []⟩
abbrev sd_law_said : Stmt := topS 76
def d_law_said : He.DefD := ⟨("_law_said", none), "_law_said", "_law_said", defArgs sd_law_said, defBody sd_law_said, defScope sd_law_said, [], []⟩
abbrev sd_law_refused_right : Stmt := topS 77
def d_law_refused_right : He.DefD := ⟨("_law_refused_right", none), "_law_refused_right", "_law_refused_right", defArgs sd_law_refused_right, defBody sd_law_refused_right, defScope sd_law_refused_right, [], []⟩
abbrev sd_law_most_right : Stmt := topS 78
def d_law_most_right : He.DefD := ⟨("_law_most_right", none), "_law_most_right", "_law_most_right", defArgs sd_law_most_right, defBody sd_law_most_right, defScope sd_law_most_right, [], []⟩
abbrev sd_law : Stmt := topS 79
def d_law : He.DefD := ⟨("law", none), "law", "law", defArgs sd_law, defBody sd_law, defScope sd_law, [], []⟩
def fnL0 : List He.DefD := [d_InvalidCode___init__, d_InvalidNumber___init__, d_InvalidAnswers___init__, d_InvalidBound___init__, d_NotWaiting___init__, d_LimitExceeded___init__, d_is_integer, d_is_between, d_is_name, d_is_statement, d_parts_in, d_Code___init__, d_Code_check, d_Code_keep, d_Code___eq__, d_Code___len__, d_Code___getitem__, d_Code___iter__, d_Code_check_number, d_Code_is_place, d_Code_check_place, d_Code_kind, d_Code_parent, d_Code_parts, d_Code_places, d_Code_entry, d_Code_entry_of, d_Code_layers, d_Code_layers_of, d_Run___init__]
def fnL1 : List He.DefD := [d_Run___eq__, d_Run_facts, d_way_of, d_Walker___init__, d_Walker_is_waiting, d_Walker_leave, d_Walker_do_place, d_Walker_go_on, d_Walker_answer, d_Walker_moment, d_check_answers, d_run, d_Session___init__, d_Session_begin, d_Session___eq__, d_Session_code, d_Session_answers, d_Session_places, d_Session_now, d_Session_address, d_Session_answer, d_Session_undo, d_law_cell_at, d_law_source_of, d_law_draw, d_law_one, d_law_leaf, d_law_statement, d_law_said, d_law_refused_right]
def fnL2 : List He.DefD := [d_law_most_right, d_law]
def fnL : List He.DefD := fnL0 ++ fnL1 ++ fnL2
def faL0 : List He.Fa := [.glo "CopyError", .glo "InvalidCode", .glo "InvalidNumber", .glo "InvalidAnswers", .glo "InvalidBound", .glo "NotWaiting", .glo "LimitExceeded", .glo "is_integer", .glo "is_between", .glo "SIZES", .glo "NAMED", .glo "JUMPS", .glo "ASKING_code", .glo "is_name", .glo "is_statement", .glo "parts_in", .glo "Code", .glo "NORMAL_runs", .glo "RAISE_runs", .glo "ENDS_runs", .glo "Run", .glo "way_of", .glo "Walker", .glo "check_answers", .glo "run", .glo "Session", .glo "_law_cell_at", .glo "_law_source_of", .glo "_law_draw", .glo "_law_one"]
def faL1 : List He.Fa := [.glo "_law_leaf", .glo "_law_statement", .glo "_law_said", .glo "_law_refused_right", .glo "_law_most_right", .glo "law", .free "ArithmeticError", .free "TypeError", .free "all", .free "bool", .free "enumerate", .free "int", .free "isinstance", .free "len", .free "list", .free "range", .free "repr", .free "reversed", .free "str", .free "tuple", .int "MOST_STATEMENTS" 400, .int "MOST_DEEP" 100, .int "MOST_BLOCKS" 25, .int "MOST_LETTERS" 8, .str "LETTERS" "abcdefghijklmnopqrstuvwxyz", .int "MOST_ANSWERS" 1000, .int "MOST_GIVEN" 200, .cls "Code", .mkr "Code", .noat "Code" "children"]
def faL2 : List He.Fa := [.noat "Code" "kinds", .noat "Code" "labels", .noat "Code" "parents", .noat "Code" "statements", .meth "Code" "check", .meth "Code" "keep", .meth "Code" "__eq__", .meth "Code" "__len__", .meth "Code" "__getitem__", .meth "Code" "__iter__", .meth "Code" "check_number", .meth "Code" "is_place", .meth "Code" "check_place", .meth "Code" "kind", .meth "Code" "parent", .meth "Code" "parts", .meth "Code" "places", .meth "Code" "entry", .meth "Code" "entry_of", .meth "Code" "layers", .meth "Code" "layers_of", .cls "Run", .mkr "Run", .noat "Run" "end", .noat "Run" "used", .noat "Run" "visited", .meth "Run" "__eq__", .meth "Run" "facts", .cls "Walker", .mkr "Walker"]
def faL3 : List He.Fa := [.noat "Walker" "end", .noat "Walker" "pendings", .noat "Walker" "source", .noat "Walker" "spot", .meth "Walker" "is_waiting", .meth "Walker" "leave", .meth "Walker" "do_place", .meth "Walker" "go_on", .meth "Walker" "answer", .meth "Walker" "moment", .cls "Session", .mkr "Session", .noat "Session" "done", .noat "Session" "given", .noat "Session" "source", .noat "Session" "walker", .meth "Session" "begin", .meth "Session" "__eq__", .meth "Session" "code", .meth "Session" "answers", .meth "Session" "places", .meth "Session" "now", .meth "Session" "address", .meth "Session" "answer", .meth "Session" "undo"]
def faL : List He.Fa := faL0 ++ faL1 ++ faL2 ++ faL3
def tabL : List He.Tab := [(fun K => He.ga K "SIZES", ["do", "call", "if", "while", "seq", "break", "continue", "return", "raise", "try", "final"]), (fun K => He.ga K "ENDS_runs", ["normal", "return", "raise"])]
def tfL : List He.Defn := [("_law_refused_right", none), ("_law_most_right", none)]
def xN : List PySem.Str := ["CopyError", "InvalidCode", "InvalidNumber", "InvalidAnswers", "InvalidBound", "NotWaiting", "LimitExceeded"]
def exB (K : PySem.W.Frag) : Bool := (He.tupB K "NAMED" [.str "do", .str "call", .str "if", .str "while"]) && (He.tupB K "JUMPS" [.str "break", .str "continue"]) && (He.tupB K "ASKING_code" [.str "call", .str "if", .str "while"]) && (He.tupB K "NORMAL_runs" [.str "normal"]) && (He.tupB K "RAISE_runs" [.str "raise"]) && (He.valsB K (He.ga K "SIZES") [("do", .int 2), ("call", .int 2), ("if", .int 4), ("while", .int 3), ("seq", .int 2), ("break", .int 2), ("continue", .int 2), ("return", .int 1), ("raise", .int 1), ("try", .int 3), ("final", .int 3)]) && (He.valsB K (He.ga K "ENDS_runs") [("normal", .str "end"), ("return", .str "return"), ("raise", .str "raise")]) && (FcX.xcB K (He.ga K "CopyError") && PySem.W.excIn K (He.ga K "CopyError") FcX.aeT "ArithmeticError.__new__") && (FcX.xcB K (He.ga K "InvalidCode") && FcX.xiB K (He.ga K "InvalidCode") (He.fAd K ("InvalidCode", some "__init__")) "number") && (FcX.xcB K (He.ga K "InvalidNumber") && FcX.xiB K (He.ga K "InvalidNumber") (He.fAd K ("InvalidNumber", some "__init__")) "number") && (FcX.xcB K (He.ga K "InvalidAnswers") && FcX.xiB K (He.ga K "InvalidAnswers") (He.fAd K ("InvalidAnswers", some "__init__")) "at") && (FcX.xcB K (He.ga K "InvalidBound") && FcX.xiB K (He.ga K "InvalidBound") (He.fAd K ("InvalidBound", some "__init__")) "bound") && (FcX.xcB K (He.ga K "NotWaiting") && FcX.xiB K (He.ga K "NotWaiting") (He.fAd K ("NotWaiting", some "__init__")) "end") && (FcX.xcB K (He.ga K "LimitExceeded") && FcX.xiB K (He.ga K "LimitExceeded") (He.fAd K ("LimitExceeded", some "__init__")) "limit") && (FcX.xkB K xN) && (FcO.eqB K (He.ga K "Code")) && (FcO.eqB K (He.ga K "Run")) && (FcO.eqB K (He.ga K "Session")) && (FcX.xhB K xN) && (FcL.tabsN K tfL)
def looseL0 : List PySem.Str := ["_wall", "CopyError", "InvalidCode", "InvalidNumber", "InvalidAnswers", "InvalidBound", "NotWaiting", "LimitExceeded", "is_integer", "is_between", "NORMAL_ways", "RAISE_ways", "comes_first", "keep_first", "first_shortest", "left_by_leaf", "left_by_if", "left_by_while", "left_by_seq", "left_by_try", "left_by_final", "shortest_answers", "all_ways", "begin_parts", "begin_answers", "all_place_answers", "reached", "NORMAL_routes", "ENDS_routes", "outer_way"]
def looseL1 : List PySem.Str := ["follower", "Flow", "joined", "Counter", "SIZES", "NAMED", "JUMPS", "ASKING_code", "is_name", "is_statement", "parts_in", "Code", "NORMAL_runs", "RAISE_runs", "ENDS_runs", "Run", "way_of", "Walker", "check_answers", "run", "ASKING_lowered", "Lowered", "Session", "_law_cell_at", "_law_source_of", "_law_draw", "_law_one", "_law_leaf", "_law_statement", "_law_said"]
def looseL2 : List PySem.Str := ["_law_refused_right", "_law_most_right", "MOST_STATEMENTS", "MOST_DEEP", "MOST_BLOCKS", "MOST_LETTERS", "LETTERS", "MOST_ANSWERS", "MOST_GIVEN"]
def looseL : List PySem.Str := looseL0 ++ looseL1 ++ looseL2
abbrev R : PySem.W.OpenRow := PySem.W.OpenLaw.row PySem.Challenge.rw_finallycopies_k76_sessions_refuse
abbrev hk : PySem.W.Hook := He.hookX 4 faL fnL tabL tfL exB
def ob (s : PySem.W.SharedT) : He.AlX := He.obsX 4 faL fnL tabL tfL exB (HandSHeadRun.getT s)
theorem ob_eq (s : PySem.W.SharedT) : ob s = hk.obs s.abs := He.obsX_eq (HandSHeadRun.getT_eq s)
theorem map3 {α β γ δ : Type} {o : Option α} {f : α → β} {g : α → γ} {h : α → δ} {a : β} {b : γ} {c : δ} (h1 : o.map f = some a) (h2 : o.map g = some b) (h3 : o.map h = some c) : o.map (fun s => (f s, g s, h s)) = some (a, b, c) := by
  cases o with
  | none => cases h1
  | some x => cases h1; cases h2; cases h3; rfl
theorem mapP {α β γ : Type} {o : Option α} {h : α → β × γ} {c : β × γ} (h1 : o.map (fun s => (h s).1) = some c.1) (h2 : o.map (fun s => (h s).2) = some c.2) : o.map h = some c := by
  cases o with
  | none => cases h1
  | some x =>
    have e1 : (h x).1 = c.1 := Option.some.inj h1
    have e2 : (h x).2 = c.2 := Option.some.inj h2
    show some (h x) = some c
    rw [← Prod.eta (h x), ← Prod.eta c, e1, e2]
theorem runF_a (w : World) (os : PySem.OsState) : (HandSHeadRun.endF (HandSHeadRun.stepQ (HandSHeadRun.denQ HandSHeadRun.tabQ) R.prog (w.withFollow "special-get-raises" false)) 20000 R.prog (w.withFollow "special-get-raises" false) os).map (fun s => HandSHeadRun.looksF R.prog (PySem.W.boot_heap (w.withFollow "special-get-raises" false).params) s.abs) = some true := by kernel_rfl
theorem runF_b (w : World) (os : PySem.OsState) : (HandSHeadRun.endF (HandSHeadRun.stepQ (HandSHeadRun.denQ HandSHeadRun.tabQ) R.prog (w.withFollow "special-get-raises" false)) 20000 R.prog (w.withFollow "special-get-raises" false) os).map (fun s => HandSHeadRun.seenQ (PySem.W.view R.prog [79]) looseL (PySem.importedModules R.prog.main.body) (fun s => PySem.W.xlAt (PySem.W.view R.prog [79]) [] s && PySem.W.recOk R.toRowW.records s) s.abs) = some (PySem.W.openGood (PySem.W.view R.prog [79]) looseL) := by kernel_rfl
theorem runF_c (w : World) (os : PySem.OsState) : (HandSHeadRun.endF (HandSHeadRun.stepQ (HandSHeadRun.denQ HandSHeadRun.tabQ) R.prog (w.withFollow "special-get-raises" false)) 20000 R.prog (w.withFollow "special-get-raises" false) os).map (fun s => (ob s).1) = some (hk.val (w.withFollow "special-get-raises" false)).1 := by kernel_rfl
theorem runF_d (w : World) (os : PySem.OsState) : (HandSHeadRun.endF (HandSHeadRun.stepQ (HandSHeadRun.denQ HandSHeadRun.tabQ) R.prog (w.withFollow "special-get-raises" false)) 20000 R.prog (w.withFollow "special-get-raises" false) os).map (fun s => (ob s).2) = some (hk.val (w.withFollow "special-get-raises" false)).2 := by kernel_rfl
theorem runF (w : World) : HandSHeadRun.RunEq R (PySem.W.view R.prog [79]) hk ob 20000 looseL (w.withFollow "special-get-raises" false) := fun os => map3 (runF_a w os) (runF_b w os) (mapP (h := ob) (runF_c w os) (runF_d w os))
theorem runT_a (w : World) (os : PySem.OsState) : (HandSHeadRun.endF (HandSHeadRun.stepQ (HandSHeadRun.denQ HandSHeadRun.tabQ) R.prog (w.withFollow "special-get-raises" true)) 20000 R.prog (w.withFollow "special-get-raises" true) os).map (fun s => HandSHeadRun.looksF R.prog (PySem.W.boot_heap (w.withFollow "special-get-raises" true).params) s.abs) = some true := by kernel_rfl
theorem runT_b (w : World) (os : PySem.OsState) : (HandSHeadRun.endF (HandSHeadRun.stepQ (HandSHeadRun.denQ HandSHeadRun.tabQ) R.prog (w.withFollow "special-get-raises" true)) 20000 R.prog (w.withFollow "special-get-raises" true) os).map (fun s => HandSHeadRun.seenQ (PySem.W.view R.prog [79]) looseL (PySem.importedModules R.prog.main.body) (fun s => PySem.W.xlAt (PySem.W.view R.prog [79]) [] s && PySem.W.recOk R.toRowW.records s) s.abs) = some (PySem.W.openGood (PySem.W.view R.prog [79]) looseL) := by kernel_rfl
theorem runT_c (w : World) (os : PySem.OsState) : (HandSHeadRun.endF (HandSHeadRun.stepQ (HandSHeadRun.denQ HandSHeadRun.tabQ) R.prog (w.withFollow "special-get-raises" true)) 20000 R.prog (w.withFollow "special-get-raises" true) os).map (fun s => (ob s).1) = some (hk.val (w.withFollow "special-get-raises" true)).1 := by kernel_rfl
theorem runT_d (w : World) (os : PySem.OsState) : (HandSHeadRun.endF (HandSHeadRun.stepQ (HandSHeadRun.denQ HandSHeadRun.tabQ) R.prog (w.withFollow "special-get-raises" true)) 20000 R.prog (w.withFollow "special-get-raises" true) os).map (fun s => (ob s).2) = some (hk.val (w.withFollow "special-get-raises" true)).2 := by kernel_rfl
theorem runT (w : World) : HandSHeadRun.RunEq R (PySem.W.view R.prog [79]) hk ob 20000 looseL (w.withFollow "special-get-raises" true) := fun os => map3 (runT_a w os) (runT_b w os) (mapP (h := ob) (runT_c w os) (runT_d w os))
theorem run (w : World) : HandSHeadRun.RunEq R (PySem.W.view R.prog [79]) hk ob 20000 looseL w := PySem.W.byRow2 "special-get-raises" (P := fun w => HandSHeadRun.RunEq R (PySem.W.view R.prog [79]) hk ob 20000 looseL w) runF runT w
structure Tx (w : World) (h : Heap) (K : PySem.W.Frag) (mg : Str → Option Value) : Prop where
  X : K.In h
  G : h.Ns mainGlobals mg
  c : He.SaysX faL fnL tabL tfL exB w h K
section
variable {w : World} {h : Heap} {K : PySem.W.Frag} {mg : Str → Option Value}
theorem g_CopyError (T : Tx w h K mg) : mg "CopyError" = some (.ref (He.ga K "CopyError")) := He.glo_ok T.X T.G (T.c.t.d.fact 0 rfl)
theorem g_InvalidCode (T : Tx w h K mg) : mg "InvalidCode" = some (.ref (He.ga K "InvalidCode")) := He.glo_ok T.X T.G (T.c.t.d.fact 1 rfl)
theorem g_InvalidNumber (T : Tx w h K mg) : mg "InvalidNumber" = some (.ref (He.ga K "InvalidNumber")) := He.glo_ok T.X T.G (T.c.t.d.fact 2 rfl)
theorem g_InvalidAnswers (T : Tx w h K mg) : mg "InvalidAnswers" = some (.ref (He.ga K "InvalidAnswers")) := He.glo_ok T.X T.G (T.c.t.d.fact 3 rfl)
theorem g_InvalidBound (T : Tx w h K mg) : mg "InvalidBound" = some (.ref (He.ga K "InvalidBound")) := He.glo_ok T.X T.G (T.c.t.d.fact 4 rfl)
theorem g_NotWaiting (T : Tx w h K mg) : mg "NotWaiting" = some (.ref (He.ga K "NotWaiting")) := He.glo_ok T.X T.G (T.c.t.d.fact 5 rfl)
theorem g_LimitExceeded (T : Tx w h K mg) : mg "LimitExceeded" = some (.ref (He.ga K "LimitExceeded")) := He.glo_ok T.X T.G (T.c.t.d.fact 6 rfl)
theorem g_is_integer (T : Tx w h K mg) : mg "is_integer" = some (.ref (He.ga K "is_integer")) := He.glo_ok T.X T.G (T.c.t.d.fact 7 rfl)
theorem g_is_between (T : Tx w h K mg) : mg "is_between" = some (.ref (He.ga K "is_between")) := He.glo_ok T.X T.G (T.c.t.d.fact 8 rfl)
theorem g_SIZES (T : Tx w h K mg) : mg "SIZES" = some (.ref (He.ga K "SIZES")) := He.glo_ok T.X T.G (T.c.t.d.fact 9 rfl)
theorem g_NAMED (T : Tx w h K mg) : mg "NAMED" = some (.ref (He.ga K "NAMED")) := He.glo_ok T.X T.G (T.c.t.d.fact 10 rfl)
theorem g_JUMPS (T : Tx w h K mg) : mg "JUMPS" = some (.ref (He.ga K "JUMPS")) := He.glo_ok T.X T.G (T.c.t.d.fact 11 rfl)
theorem g_ASKING_code (T : Tx w h K mg) : mg "ASKING_code" = some (.ref (He.ga K "ASKING_code")) := He.glo_ok T.X T.G (T.c.t.d.fact 12 rfl)
theorem g_is_name (T : Tx w h K mg) : mg "is_name" = some (.ref (He.ga K "is_name")) := He.glo_ok T.X T.G (T.c.t.d.fact 13 rfl)
theorem g_is_statement (T : Tx w h K mg) : mg "is_statement" = some (.ref (He.ga K "is_statement")) := He.glo_ok T.X T.G (T.c.t.d.fact 14 rfl)
theorem g_parts_in (T : Tx w h K mg) : mg "parts_in" = some (.ref (He.ga K "parts_in")) := He.glo_ok T.X T.G (T.c.t.d.fact 15 rfl)
theorem g_Code (T : Tx w h K mg) : mg "Code" = some (.ref (He.ga K "Code")) := He.glo_ok T.X T.G (T.c.t.d.fact 16 rfl)
theorem g_NORMAL_runs (T : Tx w h K mg) : mg "NORMAL_runs" = some (.ref (He.ga K "NORMAL_runs")) := He.glo_ok T.X T.G (T.c.t.d.fact 17 rfl)
theorem g_RAISE_runs (T : Tx w h K mg) : mg "RAISE_runs" = some (.ref (He.ga K "RAISE_runs")) := He.glo_ok T.X T.G (T.c.t.d.fact 18 rfl)
theorem g_ENDS_runs (T : Tx w h K mg) : mg "ENDS_runs" = some (.ref (He.ga K "ENDS_runs")) := He.glo_ok T.X T.G (T.c.t.d.fact 19 rfl)
theorem g_Run (T : Tx w h K mg) : mg "Run" = some (.ref (He.ga K "Run")) := He.glo_ok T.X T.G (T.c.t.d.fact 20 rfl)
theorem g_way_of (T : Tx w h K mg) : mg "way_of" = some (.ref (He.ga K "way_of")) := He.glo_ok T.X T.G (T.c.t.d.fact 21 rfl)
theorem g_Walker (T : Tx w h K mg) : mg "Walker" = some (.ref (He.ga K "Walker")) := He.glo_ok T.X T.G (T.c.t.d.fact 22 rfl)
theorem g_check_answers (T : Tx w h K mg) : mg "check_answers" = some (.ref (He.ga K "check_answers")) := He.glo_ok T.X T.G (T.c.t.d.fact 23 rfl)
theorem g_run (T : Tx w h K mg) : mg "run" = some (.ref (He.ga K "run")) := He.glo_ok T.X T.G (T.c.t.d.fact 24 rfl)
theorem g_Session (T : Tx w h K mg) : mg "Session" = some (.ref (He.ga K "Session")) := He.glo_ok T.X T.G (T.c.t.d.fact 25 rfl)
theorem g_law_cell_at (T : Tx w h K mg) : mg "_law_cell_at" = some (.ref (He.ga K "_law_cell_at")) := He.glo_ok T.X T.G (T.c.t.d.fact 26 rfl)
theorem g_law_source_of (T : Tx w h K mg) : mg "_law_source_of" = some (.ref (He.ga K "_law_source_of")) := He.glo_ok T.X T.G (T.c.t.d.fact 27 rfl)
theorem g_law_draw (T : Tx w h K mg) : mg "_law_draw" = some (.ref (He.ga K "_law_draw")) := He.glo_ok T.X T.G (T.c.t.d.fact 28 rfl)
theorem g_law_one (T : Tx w h K mg) : mg "_law_one" = some (.ref (He.ga K "_law_one")) := He.glo_ok T.X T.G (T.c.t.d.fact 29 rfl)
theorem g_law_leaf (T : Tx w h K mg) : mg "_law_leaf" = some (.ref (He.ga K "_law_leaf")) := He.glo_ok T.X T.G (T.c.t.d.fact 30 rfl)
theorem g_law_statement (T : Tx w h K mg) : mg "_law_statement" = some (.ref (He.ga K "_law_statement")) := He.glo_ok T.X T.G (T.c.t.d.fact 31 rfl)
theorem g_law_said (T : Tx w h K mg) : mg "_law_said" = some (.ref (He.ga K "_law_said")) := He.glo_ok T.X T.G (T.c.t.d.fact 32 rfl)
theorem g_law_refused_right (T : Tx w h K mg) : mg "_law_refused_right" = some (.ref (He.ga K "_law_refused_right")) := He.glo_ok T.X T.G (T.c.t.d.fact 33 rfl)
theorem g_law_most_right (T : Tx w h K mg) : mg "_law_most_right" = some (.ref (He.ga K "_law_most_right")) := He.glo_ok T.X T.G (T.c.t.d.fact 34 rfl)
theorem g_law (T : Tx w h K mg) : mg "law" = some (.ref (He.ga K "law")) := He.glo_ok T.X T.G (T.c.t.d.fact 35 rfl)
theorem fr_ArithmeticError (T : Tx w h K mg) : mg "ArithmeticError" = none := He.free_ok T.X T.G (T.c.t.d.fact 36 rfl)
theorem fr_TypeError (T : Tx w h K mg) : mg "TypeError" = none := He.free_ok T.X T.G (T.c.t.d.fact 37 rfl)
theorem fr_all (T : Tx w h K mg) : mg "all" = none := He.free_ok T.X T.G (T.c.t.d.fact 38 rfl)
theorem fr_bool (T : Tx w h K mg) : mg "bool" = none := He.free_ok T.X T.G (T.c.t.d.fact 39 rfl)
theorem fr_enumerate (T : Tx w h K mg) : mg "enumerate" = none := He.free_ok T.X T.G (T.c.t.d.fact 40 rfl)
theorem fr_int (T : Tx w h K mg) : mg "int" = none := He.free_ok T.X T.G (T.c.t.d.fact 41 rfl)
theorem fr_isinstance (T : Tx w h K mg) : mg "isinstance" = none := He.free_ok T.X T.G (T.c.t.d.fact 42 rfl)
theorem fr_len (T : Tx w h K mg) : mg "len" = none := He.free_ok T.X T.G (T.c.t.d.fact 43 rfl)
theorem fr_list (T : Tx w h K mg) : mg "list" = none := He.free_ok T.X T.G (T.c.t.d.fact 44 rfl)
theorem fr_range (T : Tx w h K mg) : mg "range" = none := He.free_ok T.X T.G (T.c.t.d.fact 45 rfl)
theorem fr_repr (T : Tx w h K mg) : mg "repr" = none := He.free_ok T.X T.G (T.c.t.d.fact 46 rfl)
theorem fr_reversed (T : Tx w h K mg) : mg "reversed" = none := He.free_ok T.X T.G (T.c.t.d.fact 47 rfl)
theorem fr_str (T : Tx w h K mg) : mg "str" = none := He.free_ok T.X T.G (T.c.t.d.fact 48 rfl)
theorem fr_tuple (T : Tx w h K mg) : mg "tuple" = none := He.free_ok T.X T.G (T.c.t.d.fact 49 rfl)
theorem i_MOST_STATEMENTS (T : Tx w h K mg) : ∃ t, mg "MOST_STATEMENTS" = some (.int 400 t) := He.int_ok T.X T.G (T.c.t.d.fact 50 rfl)
theorem i_MOST_DEEP (T : Tx w h K mg) : ∃ t, mg "MOST_DEEP" = some (.int 100 t) := He.int_ok T.X T.G (T.c.t.d.fact 51 rfl)
theorem i_MOST_BLOCKS (T : Tx w h K mg) : ∃ t, mg "MOST_BLOCKS" = some (.int 25 t) := He.int_ok T.X T.G (T.c.t.d.fact 52 rfl)
theorem i_MOST_LETTERS (T : Tx w h K mg) : ∃ t, mg "MOST_LETTERS" = some (.int 8 t) := He.int_ok T.X T.G (T.c.t.d.fact 53 rfl)
theorem i_LETTERS (T : Tx w h K mg) : ∃ t, mg "LETTERS" = some (.str "abcdefghijklmnopqrstuvwxyz" t) := He.str_ok T.X T.G (T.c.t.d.fact 54 rfl)
theorem i_MOST_ANSWERS (T : Tx w h K mg) : ∃ t, mg "MOST_ANSWERS" = some (.int 1000 t) := He.int_ok T.X T.G (T.c.t.d.fact 55 rfl)
theorem i_MOST_GIVEN (T : Tx w h K mg) : ∃ t, mg "MOST_GIVEN" = some (.int 200 t) := He.int_ok T.X T.G (T.c.t.d.fact 56 rfl)
theorem c_Code (T : Tx w h K mg) : Cls K (He.ga K "Code") := He.cls_ok (T.c.t.d.fact 57 rfl)
theorem mk_Code (T : Tx w h K mg) : Mk K (He.ga K "Code") (He.ma K (He.ga K "Code") "__init__") := He.mkr_ok (T.c.t.d.fact 58 rfl)
theorem na_Code_children (T : Tx w h K mg) : NoAttr K (He.ga K "Code") "children" := He.noat_ok (T.c.t.d.fact 59 rfl)
theorem na_Code_kinds (T : Tx w h K mg) : NoAttr K (He.ga K "Code") "kinds" := He.noat_ok (T.c.t.d.fact 60 rfl)
theorem na_Code_labels (T : Tx w h K mg) : NoAttr K (He.ga K "Code") "labels" := He.noat_ok (T.c.t.d.fact 61 rfl)
theorem na_Code_parents (T : Tx w h K mg) : NoAttr K (He.ga K "Code") "parents" := He.noat_ok (T.c.t.d.fact 62 rfl)
theorem na_Code_statements (T : Tx w h K mg) : NoAttr K (He.ga K "Code") "statements" := He.noat_ok (T.c.t.d.fact 63 rfl)
theorem me_Code_check (T : Tx w h K mg) : Meth K (He.ga K "Code") "check" (He.ma K (He.ga K "Code") "check") := He.meth_ok (T.c.t.d.fact 64 rfl)
theorem me_Code_keep (T : Tx w h K mg) : Meth K (He.ga K "Code") "keep" (He.ma K (He.ga K "Code") "keep") := He.meth_ok (T.c.t.d.fact 65 rfl)
theorem me_Code___eq__ (T : Tx w h K mg) : Meth K (He.ga K "Code") "__eq__" (He.ma K (He.ga K "Code") "__eq__") := He.meth_ok (T.c.t.d.fact 66 rfl)
theorem me_Code___len__ (T : Tx w h K mg) : Meth K (He.ga K "Code") "__len__" (He.ma K (He.ga K "Code") "__len__") := He.meth_ok (T.c.t.d.fact 67 rfl)
theorem me_Code___getitem__ (T : Tx w h K mg) : Meth K (He.ga K "Code") "__getitem__" (He.ma K (He.ga K "Code") "__getitem__") := He.meth_ok (T.c.t.d.fact 68 rfl)
theorem me_Code___iter__ (T : Tx w h K mg) : Meth K (He.ga K "Code") "__iter__" (He.ma K (He.ga K "Code") "__iter__") := He.meth_ok (T.c.t.d.fact 69 rfl)
theorem me_Code_check_number (T : Tx w h K mg) : Meth K (He.ga K "Code") "check_number" (He.ma K (He.ga K "Code") "check_number") := He.meth_ok (T.c.t.d.fact 70 rfl)
theorem me_Code_is_place (T : Tx w h K mg) : Meth K (He.ga K "Code") "is_place" (He.ma K (He.ga K "Code") "is_place") := He.meth_ok (T.c.t.d.fact 71 rfl)
theorem me_Code_check_place (T : Tx w h K mg) : Meth K (He.ga K "Code") "check_place" (He.ma K (He.ga K "Code") "check_place") := He.meth_ok (T.c.t.d.fact 72 rfl)
theorem me_Code_kind (T : Tx w h K mg) : Meth K (He.ga K "Code") "kind" (He.ma K (He.ga K "Code") "kind") := He.meth_ok (T.c.t.d.fact 73 rfl)
theorem me_Code_parent (T : Tx w h K mg) : Meth K (He.ga K "Code") "parent" (He.ma K (He.ga K "Code") "parent") := He.meth_ok (T.c.t.d.fact 74 rfl)
theorem me_Code_parts (T : Tx w h K mg) : Meth K (He.ga K "Code") "parts" (He.ma K (He.ga K "Code") "parts") := He.meth_ok (T.c.t.d.fact 75 rfl)
theorem me_Code_places (T : Tx w h K mg) : Meth K (He.ga K "Code") "places" (He.ma K (He.ga K "Code") "places") := He.meth_ok (T.c.t.d.fact 76 rfl)
theorem me_Code_entry (T : Tx w h K mg) : Meth K (He.ga K "Code") "entry" (He.ma K (He.ga K "Code") "entry") := He.meth_ok (T.c.t.d.fact 77 rfl)
theorem me_Code_entry_of (T : Tx w h K mg) : Meth K (He.ga K "Code") "entry_of" (He.ma K (He.ga K "Code") "entry_of") := He.meth_ok (T.c.t.d.fact 78 rfl)
theorem me_Code_layers (T : Tx w h K mg) : Meth K (He.ga K "Code") "layers" (He.ma K (He.ga K "Code") "layers") := He.meth_ok (T.c.t.d.fact 79 rfl)
theorem me_Code_layers_of (T : Tx w h K mg) : Meth K (He.ga K "Code") "layers_of" (He.ma K (He.ga K "Code") "layers_of") := He.meth_ok (T.c.t.d.fact 80 rfl)
theorem c_Run (T : Tx w h K mg) : Cls K (He.ga K "Run") := He.cls_ok (T.c.t.d.fact 81 rfl)
theorem mk_Run (T : Tx w h K mg) : Mk K (He.ga K "Run") (He.ma K (He.ga K "Run") "__init__") := He.mkr_ok (T.c.t.d.fact 82 rfl)
theorem na_Run_end (T : Tx w h K mg) : NoAttr K (He.ga K "Run") "end" := He.noat_ok (T.c.t.d.fact 83 rfl)
theorem na_Run_used (T : Tx w h K mg) : NoAttr K (He.ga K "Run") "used" := He.noat_ok (T.c.t.d.fact 84 rfl)
theorem na_Run_visited (T : Tx w h K mg) : NoAttr K (He.ga K "Run") "visited" := He.noat_ok (T.c.t.d.fact 85 rfl)
theorem me_Run___eq__ (T : Tx w h K mg) : Meth K (He.ga K "Run") "__eq__" (He.ma K (He.ga K "Run") "__eq__") := He.meth_ok (T.c.t.d.fact 86 rfl)
theorem me_Run_facts (T : Tx w h K mg) : Meth K (He.ga K "Run") "facts" (He.ma K (He.ga K "Run") "facts") := He.meth_ok (T.c.t.d.fact 87 rfl)
theorem c_Walker (T : Tx w h K mg) : Cls K (He.ga K "Walker") := He.cls_ok (T.c.t.d.fact 88 rfl)
theorem mk_Walker (T : Tx w h K mg) : Mk K (He.ga K "Walker") (He.ma K (He.ga K "Walker") "__init__") := He.mkr_ok (T.c.t.d.fact 89 rfl)
theorem na_Walker_end (T : Tx w h K mg) : NoAttr K (He.ga K "Walker") "end" := He.noat_ok (T.c.t.d.fact 90 rfl)
theorem na_Walker_pendings (T : Tx w h K mg) : NoAttr K (He.ga K "Walker") "pendings" := He.noat_ok (T.c.t.d.fact 91 rfl)
theorem na_Walker_source (T : Tx w h K mg) : NoAttr K (He.ga K "Walker") "source" := He.noat_ok (T.c.t.d.fact 92 rfl)
theorem na_Walker_spot (T : Tx w h K mg) : NoAttr K (He.ga K "Walker") "spot" := He.noat_ok (T.c.t.d.fact 93 rfl)
theorem me_Walker_is_waiting (T : Tx w h K mg) : Meth K (He.ga K "Walker") "is_waiting" (He.ma K (He.ga K "Walker") "is_waiting") := He.meth_ok (T.c.t.d.fact 94 rfl)
theorem me_Walker_leave (T : Tx w h K mg) : Meth K (He.ga K "Walker") "leave" (He.ma K (He.ga K "Walker") "leave") := He.meth_ok (T.c.t.d.fact 95 rfl)
theorem me_Walker_do_place (T : Tx w h K mg) : Meth K (He.ga K "Walker") "do_place" (He.ma K (He.ga K "Walker") "do_place") := He.meth_ok (T.c.t.d.fact 96 rfl)
theorem me_Walker_go_on (T : Tx w h K mg) : Meth K (He.ga K "Walker") "go_on" (He.ma K (He.ga K "Walker") "go_on") := He.meth_ok (T.c.t.d.fact 97 rfl)
theorem me_Walker_answer (T : Tx w h K mg) : Meth K (He.ga K "Walker") "answer" (He.ma K (He.ga K "Walker") "answer") := He.meth_ok (T.c.t.d.fact 98 rfl)
theorem me_Walker_moment (T : Tx w h K mg) : Meth K (He.ga K "Walker") "moment" (He.ma K (He.ga K "Walker") "moment") := He.meth_ok (T.c.t.d.fact 99 rfl)
theorem c_Session (T : Tx w h K mg) : Cls K (He.ga K "Session") := He.cls_ok (T.c.t.d.fact 100 rfl)
theorem mk_Session (T : Tx w h K mg) : Mk K (He.ga K "Session") (He.ma K (He.ga K "Session") "__init__") := He.mkr_ok (T.c.t.d.fact 101 rfl)
theorem na_Session_done (T : Tx w h K mg) : NoAttr K (He.ga K "Session") "done" := He.noat_ok (T.c.t.d.fact 102 rfl)
theorem na_Session_given (T : Tx w h K mg) : NoAttr K (He.ga K "Session") "given" := He.noat_ok (T.c.t.d.fact 103 rfl)
theorem na_Session_source (T : Tx w h K mg) : NoAttr K (He.ga K "Session") "source" := He.noat_ok (T.c.t.d.fact 104 rfl)
theorem na_Session_walker (T : Tx w h K mg) : NoAttr K (He.ga K "Session") "walker" := He.noat_ok (T.c.t.d.fact 105 rfl)
theorem me_Session_begin (T : Tx w h K mg) : Meth K (He.ga K "Session") "begin" (He.ma K (He.ga K "Session") "begin") := He.meth_ok (T.c.t.d.fact 106 rfl)
theorem me_Session___eq__ (T : Tx w h K mg) : Meth K (He.ga K "Session") "__eq__" (He.ma K (He.ga K "Session") "__eq__") := He.meth_ok (T.c.t.d.fact 107 rfl)
theorem me_Session_code (T : Tx w h K mg) : Meth K (He.ga K "Session") "code" (He.ma K (He.ga K "Session") "code") := He.meth_ok (T.c.t.d.fact 108 rfl)
theorem me_Session_answers (T : Tx w h K mg) : Meth K (He.ga K "Session") "answers" (He.ma K (He.ga K "Session") "answers") := He.meth_ok (T.c.t.d.fact 109 rfl)
theorem me_Session_places (T : Tx w h K mg) : Meth K (He.ga K "Session") "places" (He.ma K (He.ga K "Session") "places") := He.meth_ok (T.c.t.d.fact 110 rfl)
theorem me_Session_now (T : Tx w h K mg) : Meth K (He.ga K "Session") "now" (He.ma K (He.ga K "Session") "now") := He.meth_ok (T.c.t.d.fact 111 rfl)
theorem me_Session_address (T : Tx w h K mg) : Meth K (He.ga K "Session") "address" (He.ma K (He.ga K "Session") "address") := He.meth_ok (T.c.t.d.fact 112 rfl)
theorem me_Session_answer (T : Tx w h K mg) : Meth K (He.ga K "Session") "answer" (He.ma K (He.ga K "Session") "answer") := He.meth_ok (T.c.t.d.fact 113 rfl)
theorem me_Session_undo (T : Tx w h K mg) : Meth K (He.ga K "Session") "undo" (He.ma K (He.ga K "Session") "undo") := He.meth_ok (T.c.t.d.fact 114 rfl)
theorem F_InvalidCode___init__ (T : Tx w h K mg) : ∃ fd, FunD K "__init__" "InvalidCode.__init__" (defArgs sd_InvalidCode___init__) (defBody sd_InvalidCode___init__) (defScope sd_InvalidCode___init__) [] [] (He.fAd K ("InvalidCode", some "__init__")) fd := T.c.t.d.def_ 0 rfl
theorem F_InvalidNumber___init__ (T : Tx w h K mg) : ∃ fd, FunD K "__init__" "InvalidNumber.__init__" (defArgs sd_InvalidNumber___init__) (defBody sd_InvalidNumber___init__) (defScope sd_InvalidNumber___init__) [] [] (He.fAd K ("InvalidNumber", some "__init__")) fd := T.c.t.d.def_ 1 rfl
theorem F_InvalidAnswers___init__ (T : Tx w h K mg) : ∃ fd, FunD K "__init__" "InvalidAnswers.__init__" (defArgs sd_InvalidAnswers___init__) (defBody sd_InvalidAnswers___init__) (defScope sd_InvalidAnswers___init__) [] [] (He.fAd K ("InvalidAnswers", some "__init__")) fd := T.c.t.d.def_ 2 rfl
theorem F_InvalidBound___init__ (T : Tx w h K mg) : ∃ fd, FunD K "__init__" "InvalidBound.__init__" (defArgs sd_InvalidBound___init__) (defBody sd_InvalidBound___init__) (defScope sd_InvalidBound___init__) [] [] (He.fAd K ("InvalidBound", some "__init__")) fd := T.c.t.d.def_ 3 rfl
theorem F_NotWaiting___init__ (T : Tx w h K mg) : ∃ fd, FunD K "__init__" "NotWaiting.__init__" (defArgs sd_NotWaiting___init__) (defBody sd_NotWaiting___init__) (defScope sd_NotWaiting___init__) [] [] (He.fAd K ("NotWaiting", some "__init__")) fd := T.c.t.d.def_ 4 rfl
theorem F_LimitExceeded___init__ (T : Tx w h K mg) : ∃ fd, FunD K "__init__" "LimitExceeded.__init__" (defArgs sd_LimitExceeded___init__) (defBody sd_LimitExceeded___init__) (defScope sd_LimitExceeded___init__) [] [] (He.fAd K ("LimitExceeded", some "__init__")) fd := T.c.t.d.def_ 5 rfl
theorem F_is_integer (T : Tx w h K mg) : ∃ fd, FunD K "is_integer" "is_integer" (defArgs sd_is_integer) (defBody sd_is_integer) (defScope sd_is_integer) [] [] (He.fAd K ("is_integer", none)) fd := T.c.t.d.def_ 6 rfl
theorem F_is_between (T : Tx w h K mg) : ∃ fd, FunD K "is_between" "is_between" (defArgs sd_is_between) (defBody sd_is_between) (defScope sd_is_between) [] [] (He.fAd K ("is_between", none)) fd := T.c.t.d.def_ 7 rfl
theorem F_is_name (T : Tx w h K mg) : ∃ fd, FunD K "is_name" "is_name" (defArgs sd_is_name) (defBody sd_is_name) (defScope sd_is_name) [] [] (He.fAd K ("is_name", none)) fd := T.c.t.d.def_ 8 rfl
theorem F_is_statement (T : Tx w h K mg) : ∃ fd, FunD K "is_statement" "is_statement" (defArgs sd_is_statement) (defBody sd_is_statement) (defScope sd_is_statement) [] [] (He.fAd K ("is_statement", none)) fd := T.c.t.d.def_ 9 rfl
theorem F_parts_in (T : Tx w h K mg) : ∃ fd, FunD K "parts_in" "parts_in" (defArgs sd_parts_in) (defBody sd_parts_in) (defScope sd_parts_in) [] [] (He.fAd K ("parts_in", none)) fd := T.c.t.d.def_ 10 rfl
theorem F_Code___init__ (T : Tx w h K mg) : ∃ fd, FunD K "__init__" "Code.__init__" (defArgs sd_Code___init__) (defBody sd_Code___init__) (defScope sd_Code___init__) [] [] (He.fAd K ("Code", some "__init__")) fd := T.c.t.d.def_ 11 rfl
theorem F_Code_check (T : Tx w h K mg) : ∃ fd, FunD K "check" "Code.check" (defArgs sd_Code_check) (defBody sd_Code_check) (defScope sd_Code_check) [] [] (He.fAd K ("Code", some "check")) fd := T.c.t.d.def_ 12 rfl
theorem F_Code_keep (T : Tx w h K mg) : ∃ fd, FunD K "keep" "Code.keep" (defArgs sd_Code_keep) (defBody sd_Code_keep) (defScope sd_Code_keep) [] [] (He.fAd K ("Code", some "keep")) fd := T.c.t.d.def_ 13 rfl
theorem F_Code___eq__ (T : Tx w h K mg) : ∃ fd, FunD K "__eq__" "Code.__eq__" (defArgs sd_Code___eq__) (defBody sd_Code___eq__) (defScope sd_Code___eq__) [] [] (He.fAd K ("Code", some "__eq__")) fd := T.c.t.d.def_ 14 rfl
theorem F_Code___len__ (T : Tx w h K mg) : ∃ fd, FunD K "__len__" "Code.__len__" (defArgs sd_Code___len__) (defBody sd_Code___len__) (defScope sd_Code___len__) [] [] (He.fAd K ("Code", some "__len__")) fd := T.c.t.d.def_ 15 rfl
theorem F_Code___getitem__ (T : Tx w h K mg) : ∃ fd, FunD K "__getitem__" "Code.__getitem__" (defArgs sd_Code___getitem__) (defBody sd_Code___getitem__) (defScope sd_Code___getitem__) [] [] (He.fAd K ("Code", some "__getitem__")) fd := T.c.t.d.def_ 16 rfl
theorem F_Code___iter__ (T : Tx w h K mg) : ∃ fd, FunD K "__iter__" "Code.__iter__" (defArgs sd_Code___iter__) (defBody sd_Code___iter__) (defScope sd_Code___iter__) [] [] (He.fAd K ("Code", some "__iter__")) fd := T.c.t.d.def_ 17 rfl
theorem F_Code_check_number (T : Tx w h K mg) : ∃ fd, FunD K "check_number" "Code.check_number" (defArgs sd_Code_check_number) (defBody sd_Code_check_number) (defScope sd_Code_check_number) [] [] (He.fAd K ("Code", some "check_number")) fd := T.c.t.d.def_ 18 rfl
theorem F_Code_is_place (T : Tx w h K mg) : ∃ fd, FunD K "is_place" "Code.is_place" (defArgs sd_Code_is_place) (defBody sd_Code_is_place) (defScope sd_Code_is_place) [] [] (He.fAd K ("Code", some "is_place")) fd := T.c.t.d.def_ 19 rfl
theorem F_Code_check_place (T : Tx w h K mg) : ∃ fd, FunD K "check_place" "Code.check_place" (defArgs sd_Code_check_place) (defBody sd_Code_check_place) (defScope sd_Code_check_place) [] [] (He.fAd K ("Code", some "check_place")) fd := T.c.t.d.def_ 20 rfl
theorem F_Code_kind (T : Tx w h K mg) : ∃ fd, FunD K "kind" "Code.kind" (defArgs sd_Code_kind) (defBody sd_Code_kind) (defScope sd_Code_kind) [] [] (He.fAd K ("Code", some "kind")) fd := T.c.t.d.def_ 21 rfl
theorem F_Code_parent (T : Tx w h K mg) : ∃ fd, FunD K "parent" "Code.parent" (defArgs sd_Code_parent) (defBody sd_Code_parent) (defScope sd_Code_parent) [] [] (He.fAd K ("Code", some "parent")) fd := T.c.t.d.def_ 22 rfl
theorem F_Code_parts (T : Tx w h K mg) : ∃ fd, FunD K "parts" "Code.parts" (defArgs sd_Code_parts) (defBody sd_Code_parts) (defScope sd_Code_parts) [] [] (He.fAd K ("Code", some "parts")) fd := T.c.t.d.def_ 23 rfl
theorem F_Code_places (T : Tx w h K mg) : ∃ fd, FunD K "places" "Code.places" (defArgs sd_Code_places) (defBody sd_Code_places) (defScope sd_Code_places) [] [] (He.fAd K ("Code", some "places")) fd := T.c.t.d.def_ 24 rfl
theorem F_Code_entry (T : Tx w h K mg) : ∃ fd, FunD K "entry" "Code.entry" (defArgs sd_Code_entry) (defBody sd_Code_entry) (defScope sd_Code_entry) [] [] (He.fAd K ("Code", some "entry")) fd := T.c.t.d.def_ 25 rfl
theorem F_Code_entry_of (T : Tx w h K mg) : ∃ fd, FunD K "entry_of" "Code.entry_of" (defArgs sd_Code_entry_of) (defBody sd_Code_entry_of) (defScope sd_Code_entry_of) [] [] (He.fAd K ("Code", some "entry_of")) fd := T.c.t.d.def_ 26 rfl
theorem F_Code_layers (T : Tx w h K mg) : ∃ fd, FunD K "layers" "Code.layers" (defArgs sd_Code_layers) (defBody sd_Code_layers) (defScope sd_Code_layers) [] [] (He.fAd K ("Code", some "layers")) fd := T.c.t.d.def_ 27 rfl
theorem F_Code_layers_of (T : Tx w h K mg) : ∃ fd, FunD K "layers_of" "Code.layers_of" (defArgs sd_Code_layers_of) (defBody sd_Code_layers_of) (defScope sd_Code_layers_of) [] [] (He.fAd K ("Code", some "layers_of")) fd := T.c.t.d.def_ 28 rfl
theorem F_Run___init__ (T : Tx w h K mg) : ∃ fd, FunD K "__init__" "Run.__init__" (defArgs sd_Run___init__) (defBody sd_Run___init__) (defScope sd_Run___init__) [] [] (He.fAd K ("Run", some "__init__")) fd := T.c.t.d.def_ 29 rfl
theorem F_Run___eq__ (T : Tx w h K mg) : ∃ fd, FunD K "__eq__" "Run.__eq__" (defArgs sd_Run___eq__) (defBody sd_Run___eq__) (defScope sd_Run___eq__) [] [] (He.fAd K ("Run", some "__eq__")) fd := T.c.t.d.def_ 30 rfl
theorem F_Run_facts (T : Tx w h K mg) : ∃ fd, FunD K "facts" "Run.facts" (defArgs sd_Run_facts) (defBody sd_Run_facts) (defScope sd_Run_facts) [] [] (He.fAd K ("Run", some "facts")) fd := T.c.t.d.def_ 31 rfl
theorem F_way_of (T : Tx w h K mg) : ∃ fd, FunD K "way_of" "way_of" (defArgs sd_way_of) (defBody sd_way_of) (defScope sd_way_of) [] [] (He.fAd K ("way_of", none)) fd := T.c.t.d.def_ 32 rfl
theorem F_Walker___init__ (T : Tx w h K mg) : ∃ fd, FunD K "__init__" "Walker.__init__" (defArgs sd_Walker___init__) (defBody sd_Walker___init__) (defScope sd_Walker___init__) [] [] (He.fAd K ("Walker", some "__init__")) fd := T.c.t.d.def_ 33 rfl
theorem F_Walker_is_waiting (T : Tx w h K mg) : ∃ fd, FunD K "is_waiting" "Walker.is_waiting" (defArgs sd_Walker_is_waiting) (defBody sd_Walker_is_waiting) (defScope sd_Walker_is_waiting) [] [] (He.fAd K ("Walker", some "is_waiting")) fd := T.c.t.d.def_ 34 rfl
theorem F_Walker_leave (T : Tx w h K mg) : ∃ fd, FunD K "leave" "Walker.leave" (defArgs sd_Walker_leave) (defBody sd_Walker_leave) (defScope sd_Walker_leave) [] [] (He.fAd K ("Walker", some "leave")) fd := T.c.t.d.def_ 35 rfl
theorem F_Walker_do_place (T : Tx w h K mg) : ∃ fd, FunD K "do_place" "Walker.do_place" (defArgs sd_Walker_do_place) (defBody sd_Walker_do_place) (defScope sd_Walker_do_place) [] [] (He.fAd K ("Walker", some "do_place")) fd := T.c.t.d.def_ 36 rfl
theorem F_Walker_go_on (T : Tx w h K mg) : ∃ fd, FunD K "go_on" "Walker.go_on" (defArgs sd_Walker_go_on) (defBody sd_Walker_go_on) (defScope sd_Walker_go_on) [] [] (He.fAd K ("Walker", some "go_on")) fd := T.c.t.d.def_ 37 rfl
theorem F_Walker_answer (T : Tx w h K mg) : ∃ fd, FunD K "answer" "Walker.answer" (defArgs sd_Walker_answer) (defBody sd_Walker_answer) (defScope sd_Walker_answer) [] [] (He.fAd K ("Walker", some "answer")) fd := T.c.t.d.def_ 38 rfl
theorem F_Walker_moment (T : Tx w h K mg) : ∃ fd, FunD K "moment" "Walker.moment" (defArgs sd_Walker_moment) (defBody sd_Walker_moment) (defScope sd_Walker_moment) [] [] (He.fAd K ("Walker", some "moment")) fd := T.c.t.d.def_ 39 rfl
theorem F_check_answers (T : Tx w h K mg) : ∃ fd, FunD K "check_answers" "check_answers" (defArgs sd_check_answers) (defBody sd_check_answers) (defScope sd_check_answers) [] [] (He.fAd K ("check_answers", none)) fd := T.c.t.d.def_ 40 rfl
theorem F_run (T : Tx w h K mg) : ∃ fd, FunD K "run" "run" (defArgs sd_run) (defBody sd_run) (defScope sd_run) [] [] (He.fAd K ("run", none)) fd := T.c.t.d.def_ 41 rfl
theorem F_Session___init__ (T : Tx w h K mg) : ∃ fd, FunD K "__init__" "Session.__init__" (defArgs sd_Session___init__) (defBody sd_Session___init__) (defScope sd_Session___init__) [] [] (He.fAd K ("Session", some "__init__")) fd := T.c.t.d.def_ 42 rfl
theorem F_Session_begin (T : Tx w h K mg) : ∃ fd, FunD K "begin" "Session.begin" (defArgs sd_Session_begin) (defBody sd_Session_begin) (defScope sd_Session_begin) [] [] (He.fAd K ("Session", some "begin")) fd := T.c.t.d.def_ 43 rfl
theorem F_Session___eq__ (T : Tx w h K mg) : ∃ fd, FunD K "__eq__" "Session.__eq__" (defArgs sd_Session___eq__) (defBody sd_Session___eq__) (defScope sd_Session___eq__) [] [] (He.fAd K ("Session", some "__eq__")) fd := T.c.t.d.def_ 44 rfl
theorem F_Session_code (T : Tx w h K mg) : ∃ fd, FunD K "code" "Session.code" (defArgs sd_Session_code) (defBody sd_Session_code) (defScope sd_Session_code) [] [] (He.fAd K ("Session", some "code")) fd := T.c.t.d.def_ 45 rfl
theorem F_Session_answers (T : Tx w h K mg) : ∃ fd, FunD K "answers" "Session.answers" (defArgs sd_Session_answers) (defBody sd_Session_answers) (defScope sd_Session_answers) [] [] (He.fAd K ("Session", some "answers")) fd := T.c.t.d.def_ 46 rfl
theorem F_Session_places (T : Tx w h K mg) : ∃ fd, FunD K "places" "Session.places" (defArgs sd_Session_places) (defBody sd_Session_places) (defScope sd_Session_places) [] [] (He.fAd K ("Session", some "places")) fd := T.c.t.d.def_ 47 rfl
theorem F_Session_now (T : Tx w h K mg) : ∃ fd, FunD K "now" "Session.now" (defArgs sd_Session_now) (defBody sd_Session_now) (defScope sd_Session_now) [] [] (He.fAd K ("Session", some "now")) fd := T.c.t.d.def_ 48 rfl
theorem F_Session_address (T : Tx w h K mg) : ∃ fd, FunD K "address" "Session.address" (defArgs sd_Session_address) (defBody sd_Session_address) (defScope sd_Session_address) [] [] (He.fAd K ("Session", some "address")) fd := T.c.t.d.def_ 49 rfl
theorem F_Session_answer (T : Tx w h K mg) : ∃ fd, FunD K "answer" "Session.answer" (defArgs sd_Session_answer) (defBody sd_Session_answer) (defScope sd_Session_answer) [] [] (He.fAd K ("Session", some "answer")) fd := T.c.t.d.def_ 50 rfl
theorem F_Session_undo (T : Tx w h K mg) : ∃ fd, FunD K "undo" "Session.undo" (defArgs sd_Session_undo) (defBody sd_Session_undo) (defScope sd_Session_undo) [] [] (He.fAd K ("Session", some "undo")) fd := T.c.t.d.def_ 51 rfl
theorem F_law_cell_at (T : Tx w h K mg) : ∃ fd, FunD K "_law_cell_at" "_law_cell_at" (defArgs sd_law_cell_at) (defBody sd_law_cell_at) (defScope sd_law_cell_at) [] [] (He.fAd K ("_law_cell_at", none)) fd := T.c.t.d.def_ 52 rfl
theorem F_law_source_of (T : Tx w h K mg) : ∃ fd, FunD K "_law_source_of" "_law_source_of" (defArgs sd_law_source_of) (defBody sd_law_source_of) (defScope sd_law_source_of) [] [] (He.fAd K ("_law_source_of", none)) fd := T.c.t.d.def_ 53 rfl
theorem F_law_draw (T : Tx w h K mg) : ∃ fd, FunD K "_law_draw" "_law_draw" (defArgs sd_law_draw) (defBody sd_law_draw) (defScope sd_law_draw) [] [] (He.fAd K ("_law_draw", none)) fd := T.c.t.d.def_ 54 rfl
theorem F_law_one (T : Tx w h K mg) : ∃ fd, FunD K "_law_one" "_law_one" (defArgs sd_law_one) (defBody sd_law_one) (defScope sd_law_one) [] [] (He.fAd K ("_law_one", none)) fd := T.c.t.d.def_ 55 rfl
theorem F_law_leaf (T : Tx w h K mg) : ∃ fd, FunD K "_law_leaf" "_law_leaf" (defArgs sd_law_leaf) (defBody sd_law_leaf) (defScope sd_law_leaf) [] [] (He.fAd K ("_law_leaf", none)) fd := T.c.t.d.def_ 56 rfl
theorem F_law_statement (T : Tx w h K mg) : ∃ fd, FunD K "_law_statement" "_law_statement" (defArgs sd_law_statement) (defBody sd_law_statement) (defScope sd_law_statement) [] [] (He.fAd K ("_law_statement", none)) fd := T.c.t.d.def_ 57 rfl
theorem F_law_said (T : Tx w h K mg) : ∃ fd, FunD K "_law_said" "_law_said" (defArgs sd_law_said) (defBody sd_law_said) (defScope sd_law_said) [] [] (He.fAd K ("_law_said", none)) fd := T.c.t.d.def_ 58 rfl
theorem F_law_refused_right (T : Tx w h K mg) : ∃ fd, FunD K "_law_refused_right" "_law_refused_right" (defArgs sd_law_refused_right) (defBody sd_law_refused_right) (defScope sd_law_refused_right) [] [] (He.fAd K ("_law_refused_right", none)) fd := T.c.t.d.def_ 59 rfl
theorem F_law_most_right (T : Tx w h K mg) : ∃ fd, FunD K "_law_most_right" "_law_most_right" (defArgs sd_law_most_right) (defBody sd_law_most_right) (defScope sd_law_most_right) [] [] (He.fAd K ("_law_most_right", none)) fd := T.c.t.d.def_ 60 rfl
theorem F_law (T : Tx w h K mg) : ∃ fd, FunD K "law" "law" (defArgs sd_law) (defBody sd_law) (defScope sd_law) [] [] (He.fAd K ("law", none)) fd := T.c.t.d.def_ 61 rfl
theorem t_NAMED (T : Tx w h K mg) (H : Hp) : SqT K H (He.ga K "NAMED") [.str "do", .str "call", .str "if", .str "while"] := He.tupB_ok (x := "NAMED") (vs := [.str "do", .str "call", .str "if", .str "while"]) (He.ba (He.ba (He.ba (He.ba (He.ba (He.ba (He.ba (He.ba (He.ba (He.ba (He.ba (He.ba (He.ba (He.ba (He.ba (He.ba (He.ba (He.ba (He.ba T.c.more).1).1).1).1).1).1).1).1).1).1).1).1).1).1).1).1).1).1).1 H
theorem t_JUMPS (T : Tx w h K mg) (H : Hp) : SqT K H (He.ga K "JUMPS") [.str "break", .str "continue"] := He.tupB_ok (x := "JUMPS") (vs := [.str "break", .str "continue"]) (He.ba (He.ba (He.ba (He.ba (He.ba (He.ba (He.ba (He.ba (He.ba (He.ba (He.ba (He.ba (He.ba (He.ba (He.ba (He.ba (He.ba (He.ba (He.ba T.c.more).1).1).1).1).1).1).1).1).1).1).1).1).1).1).1).1).1).1).2 H
theorem t_ASKING_code (T : Tx w h K mg) (H : Hp) : SqT K H (He.ga K "ASKING_code") [.str "call", .str "if", .str "while"] := He.tupB_ok (x := "ASKING_code") (vs := [.str "call", .str "if", .str "while"]) (He.ba (He.ba (He.ba (He.ba (He.ba (He.ba (He.ba (He.ba (He.ba (He.ba (He.ba (He.ba (He.ba (He.ba (He.ba (He.ba (He.ba (He.ba T.c.more).1).1).1).1).1).1).1).1).1).1).1).1).1).1).1).1).1).2 H
theorem t_NORMAL_runs (T : Tx w h K mg) (H : Hp) : SqT K H (He.ga K "NORMAL_runs") [.str "normal"] := He.tupB_ok (x := "NORMAL_runs") (vs := [.str "normal"]) (He.ba (He.ba (He.ba (He.ba (He.ba (He.ba (He.ba (He.ba (He.ba (He.ba (He.ba (He.ba (He.ba (He.ba (He.ba (He.ba (He.ba T.c.more).1).1).1).1).1).1).1).1).1).1).1).1).1).1).1).1).2 H
theorem t_RAISE_runs (T : Tx w h K mg) (H : Hp) : SqT K H (He.ga K "RAISE_runs") [.str "raise"] := He.tupB_ok (x := "RAISE_runs") (vs := [.str "raise"]) (He.ba (He.ba (He.ba (He.ba (He.ba (He.ba (He.ba (He.ba (He.ba (He.ba (He.ba (He.ba (He.ba (He.ba (He.ba (He.ba T.c.more).1).1).1).1).1).1).1).1).1).1).1).1).1).1).1).2 H
theorem d_SIZES (T : Tx w h K mg) : ∃ es n, KDict K w (He.ga K "SIZES") es n := T.c.t.tab 0 rfl
theorem dk_SIZES (T : Tx w h K mg) : He.dicW K (He.ga K "SIZES") = some (He.keysIn w.params ["do", "call", "if", "while", "seq", "break", "continue", "return", "raise", "try", "final"]) := Option.some.inj (show some (He.dicW K (He.ga K "SIZES")) = some (some (He.keysIn w.params ["do", "call", "if", "while", "seq", "break", "continue", "return", "raise", "try", "final"])) from congrArg (fun z : He.AlT => z.2[0]?) T.c.t)
theorem v_SIZES (T : Tx w h K mg) {q : Str × He.Dv} (hq : q ∈ ([("do", .int 2), ("call", .int 2), ("if", .int 4), ("while", .int 3), ("seq", .int 2), ("break", .int 2), ("continue", .int 2), ("return", .int 1), ("raise", .int 1), ("try", .int 3), ("final", .int 3)] : List (Str × He.Dv))) : ∃ u, PySem.W.nsIn K (He.ga K "SIZES") q.1 = some (some u) ∧ RelV (q.2.v K) u := He.valsB_ok (He.ba (He.ba (He.ba (He.ba (He.ba (He.ba (He.ba (He.ba (He.ba (He.ba (He.ba (He.ba (He.ba (He.ba (He.ba T.c.more).1).1).1).1).1).1).1).1).1).1).1).1).1).1).2 hq
theorem d_ENDS_runs (T : Tx w h K mg) : ∃ es n, KDict K w (He.ga K "ENDS_runs") es n := T.c.t.tab 1 rfl
theorem dk_ENDS_runs (T : Tx w h K mg) : He.dicW K (He.ga K "ENDS_runs") = some (He.keysIn w.params ["normal", "return", "raise"]) := Option.some.inj (show some (He.dicW K (He.ga K "ENDS_runs")) = some (some (He.keysIn w.params ["normal", "return", "raise"])) from congrArg (fun z : He.AlT => z.2[1]?) T.c.t)
theorem v_ENDS_runs (T : Tx w h K mg) {q : Str × He.Dv} (hq : q ∈ ([("normal", .str "end"), ("return", .str "return"), ("raise", .str "raise")] : List (Str × He.Dv))) : ∃ u, PySem.W.nsIn K (He.ga K "ENDS_runs") q.1 = some (some u) ∧ RelV (q.2.v K) u := He.valsB_ok (He.ba (He.ba (He.ba (He.ba (He.ba (He.ba (He.ba (He.ba (He.ba (He.ba (He.ba (He.ba (He.ba (He.ba T.c.more).1).1).1).1).1).1).1).1).1).1).1).1).1).2 hq
theorem x_CopyError (T : Tx w h K mg) : FcX.XC K (He.ga K "CopyError") := FcX.xcB_ok (He.ba ((He.ba (He.ba (He.ba (He.ba (He.ba (He.ba (He.ba (He.ba (He.ba (He.ba (He.ba (He.ba (He.ba T.c.more).1).1).1).1).1).1).1).1).1).1).1).1).2)).1
theorem xi_CopyError (T : Tx w h K mg) : PySem.W.excIn K (He.ga K "CopyError") FcX.aeT "ArithmeticError.__new__" = true := (He.ba ((He.ba (He.ba (He.ba (He.ba (He.ba (He.ba (He.ba (He.ba (He.ba (He.ba (He.ba (He.ba (He.ba T.c.more).1).1).1).1).1).1).1).1).1).1).1).1).2)).2
theorem x_InvalidCode (T : Tx w h K mg) : FcX.XC K (He.ga K "InvalidCode") := FcX.xcB_ok (He.ba ((He.ba (He.ba (He.ba (He.ba (He.ba (He.ba (He.ba (He.ba (He.ba (He.ba (He.ba (He.ba T.c.more).1).1).1).1).1).1).1).1).1).1).1).2)).1
theorem xi_InvalidCode (T : Tx w h K mg) : FcX.XI K (He.ga K "InvalidCode") (He.fAd K ("InvalidCode", some "__init__")) "number" := FcX.xiB_ok (He.ba ((He.ba (He.ba (He.ba (He.ba (He.ba (He.ba (He.ba (He.ba (He.ba (He.ba (He.ba (He.ba T.c.more).1).1).1).1).1).1).1).1).1).1).1).2)).2
theorem x_InvalidNumber (T : Tx w h K mg) : FcX.XC K (He.ga K "InvalidNumber") := FcX.xcB_ok (He.ba ((He.ba (He.ba (He.ba (He.ba (He.ba (He.ba (He.ba (He.ba (He.ba (He.ba (He.ba T.c.more).1).1).1).1).1).1).1).1).1).1).2)).1
theorem xi_InvalidNumber (T : Tx w h K mg) : FcX.XI K (He.ga K "InvalidNumber") (He.fAd K ("InvalidNumber", some "__init__")) "number" := FcX.xiB_ok (He.ba ((He.ba (He.ba (He.ba (He.ba (He.ba (He.ba (He.ba (He.ba (He.ba (He.ba (He.ba T.c.more).1).1).1).1).1).1).1).1).1).1).2)).2
theorem x_InvalidAnswers (T : Tx w h K mg) : FcX.XC K (He.ga K "InvalidAnswers") := FcX.xcB_ok (He.ba ((He.ba (He.ba (He.ba (He.ba (He.ba (He.ba (He.ba (He.ba (He.ba (He.ba T.c.more).1).1).1).1).1).1).1).1).1).2)).1
theorem xi_InvalidAnswers (T : Tx w h K mg) : FcX.XI K (He.ga K "InvalidAnswers") (He.fAd K ("InvalidAnswers", some "__init__")) "at" := FcX.xiB_ok (He.ba ((He.ba (He.ba (He.ba (He.ba (He.ba (He.ba (He.ba (He.ba (He.ba (He.ba T.c.more).1).1).1).1).1).1).1).1).1).2)).2
theorem x_InvalidBound (T : Tx w h K mg) : FcX.XC K (He.ga K "InvalidBound") := FcX.xcB_ok (He.ba ((He.ba (He.ba (He.ba (He.ba (He.ba (He.ba (He.ba (He.ba (He.ba T.c.more).1).1).1).1).1).1).1).1).2)).1
theorem xi_InvalidBound (T : Tx w h K mg) : FcX.XI K (He.ga K "InvalidBound") (He.fAd K ("InvalidBound", some "__init__")) "bound" := FcX.xiB_ok (He.ba ((He.ba (He.ba (He.ba (He.ba (He.ba (He.ba (He.ba (He.ba (He.ba T.c.more).1).1).1).1).1).1).1).1).2)).2
theorem x_NotWaiting (T : Tx w h K mg) : FcX.XC K (He.ga K "NotWaiting") := FcX.xcB_ok (He.ba ((He.ba (He.ba (He.ba (He.ba (He.ba (He.ba (He.ba (He.ba T.c.more).1).1).1).1).1).1).1).2)).1
theorem xi_NotWaiting (T : Tx w h K mg) : FcX.XI K (He.ga K "NotWaiting") (He.fAd K ("NotWaiting", some "__init__")) "end" := FcX.xiB_ok (He.ba ((He.ba (He.ba (He.ba (He.ba (He.ba (He.ba (He.ba (He.ba T.c.more).1).1).1).1).1).1).1).2)).2
theorem x_LimitExceeded (T : Tx w h K mg) : FcX.XC K (He.ga K "LimitExceeded") := FcX.xcB_ok (He.ba ((He.ba (He.ba (He.ba (He.ba (He.ba (He.ba (He.ba T.c.more).1).1).1).1).1).1).2)).1
theorem xi_LimitExceeded (T : Tx w h K mg) : FcX.XI K (He.ga K "LimitExceeded") (He.fAd K ("LimitExceeded", some "__init__")) "limit" := FcX.xiB_ok (He.ba ((He.ba (He.ba (He.ba (He.ba (He.ba (He.ba (He.ba T.c.more).1).1).1).1).1).1).2)).2
theorem xk (T : Tx w h K mg) : FcX.xkB K xN = true := (He.ba (He.ba (He.ba (He.ba (He.ba (He.ba T.c.more).1).1).1).1).1).2
theorem eq_Code (T : Tx w h K mg) : FcO.EqC K (He.ga K "Code") := FcO.eqB_ok (He.ba (He.ba (He.ba (He.ba (He.ba T.c.more).1).1).1).1).2
theorem eq_Run (T : Tx w h K mg) : FcO.EqC K (He.ga K "Run") := FcO.eqB_ok (He.ba (He.ba (He.ba (He.ba T.c.more).1).1).1).2
theorem eq_Session (T : Tx w h K mg) : FcO.EqC K (He.ga K "Session") := FcO.eqB_ok (He.ba (He.ba (He.ba T.c.more).1).1).2
theorem xh (T : Tx w h K mg) : FcX.xhB K xN = true := (He.ba (He.ba T.c.more).1).2
theorem tnd (T : Tx w h K mg) : FcL.tabsN K tfL = true := (He.ba T.c.more).2
end
end Fc

set_option maxRecDepth 100000
set_option maxHeartbeats 4000000
namespace Fc
open PySem PySem.Spec PyProof.Rows L2 FcR
open Evl (Ex)
/-! ### written tables with text keys: a key that is not there -/
theorem find_none_of {P : Params} {z : Str} : ∀ {l : List DictEntry} {ks : List Str}, l.map He.keyOf = He.keysIn P ks → z ∉ ks → l.find? (·.key.isStr z) = none ∧ l.any (·.refKey) = false
  | [], _, _, _ => ⟨rfl, rfl⟩
  | e :: r, [], h, _ => by cases h
  | e :: r, k :: ks, h, hz => by
    have h1 : He.keyOf e :: r.map He.keyOf = some (k, PyData.keyHash P k) :: He.keysIn P ks := h
    injection h1 with h2 h3
    obtain ⟨i1, i2⟩ := find_none_of (z := z) h3 fun y => hz (List.mem_cons_of_mem _ y)
    unfold He.keyOf at h2
    split at h2
    · rename_i x t q
      have h4 := Option.some.inj h2
      obtain ⟨h5, h6⟩ := Prod.mk.inj h4
      have ne : x ≠ z := fun y => hz (by rw [← y, h5]; exact List.mem_cons_self)
      constructor
      · rw [List.find?_cons]
        have e1 : e.key.isStr z = false := by
          rw [q]
          show (x == z) = false
          simpa using ne
        rw [e1]
        exact i1
      · rw [List.any_cons, i2]
        have e2 : e.refKey = false := by
          unfold DictEntry.refKey
          rw [q] <;> rfl
        rw [e2] <;> rfl
    · cases h2
theorem ns_none {K : PySem.W.Frag} {P : Params} {a : Addr} {ks : List Str} {z : Str} (h : He.dicW K a = some (He.keysIn P ks)) (hz : z ∉ ks) : PySem.W.nsIn K a z = some none := by
  unfold He.dicW at h
  unfold PySem.W.nsIn
  cases q : K.lookup a with
  | none => rw [q] at h; cases h
  | some o =>
    obtain ⟨oc, od, dt, osl⟩ := o
    rw [q] at h
    cases oc with
    | type c =>
      cases od with
      | none =>
        cases dt with
        | dict es n =>
          have h1 : (match decide (c = "dict") && (osl.isEmpty && !(a == sysModules)) with
            | true => some (es.toList.map He.keyOf)
            | false => none) = some (He.keysIn P ks) := h
          split at h1
          · obtain ⟨i1, i2⟩ := find_none_of (z := z) (Option.some.inj h1) hz
            show (match es.toList.find? (·.key.isStr z) with
              | some e => some (some e.val)
              | none => if es.toList.any (·.refKey) then none else some none) = some none
            rw [i1, i2]
            rfl
          · cases h1
        | _ => cases h
      | some b => cases dt <;> cases h
    | _ => cases od <;> cases dt <;> cases h
/-! ### the kinds of data -/
def tyD : PyData → String
  | .none => "NoneType"
  | .bool _ => "bool"
  | .int _ => "int"
  | .str _ => "str"
  | .list _ => "list"
  | .tuple _ => "tuple"
  | .dict _ => "dict"
theorem ty_lst {K : PySem.W.Frag} {H : Hp} {a : Addr} {xs : List V} (h : SqL K H a xs) : TyX K H (.ref a) (.type "list") := by
  rcases h with (h | ⟨o, h⟩) | ⟨o, its, n, hk, hc, _⟩
  · exact .base (.lst h)
  · exact .base (.frz h)
  · exact .kList hk hc
theorem ty_tup {K : PySem.W.Frag} {H : Hp} {a : Addr} {xs : List V} (h : SqT K H a xs) : TyX K H (.ref a) (.type "tuple") := by
  rcases h with (h | ⟨o, h⟩) | ⟨o, its, n, hk, hc, _⟩
  · exact .base (.tup h)
  · exact .fTuple h
  · exact .kTuple hk hc
theorem dp_ty {K : PySem.W.Frag} {H : Hp} {v : V} {d : PyData} (h : Dp K H v d) : TyX K H v (.type (tyD d)) := by
  cases h with
  | non => exact .base .non
  | bl b => exact .base (.bl b)
  | int i => exact .base (.int i)
  | str x => exact .base (.str x)
  | lst h _ => exact ty_lst h
  | tup h _ => exact ty_tup h
def isT (n : String) (d : PyData) : Bool := tyD d == n
theorem k_str {K : PySem.W.Frag} : ∀ d : PyData, PySem.W.kitOne K (.type (tyD d)) (.type "str") = some (isT "str" d)
  | .none => kit_ty (show kitB "NoneType" "str" = some false by decide +kernel)
  | .bool _ => kit_ty (show kitB "bool" "str" = some false by decide +kernel)
  | .int _ => kit_ty (show kitB "int" "str" = some false by decide +kernel)
  | .str _ => kit_ty (show kitB "str" "str" = some true by decide +kernel)
  | .list _ => kit_ty (show kitB "list" "str" = some false by decide +kernel)
  | .tuple _ => kit_ty (show kitB "tuple" "str" = some false by decide +kernel)
  | .dict _ => kit_ty (show kitB "dict" "str" = some false by decide +kernel)
theorem k_tuple {K : PySem.W.Frag} : ∀ d : PyData, PySem.W.kitOne K (.type (tyD d)) (.type "tuple") = some (isT "tuple" d)
  | .none => kit_ty (show kitB "NoneType" "tuple" = some false by decide +kernel)
  | .bool _ => kit_ty (show kitB "bool" "tuple" = some false by decide +kernel)
  | .int _ => kit_ty (show kitB "int" "tuple" = some false by decide +kernel)
  | .str _ => kit_ty (show kitB "str" "tuple" = some false by decide +kernel)
  | .list _ => kit_ty (show kitB "list" "tuple" = some false by decide +kernel)
  | .tuple _ => kit_ty (show kitB "tuple" "tuple" = some true by decide +kernel)
  | .dict _ => kit_ty (show kitB "dict" "tuple" = some false by decide +kernel)
theorem k_list {K : PySem.W.Frag} : ∀ d : PyData, PySem.W.kitOne K (.type (tyD d)) (.type "list") = some (isT "list" d)
  | .none => kit_ty (show kitB "NoneType" "list" = some false by decide +kernel)
  | .bool _ => kit_ty (show kitB "bool" "list" = some false by decide +kernel)
  | .int _ => kit_ty (show kitB "int" "list" = some false by decide +kernel)
  | .str _ => kit_ty (show kitB "str" "list" = some false by decide +kernel)
  | .list _ => kit_ty (show kitB "list" "list" = some true by decide +kernel)
  | .tuple _ => kit_ty (show kitB "tuple" "list" = some false by decide +kernel)
  | .dict _ => kit_ty (show kitB "dict" "list" = some false by decide +kernel)
theorem k_bool {K : PySem.W.Frag} : ∀ d : PyData, PySem.W.kitOne K (.type (tyD d)) (.type "bool") = some (isT "bool" d)
  | .none => kit_ty (show kitB "NoneType" "bool" = some false by decide +kernel)
  | .bool _ => kit_ty (show kitB "bool" "bool" = some true by decide +kernel)
  | .int _ => kit_ty (show kitB "int" "bool" = some false by decide +kernel)
  | .str _ => kit_ty (show kitB "str" "bool" = some false by decide +kernel)
  | .list _ => kit_ty (show kitB "list" "bool" = some false by decide +kernel)
  | .tuple _ => kit_ty (show kitB "tuple" "bool" = some false by decide +kernel)
  | .dict _ => kit_ty (show kitB "dict" "bool" = some false by decide +kernel)
def isIntB : PyData → Bool
  | .int _ => true
  | .bool _ => true
  | _ => false
theorem k_int {K : PySem.W.Frag} : ∀ d : PyData, PySem.W.kitOne K (.type (tyD d)) (.type "int") = some (isIntB d)
  | .none => kit_ty (show kitB "NoneType" "int" = some false by decide +kernel)
  | .bool _ => kit_ty (show kitB "bool" "int" = some true by decide +kernel)
  | .int _ => kit_ty (show kitB "int" "int" = some true by decide +kernel)
  | .str _ => kit_ty (show kitB "str" "int" = some false by decide +kernel)
  | .list _ => kit_ty (show kitB "list" "int" = some false by decide +kernel)
  | .tuple _ => kit_ty (show kitB "tuple" "int" = some false by decide +kernel)
  | .dict _ => kit_ty (show kitB "dict" "int" = some false by decide +kernel)
/-! ### names and statements -/
def letters : List Nat := (Str.ofString "abcdefghijklmnopqrstuvwxyz").cps.toList
def nameOk (x : Str) : Bool := (decide ((1 : Int) ≤ x.length) && decide ((x.length : Int) ≤ 8)) && x.cps.toList.all fun c => decide (c ∈ letters)
def isName : PyData → Bool
  | .str x => nameOk x
  | _ => false
def isNum (lo hi : Int) : PyData → Bool
  | .int n => decide (lo ≤ n) && decide (n ≤ hi)
  | _ => false
def kNamed : List Str := ["do", "call", "if", "while"]
def kJumps : List Str := ["break", "continue"]
def kSizes : List (Str × Int) := [("do", 2), ("call", 2), ("if", 4), ("while", 3), ("seq", 2), ("break", 2), ("continue", 2), ("return", 1), ("raise", 1), ("try", 3), ("final", 3)]
def nonEmptyT : PyData → Bool
  | .tuple (_ :: _) => true
  | _ => false
def isStm : PyData → Int → Bool
  | .tuple (.str k :: r), loops => (match kSizes.lookup k with
    | none => false
    | some n => if (r.length : Int) + 1 ≠ n then false else
      if k ∈ kNamed then isName (r.getD 0 .none) else if k ∈ kJumps then isNum 1 loops (r.getD 0 .none) else
        (if k ≠ "seq" then true else nonEmptyT (r.getD 0 .none)))
  | _, _ => false
/-- the parts that are looked at -/
def partsD : PyData → List PyData
  | .tuple (.str k :: r) => if k = "seq" then (match r with
      | .tuple ps :: _ => ps.take 401
      | _ => []) else if k ∈ kNamed then r.drop 1 else if k = "try" ∨ k = "final" then r else []
  | _ => []
end Fc

set_option maxRecDepth 100000
set_option maxHeartbeats 4000000
namespace Fc
open PySem PySem.Spec PyProof.Rows L2 FcR
open Evl (Ex)
def fl_Session (v0 v1 v2 v3 : V) : List (Str × V) := [("source", v0), ("given", v1), ("walker", v2), ("done", v3)]
theorem fl_Session_source (v0 v1 v2 v3 : V) : (fl_Session v0 v1 v2 v3).lookup ("source" : Str) = some v0 := by kernel_rfl
theorem fp_Session_source (v0 v1 v2 v3 y : V) : putF "source" y (fl_Session v0 v1 v2 v3) = fl_Session y v1 v2 v3 := by kernel_rfl
theorem fl_Session_given (v0 v1 v2 v3 : V) : (fl_Session v0 v1 v2 v3).lookup ("given" : Str) = some v1 := by kernel_rfl
theorem fp_Session_given (v0 v1 v2 v3 y : V) : putF "given" y (fl_Session v0 v1 v2 v3) = fl_Session v0 y v2 v3 := by kernel_rfl
theorem fl_Session_walker (v0 v1 v2 v3 : V) : (fl_Session v0 v1 v2 v3).lookup ("walker" : Str) = some v2 := by kernel_rfl
theorem fp_Session_walker (v0 v1 v2 v3 y : V) : putF "walker" y (fl_Session v0 v1 v2 v3) = fl_Session v0 v1 y v3 := by kernel_rfl
theorem fl_Session_done (v0 v1 v2 v3 : V) : (fl_Session v0 v1 v2 v3).lookup ("done" : Str) = some v3 := by kernel_rfl
theorem fp_Session_done (v0 v1 v2 v3 y : V) : putF "done" y (fl_Session v0 v1 v2 v3) = fl_Session v0 v1 v2 y := by kernel_rfl
theorem fm_Session_begin (v0 v1 v2 v3 : V) : (fl_Session v0 v1 v2 v3).lookup ("begin" : Str) = none := by kernel_rfl
theorem fm_Session_code (v0 v1 v2 v3 : V) : (fl_Session v0 v1 v2 v3).lookup ("code" : Str) = none := by kernel_rfl
theorem fm_Session_answers (v0 v1 v2 v3 : V) : (fl_Session v0 v1 v2 v3).lookup ("answers" : Str) = none := by kernel_rfl
theorem fm_Session_places (v0 v1 v2 v3 : V) : (fl_Session v0 v1 v2 v3).lookup ("places" : Str) = none := by kernel_rfl
theorem fm_Session_now (v0 v1 v2 v3 : V) : (fl_Session v0 v1 v2 v3).lookup ("now" : Str) = none := by kernel_rfl
theorem fm_Session_answer (v0 v1 v2 v3 : V) : (fl_Session v0 v1 v2 v3).lookup ("answer" : Str) = none := by kernel_rfl
theorem fm_Session_undo (v0 v1 v2 v3 : V) : (fl_Session v0 v1 v2 v3).lookup ("undo" : Str) = none := by kernel_rfl
theorem fi_Session_0 (v0 : V) : putF "source" v0 ([] : List (Str × V)) = ([(("source" : Str), v0)] : List (Str × V)) := by kernel_rfl
theorem fi_Session_1 (v0 v1 : V) : putF "given" v1 ([(("source" : Str), v0)] : List (Str × V)) = ([(("source" : Str), v0), (("given" : Str), v1)] : List (Str × V)) := by kernel_rfl
theorem fi_Session_2 (v0 v1 v2 : V) : putF "walker" v2 ([(("source" : Str), v0), (("given" : Str), v1)] : List (Str × V)) = ([(("source" : Str), v0), (("given" : Str), v1), (("walker" : Str), v2)] : List (Str × V)) := by kernel_rfl
theorem fi_Session_3 (v0 v1 v2 v3 : V) : putF "done" v3 ([(("source" : Str), v0), (("given" : Str), v1), (("walker" : Str), v2)] : List (Str × V)) = ([(("source" : Str), v0), (("given" : Str), v1), (("walker" : Str), v2), (("done" : Str), v3)] : List (Str × V)) := by kernel_rfl

end Fc

set_option maxRecDepth 100000
set_option maxHeartbeats 4000000
namespace Fc
open PySem PySem.Spec PyProof.Rows L2 FcR
open Evl (Ex)
def sp_is_integer (K : PySem.W.Frag) : Sp := fun vs H Q _ => ∃ (v : V) (t : Value) (b1 b2 : Bool), vs = [v] ∧ TyX K H v t ∧ PySem.W.kitOne K t (.type "int") = some b1 ∧ PySem.W.kitOne K t (.type "bool") = some b2 ∧ Q (.bl (b1 && !b2)) H
def sp_is_between (K : PySem.W.Frag) : Sp := fun vs H Q _ => ∃ (v : V) (i j : Int), vs = [v, .int i, .int j] ∧
  ((∃ n, v = .int n ∧ Q (.bl (decide (i ≤ n) && decide (n ≤ j))) H) ∨ (∃ t b1 b2, TyX K H v t ∧ PySem.W.kitOne K t (.type "int") = some b1 ∧ PySem.W.kitOne K t (.type "bool") = some b2 ∧ (b1 && !b2) = false ∧ Q (.bl false) H))
theorem k_ii {K : PySem.W.Frag} : PySem.W.kitOne K (.type "int") (.type "int") = some true := kit_ty (by decide +kernel)
theorem k_ib {K : PySem.W.Frag} : PySem.W.kitOne K (.type "int") (.type "bool") = some false := kit_ty (by decide +kernel)
section
variable {P : Program} {w : World} {h : Heap} {K : PySem.W.Frag} {mg : Str → Option Value} {base : Heap}
abbrev N_is_integer : List Str := ["value"]
theorem sc_is_integer : FnScope N_is_integer ["value"] (defScope sd_is_integer) := ⟨rfl, rfl, rfl, by decide +kernel, rfl, by decide +kernel, by decide +kernel⟩
theorem ok_is_integer (T : Tx w h K mg) : Ok P w K mg base 1 ("is_integer", none) ["value"] (sp_is_integer K) := by
  obtain ⟨fd, F⟩ := F_is_integer T
  refine ⟨fd, ?_, F.bindsN (fun _ _ _ _ _ _ us hl => match us, hl with | [_], _ => rfl), F.kp⟩
  refine F.ok sc_is_integer (fun vs H Q E h => ?_) (fun cdv A outer s H vs Q E hr h => ?_)
  · obtain ⟨v, t, b1, b2, rfl, ty, k1, k2, q⟩ := h
    rfl
  · obtain ⟨v, t, b1, b2, rfl, ty, k1, k2, q⟩ := h
    refine ⟨_, PSs.nox (pss_one (ps_ret (pe_and (pe_callB call_isi rfl (fr_isinstance T) b_isinstance (pa_cons (pv 0) (pa_cons (pe_bltn (v := .ty "int") rfl (fr_int T) b_int rfl) pa_nil))) (pe_one (pe_not (pe_callB call_isi rfl (fr_isinstance T) b_isinstance (pa_cons (pv 0) (pa_cons (pe_bltn (v := .ty "bool") rfl (fr_bool T) b_bool rfl) pa_nil)))))))), ?_⟩
    refine ⟨_, rfl, v, .ty "int", t, _, b1, rfl, .ty _, ty, k1, _, rfl, ite_of (fun h1 => ?_) (fun h1 => ?_)⟩
    · subst h1
      exact ⟨_, rfl, v, .ty "bool", t, _, b2, rfl, .ty _, ty, k2, _, rfl, q⟩
    · subst h1
      exact q
abbrev N_is_between : List Str := ["value", "low", "high"]
theorem sc_is_between : FnScope N_is_between ["value", "low", "high"] (defScope sd_is_between) := ⟨rfl, rfl, rfl, by decide +kernel, rfl, by decide +kernel, by decide +kernel⟩
theorem ok_is_between (T : Tx w h K mg) : Ok P w K mg base 2 ("is_between", none) ["value", "low", "high"] (sp_is_between K) := by
  obtain ⟨fd, F⟩ := F_is_between T
  refine ⟨fd, ?_, F.bindsN (fun _ _ _ _ _ _ us hl => match us, hl with | [_, _, _], _ => rfl), F.kp⟩
  obtain ⟨fd_is_integer, G_is_integer, bi_is_integer, kp_is_integer⟩ := ok_is_integer (P := P) (base := base) T
  refine F.ok sc_is_between (fun vs H Q E h => ?_) (fun cdv A outer s H vs Q E hr h => ?_)
  · obtain ⟨v, i, j, rfl, q⟩ := h
    rfl
  · obtain ⟨v, i, j, rfl, q⟩ := h
    refine ⟨_, PSs.nox (pss_one (ps_ret (pe_and (pe_call G_is_integer (hr.mono (by decide)) rfl (g_is_integer T) kp_is_integer bi_is_integer .nil passF (pa_cons (pv 0) pa_nil)) (pe_one (pe_chain op_le op_le (pv 1) (pv 0) (pv 2)))))), ?_⟩
    rcases q with ⟨n, rfl, q⟩ | ⟨t, b1, b2, ty, k1, k2, hb, q⟩
    · refine ⟨_, rfl, .int n, .type "int", true, false, rfl, .base (.int n), k_ii, k_ib, _, rfl, itT rfl ?_⟩
      refine ⟨_, rfl, _, rfl, _, _, rfl, rfl, _, rfl, ite_of (fun h1 => ?_) (fun h1 => ?_)⟩
      · refine ⟨_, rfl, _, _, rfl, rfl, ?_⟩
        rw [h1] at q
        exact q
      · rw [h1] at q
        exact q
    · refine ⟨_, rfl, v, t, b1, b2, rfl, ty, k1, k2, _, rfl, itF hb q⟩
end

end Fc

set_option maxRecDepth 100000
set_option maxHeartbeats 4000000
namespace Fc
open PySem PySem.Spec PyProof.Rows L2 FcR
open Evl (Ex)
/-! ### names -/
def sp_is_name (K : PySem.W.Frag) : Sp := fun vs H Q _ => ∃ (v : V) (d : PyData), vs = [v] ∧ Dp K H v d ∧ (∀ x, d = .str x → x.length ≤ 100000) ∧ ∀ H', Ex H H' → Q (.bl (isName d)) H'
theorem take_one {α : Type} {l : List α} {i : Nat} {x : α} (h : l[i]? = some x) : l.take (i + 1) = l.take i ++ [x] := by
  rw [List.take_add_one, h] <;> rfl
section
variable {P : Program} {w : World} {h : Heap} {K : PySem.W.Frag} {mg : Str → Option Value} {base : Heap}
abbrev N_is_name : List Str := ["value", "sign"]
theorem sc_is_name : FnScope N_is_name ["value"] (defScope sd_is_name) := ⟨rfl, rfl, rfl, by decide +kernel, rfl, by decide +kernel, by decide +kernel⟩
theorem ok_is_name (T : Tx w h K mg) : Ok P w K mg base 1 ("is_name", none) ["value"] (sp_is_name K) := by
  obtain ⟨fd, F⟩ := F_is_name T
  refine ⟨fd, ?_, F.bindsN (fun _ _ _ _ _ _ us hl => match us, hl with | [_], _ => rfl), F.kp⟩
  obtain ⟨tm_LETTERS, m_LETTERS⟩ := i_LETTERS T
  obtain ⟨tm_MOST_LETTERS, m_MOST_LETTERS⟩ := i_MOST_LETTERS T
  refine F.ok sc_is_name (fun vs H Q E h => ?_) (fun cdv A outer s H vs Q E hr h => ?_)
  · obtain ⟨v, d, rfl, hd, hl, q⟩ := h
    rfl
  · obtain ⟨v, d, rfl, hd, hl, q⟩ := h
    refine ⟨_, PSs.nox (pss_one (ps_ret (pe_and (pe_callB call_isi rfl (fr_isinstance T) b_isinstance (pa_cons (pv 0) (pa_cons (pe_bltn (v := .ty "str") rfl (fr_str T) b_str rfl) pa_nil))) (pe_and (pe_chain op_le op_le pe_int (pe_callB call_len_str rfl (fr_len T) b_len (pa_cons (pv 0) pa_nil)) (pe_glob (v := .int 8) rfl m_MOST_LETTERS ⟨_, rfl⟩)) (pe_one (pe_callB (cr_all rfl) rfl (fr_all T) b_all (pa_cons (pe_lc (own := [("sign", 1)]) rfl sc_is_name.nd (pi_str (pv 0)) (blkOk_by (N := N_is_name) (sc := defScope sd_is_name) (by decide +kernel)) (fun _ _ _ _ _ => (pg_name (i := 1) sc_is_name.nd rfl (Or.inl rfl))) (fun _ _ _ _ _ => pts_nil) (fun _ _ _ _ _ => (pe_cmpR op_in_sign (pv 1) (pe_glob (v := .str "abcdefghijklmnopqrstuvwxyz") rfl m_LETTERS ⟨_, rfl⟩) (by rfl)))) pa_nil))))))), ?_⟩
    refine ⟨_, rfl, v, .ty "str", _, _, _, rfl, .ty _, dp_ty hd, k_str d, _, rfl, ite_of (fun h1 => ?_) (fun h1 => ?_)⟩
    · obtain ⟨x, rfl⟩ : ∃ x, d = .str x := by cases d <;> first | exact ⟨_, rfl⟩ | cases h1
      obtain rfl := dp_str hd
      have hx := hl x rfl
      have e1 : isName (.str x) = ((decide ((1 : Int) ≤ x.length) && decide ((x.length : Int) ≤ 8)) && x.cps.toList.all fun c => decide (c ∈ letters)) := rfl
      rw [e1] at q
      refine ⟨_, rfl, x, rfl, sz hx, _, _, rfl, rfl, _, rfl, ite_of (fun h2 => ?_) (fun h2 => ?_)⟩
      · refine ⟨_, _, rfl, rfl, _, rfl, ite_of (fun h3 => ?_) (fun h3 => ?_)⟩
        · refine ⟨_, rfl, x, rfl, fun D hD => lc_it walk_str (fun i H' => Ex H H' ∧ H' D = some (.lst ((x.cps.toList.take i).map fun c => V.bl (decide (c ∈ letters))))) ?_ (fun _ _ _ _ => True.intro) ?_ ?_⟩
          · exact ⟨exu (Evl.Ex.refl H) hD, upd_same⟩
          · rintro i y H1 H2 hi ⟨k1, k2⟩ ⟨rfl, c, hc, rfl⟩
            refine ⟨rfl, ?_⟩
            refine ⟨_, rfl, c, _, rfl, rfl, _, k2, szl ?_, exm k1 hD, ?_⟩
            · have e2 : x.cps.size = x.length := rfl
              rw [List.length_map, List.length_take]
              omega
            · have hc' : x.cps.toList[i]? = some c := by simpa using hc
              rw [take_one hc', List.map_append, upd_same] <;> rfl
          · rintro H1 ⟨k1, k2⟩
            refine ⟨D, x.cps.toList.map fun c => decide (c ∈ letters), rfl, Evl.sq_of ?_, ?_⟩
            · have e4 : x.cps.size = x.cps.toList.length := by simp
              rw [k2, e4, List.take_length, List.map_map] <;> rfl
            · rw [h2, h3] at q
              have e3 : ((x.cps.toList.map fun c => decide (c ∈ letters)).all id) = x.cps.toList.all fun c => decide (c ∈ letters) := by simp [List.all_map]
              rw [e3]
              exact q H1 k1
        · rw [h2, h3] at q
          exact q H (Evl.Ex.refl H)
      · refine ⟨_, rfl, itF rfl ?_⟩
        rw [h2] at q
        exact q H (Evl.Ex.refl H)
    · have e : isName d = false := by cases d <;> first | rfl | cases h1
      rw [e] at q
      exact q H (Evl.Ex.refl H)
end

end Fc

set_option maxRecDepth 100000
set_option maxHeartbeats 4000000
namespace Fc
open PySem PySem.Spec PyProof.Rows L2 FcR
open Evl (Ex)
/-! ### statements, whatever their parts are -/
theorem at0 {α : Type} {v : α} {r : List α} : atI (v :: r) 0 = some v := atI_nat (j := 0) rfl
theorem at1 {α : Type} {u v : α} {r : List α} : atI (u :: v :: r) 1 = some v := atI_nat (j := 1) rfl
theorem at2 {α : Type} {t u v : α} {r : List α} : atI (t :: u :: v :: r) 2 = some v := atI_nat (j := 2) rfl
def szD (d : PyData) : Prop := ∀ k x r, d = .tuple (k :: .str x :: r) → x.length ≤ 100000
def sp_is_statement (K : PySem.W.Frag) : Sp := fun vs H Q _ => ∃ (v : V) (d : PyData) (loops : Int), vs = [v, .int loops] ∧ Dp K H v d ∧ PyData.canLay0 d = true ∧ szD d ∧ ∀ H', Ex H H' → Q (.bl (isStm d loops)) H'
theorem eqv_nil (ds : List PyData) : PyData.eqv (.tuple ds) (.tuple []) = ds.isEmpty := by
  cases ds <;> simp [PyData.eqv, PyData.eqvAll]
theorem min_nil (d : PyData) : min d.depth (PyData.tuple []).depth ≤ 150 := Nat.le_trans (Nat.min_le_right _ _) (by decide)
theorem inV_strs (k : Str) (l : List Str) : inV (.str k) (l.map V.str) = decide (k ∈ l) := by
  unfold inV
  rw [List.any_map]
  induction l with
  | nil => rfl
  | cons a l ih =>
    rw [List.any_cons, ih]
    show ((a == k) || decide (k ∈ l)) = decide (k ∈ a :: l)
    by_cases h : a = k
    · subst h; simp
    · have h2 : (a == k) = false := by simpa using h
      have h3 : ¬ k = a := fun e => h e.symm
      simp [h2, h3]
theorem flat_strs (l : List Str) : (l.map V.str).all flatV = true := by
  rw [List.all_map]
  exact List.all_eq_true.mpr fun _ _ => rfl
theorem named_two {k : Str} {n : Int} (h : k ∈ kNamed) (e : kSizes.lookup k = some n) : 2 ≤ n := by
  simp only [kNamed, List.mem_cons, List.not_mem_nil, or_false] at h
  rcases h with rfl | rfl | rfl | rfl
  · have : kSizes.lookup ("do" : Str) = some 2 := by decide +kernel
    rw [this] at e; cases e; decide
  · have : kSizes.lookup ("call" : Str) = some 2 := by decide +kernel
    rw [this] at e; cases e; decide
  · have : kSizes.lookup ("if" : Str) = some 4 := by decide +kernel
    rw [this] at e; cases e; decide
  · have : kSizes.lookup ("while" : Str) = some 3 := by decide +kernel
    rw [this] at e; cases e; decide
theorem jumps_two {k : Str} {n : Int} (h : k ∈ kJumps) (e : kSizes.lookup k = some n) : n = 2 := by
  simp only [kJumps, List.mem_cons, List.not_mem_nil, or_false] at h
  rcases h with rfl | rfl
  · have : kSizes.lookup ("break" : Str) = some 2 := by decide +kernel
    rw [this] at e; cases e; rfl
  · have : kSizes.lookup ("continue" : Str) = some 2 := by decide +kernel
    rw [this] at e; cases e; rfl
theorem seq_two {n : Int} (e : kSizes.lookup ("seq" : Str) = some n) : n = 2 := by
  have : kSizes.lookup ("seq" : Str) = some 2 := by decide +kernel
  rw [this] at e; cases e; rfl
theorem lookup_mem {k : Str} {n : Int} : ∀ {l : List (Str × Int)}, l.lookup k = some n → (k, n) ∈ l
  | [], h => by cases h
  | (a, b) :: l, h => by
    rw [List.lookup_cons] at h
    by_cases e : k = a
    · subst e
      have e2 : (k == k) = true := by simp
      rw [e2] at h
      cases h
      exact List.mem_cons_self
    · have e2 : (k == a) = false := by simpa using e
      rw [e2] at h
      exact List.mem_cons_of_mem _ (lookup_mem h)
theorem lookup_none {k : Str} : ∀ {l : List (Str × Int)}, l.lookup k = none → k ∉ l.map (·.1)
  | [], _ => fun h => by cases h
  | (a, b) :: l, h => by
    rw [List.lookup_cons] at h
    by_cases e : k = a
    · subst e
      have e2 : (k == k) = true := by simp
      rw [e2] at h
      cases h
    · have e2 : (k == a) = false := by simpa using e
      rw [e2] at h
      intro m
      rcases List.mem_cons.mp m with m | m
      · exact e m
      · exact lookup_none h m
section
variable {P : Program} {w : World} {h : Heap} {K : PySem.W.Frag} {mg : Str → Option Value} {base : Heap}
theorem sizes_ns (T : Tx w h K mg) (k : Str) : ∃ r, PySem.W.nsIn K (He.ga K "SIZES") k = some r ∧ (match kSizes.lookup k with
    | none => r = none
    | some n => ∃ u, r = some u ∧ RelV (.int n) u) := by
  cases e : kSizes.lookup k with
  | none => exact ⟨none, ns_none (dk_SIZES T) (lookup_none e), rfl⟩
  | some n =>
    have m := lookup_mem e
    have m2 : (k, He.Dv.int n) ∈ ([("do", .int 2), ("call", .int 2), ("if", .int 4), ("while", .int 3), ("seq", .int 2), ("break", .int 2), ("continue", .int 2), ("return", .int 1), ("raise", .int 1), ("try", .int 3), ("final", .int 3)] : List (Str × He.Dv)) :=
      List.mem_map_of_mem (f := fun q : Str × Int => (q.1, He.Dv.int q.2)) m
    obtain ⟨u, e1, e2⟩ := v_SIZES T m2
    exact ⟨some u, e1, u, rfl, e2⟩
abbrev N_is_statement : List Str := ["value", "loops"]
theorem sc_is_statement : FnScope N_is_statement ["value", "loops"] (defScope sd_is_statement) := ⟨rfl, rfl, rfl, by decide +kernel, rfl, by decide +kernel, by decide +kernel⟩
theorem ok_is_statement (T : Tx w h K mg) : Ok P w K mg base 3 ("is_statement", none) ["value", "loops"] (sp_is_statement K) := by
  obtain ⟨fd, F⟩ := F_is_statement T
  refine ⟨fd, ?_, F.bindsN (fun _ _ _ _ _ _ us hl => match us, hl with | [_, _], _ => rfl), F.kp⟩
  obtain ⟨fd_is_between, G_is_between, bi_is_between, kp_is_between⟩ := ok_is_between (P := P) (base := base) T
  obtain ⟨fd_is_name, G_is_name, bi_is_name, kp_is_name⟩ := ok_is_name (P := P) (base := base) T
  obtain ⟨es, nE, D⟩ := d_SIZES T
  refine F.ok sc_is_statement (fun vs H Q E h => ?_) (fun cdv A outer s H vs Q E hr h => ?_)
  · obtain ⟨v, d, loops, rfl, hd, hc, hz, q⟩ := h
    rfl
  · obtain ⟨v, d, loops, rfl, hd, hc, hz, q⟩ := h
    refine ⟨_, PSs.nox (pss_cons (ps_if (PW.pt (pw_or (pt_not (pt_val (pe_callB call_isi rfl (fr_isinstance T) b_isinstance (pa_cons (pv 0) (pa_cons (pe_bltn (v := .ty "tuple") rfl (fr_tuple T) b_tuple rfl) pa_nil))))) (pw_or (pt_cmpR (op_eqM hr) (pv 0) (pe_tup pa_nil) (nomark _)) (pw_or1 (pt_not (pt_val (pe_callB call_isi rfl (fr_isinstance T) b_isinstance (pa_cons (pe_ix ix_tup (pv 0) pe_int (fun _ _ => rfl)) (pa_cons (pe_bltn (v := .ty "str") rfl (fr_str T) b_str rfl) pa_nil))))))))) (pss_one (ps_ret pe_bl)) pss_nil) (pss_cons (ps_if (PW.pt (pw_or (pt_cmpR (op_notIn_kd D) (pe_ix ix_tup (pv 0) pe_int (fun _ _ => rfl)) (pe_glob (v := .ref (He.ga K "SIZES")) rfl (g_SIZES T) rfl) (by rfl)) (pw_or1 (pt_cmpR op_ne (pe_callB call_len_seq rfl (fr_len T) b_len (pa_cons (pv 0) pa_nil)) (pe_ix ix_kdict (pe_glob (v := .ref (He.ga K "SIZES")) rfl (g_SIZES T) rfl) (pe_ix ix_tup (pv 0) pe_int (fun _ _ => rfl)) (fun _ _ => rfl)) (nomark _))))) (pss_one (ps_ret pe_bl)) pss_nil) (pss_cons (ps_if (pt_cmpR op_in_seq (pe_ix ix_tup (pv 0) pe_int (fun _ _ => rfl)) (pe_glob (v := .ref (He.ga K "NAMED")) rfl (g_NAMED T) rfl) (by rfl)) (pss_one (ps_ret (pe_call G_is_name (hr.mono (by decide)) rfl (g_is_name T) kp_is_name bi_is_name .nil passF (pa_cons (pe_ix ix_tup (pv 0) pe_int (fun _ _ => rfl)) pa_nil)))) pss_nil) (pss_cons (ps_if (pt_cmpR op_in_seq (pe_ix ix_tup (pv 0) pe_int (fun _ _ => rfl)) (pe_glob (v := .ref (He.ga K "JUMPS")) rfl (g_JUMPS T) rfl) (by rfl)) (pss_one (ps_ret (pe_call G_is_between (hr.mono (by decide)) rfl (g_is_between T) kp_is_between bi_is_between .nil passF (pa_cons (pe_ix ix_tup (pv 0) pe_int (fun _ _ => rfl)) (pa_cons pe_int (pa_cons (pv 1) pa_nil)))))) pss_nil) (pss_one (ps_ret (pe_or (pe_cmpR op_ne (pe_ix ix_tup (pv 0) pe_int (fun _ _ => rfl)) pe_str (nomark _)) (pe_one (pe_and (pe_callB call_isi rfl (fr_isinstance T) b_isinstance (pa_cons (pe_ix ix_tup (pv 0) pe_int (fun _ _ => rfl)) (pa_cons (pe_bltn (v := .ty "tuple") rfl (fr_tuple T) b_tuple rfl) pa_nil))) (pe_one (pe_cmpR (op_neM hr) (pe_ix ix_tup (pv 0) pe_int (fun _ _ => rfl)) (pe_tup pa_nil) (nomark _)))))))))))), ?_⟩
    refine ⟨_, rfl, v, .ty "tuple", _, _, _, rfl, .ty _, dp_ty hd, k_tuple d, _, rfl, ite_of (fun h1 => ?_) (fun h1 => ?_)⟩
    · have e : isStm d loops = false := by cases d <;> first | rfl | cases h1
      rw [e] at q
      exact q H (Evl.Ex.refl H)
    obtain ⟨ds, rfl⟩ : ∃ ds, d = .tuple ds := by cases d <;> first | exact ⟨_, rfl⟩ | cases h1
    obtain ⟨a, xs, rfl, hS, hA⟩ := dp_tup hd
    -- value == ()
    refine ⟨_, rfl, sz (by decide), fun p hp => ?_⟩
    have x1 : Ex H (upd H p (.tup [])) := exu (Evl.Ex.refl H) hp
    refine ⟨.tuple ds, .tuple [], dp_ex x1 hd, .tup (Evl.st_of upd_same) .nil, hc, rfl, min_nil _, _, rfl, ite_of (fun h2 => ?_) (fun h2 => ?_)⟩
    · rw [eqv_nil] at h2
      cases ds with
      | nil => exact q _ x1
      | cons _ _ => cases h2
    rw [eqv_nil] at h2
    cases hA with
    | nil => cases h2
    | @cons v0 xr d0 dr h0 hA =>
    have hS1 := Evl.ex_t x1 hS
    -- not isinstance(value[0], str)
    refine ⟨_, rfl, a, _, _, _, rfl, rfl, hS1, at0, v0, .ty "str", _, _, _, rfl, .ty _, dp_ty (dp_ex x1 h0), k_str d0, _, rfl, ite_of (fun h3 => ?_) (fun h3 => ?_)⟩
    · have e : isStm (.tuple (d0 :: dr)) loops = false := by cases d0 <;> first | rfl | cases h3
      rw [e] at q
      exact q _ x1
    obtain ⟨k, rfl⟩ : ∃ k, d0 = .str k := by cases d0 <;> first | exact ⟨_, rfl⟩ | cases h3
    obtain rfl := dp_str h0
    have el := dpA_len hA
    obtain ⟨r, n1, n2⟩ := sizes_ns T k
    -- value[0] not in SIZES
    refine ⟨_, rfl, a, _, _, _, rfl, rfl, hS1, at0, k, r, rfl, rfl, n1, _, rfl, ite_of (fun h4 => ?_) (fun h4 => ?_)⟩
    · have e : isStm (.tuple (.str k :: dr)) loops = false := by
        cases e1 : kSizes.lookup k with
        | none => simp only [isStm, e1]
        | some n =>
          rw [e1] at n2
          obtain ⟨u, rfl, _⟩ := n2
          cases h4
      rw [e] at q
      exact q _ x1
    cases e1 : kSizes.lookup k with
    | none =>
      rw [e1] at n2
      subst n2
      cases h4
    | some n =>
    rw [e1] at n2
    obtain ⟨u, rfl, ru⟩ := n2
    have q' : ∀ b, (isStm (.tuple (.str k :: dr)) loops = b) → ∀ H', Ex H H' → Q (.bl b) H' := fun b e => by rw [← e]; exact q
    -- len(value) != SIZES[value[0]]
    refine ⟨_, rfl, a, _, rfl, .inr hS1, _, rfl, a, _, _, _, rfl, rfl, hS1, at0, _, k, .int n, rfl, rfl, ⟨es, nE, u, D.at_, D.lit, n1, ru⟩, rfl, _, rfl, ite_of (fun h5 => ?_) (fun h5 => ?_)⟩
    · refine q' false ?_ _ x1
      have h6 : ¬ ((dr.length : Int) + 1 = n) := by
        intro e
        have : decide (V.int ((V.str k :: xr).length : Int) = V.int n) = true := decide_eq_true (by rw [List.length_cons, el]; congr 1)
        rw [this] at h5
        cases h5
      simp only [isStm, e1, if_pos h6]
    have hn : (dr.length : Int) + 1 = n := by
      have h6 : decide (V.int ((V.str k :: xr).length : Int) = V.int n) = true := by
        cases z : decide (V.int ((V.str k :: xr).length : Int) = V.int n) with
        | true => rfl
        | false => rw [z] at h5; cases h5
      have h7 := V.int.inj (of_decide_eq_true h6)
      rw [List.length_cons, el] at h7
      omega
    have es0 : isStm (.tuple (.str k :: dr)) loops = (if k ∈ kNamed then isName (dr.getD 0 .none) else if k ∈ kJumps then isNum 1 loops (dr.getD 0 .none) else (if k ≠ "seq" then true else nonEmptyT (dr.getD 0 .none))) := by
      simp only [isStm, e1, if_neg (show ¬ ((dr.length : Int) + 1 ≠ n) from fun z => z hn)]
    -- value[0] in NAMED
    refine ⟨_, rfl, a, _, _, _, rfl, rfl, hS1, at0, He.ga K "NAMED", _, rfl, .inr (t_NAMED T _), rfl, flat_strs kNamed, _, rfl, ite_of (fun h6 => ?_) (fun h6 => ?_)⟩
    · have h6 : inV (.str k) (kNamed.map V.str) = true := h6
      rw [inV_strs] at h6
      have hk := of_decide_eq_true h6
      have n2 := named_two hk e1
      cases hA with
      | nil => simp at hn; omega
      | @cons v1 xr d1 dr g1 hA =>
      refine ⟨_, rfl, a, _, _, _, rfl, rfl, hS1, at1, v1, d1, rfl, dp_ex x1 g1, fun x e => hz (.str k) x dr (by rw [e]), fun H' x2 => q' _ ?_ H' (x1.trans x2)⟩
      rw [es0, if_pos hk] <;> rfl
    have h6 : inV (.str k) (kNamed.map V.str) = false := h6
    rw [inV_strs] at h6
    have hk : ¬ k ∈ kNamed := of_decide_eq_false h6
    -- value[0] in JUMPS
    refine ⟨_, rfl, a, _, _, _, rfl, rfl, hS1, at0, He.ga K "JUMPS", _, rfl, .inr (t_JUMPS T _), rfl, flat_strs kJumps, _, rfl, ite_of (fun h7 => ?_) (fun h7 => ?_)⟩
    · have h7 : inV (.str k) (kJumps.map V.str) = true := h7
      rw [inV_strs] at h7
      have hj := of_decide_eq_true h7
      have n2 := jumps_two hj e1
      cases hA with
      | nil => simp at hn; omega
      | @cons v1 xr d1 dr g1 hA =>
      have e2 : isStm (.tuple (.str k :: d1 :: dr)) loops = isNum 1 loops d1 := by rw [es0, if_neg hk, if_pos hj] <;> rfl
      refine ⟨_, rfl, a, _, _, _, rfl, rfl, hS1, at1, _, rfl, v1, 1, loops, rfl, ?_⟩
      cases d1 with
      | int m =>
        obtain rfl := dp_int g1
        exact .inl ⟨m, rfl, q' _ e2 _ x1⟩
      | _ => exact .inr ⟨_, _, _, dp_ty (dp_ex x1 g1), k_int _, k_bool _, rfl, q' _ e2 _ x1⟩
    have h7 : inV (.str k) (kJumps.map V.str) = false := h7
    rw [inV_strs] at h7
    have hj : ¬ k ∈ kJumps := of_decide_eq_false h7
    rw [if_neg hk, if_neg hj] at es0
    -- value[0] != 'seq' or ..
    refine ⟨_, rfl, a, _, _, _, rfl, rfl, hS1, at0, rfl, _, rfl, ite_of (fun h8 => ?_) (fun h8 => ?_)⟩
    · have hs : k ≠ "seq" := by
        intro e
        subst e
        have z : decide (V.str "seq" = V.str "seq") = true := decide_eq_true rfl
        rw [z] at h8
        cases h8
      exact q' true (by rw [es0, if_pos hs]) _ x1
    have hs : k = "seq" := by
      cases z : decide (V.str k = V.str "seq") with
      | true => exact V.str.inj (of_decide_eq_true z)
      | false => rw [z] at h8; cases h8
    subst hs
    have n2 := seq_two e1
    cases hA with
    | nil => simp at hn; omega
    | @cons v1 xr d1 dr g1 hA =>
    rw [if_neg (fun z => z rfl)] at es0
    refine ⟨_, rfl, a, _, _, _, rfl, rfl, hS1, at1, v1, .ty "tuple", _, _, _, rfl, .ty _, dp_ty (dp_ex x1 g1), k_tuple d1, _, rfl, ite_of (fun h9 => ?_) (fun h9 => ?_)⟩
    · obtain ⟨es2, rfl⟩ : ∃ ds, d1 = .tuple ds := by cases d1 <;> first | exact ⟨_, rfl⟩ | cases h9
      refine ⟨_, rfl, a, _, _, _, rfl, rfl, hS1, at1, sz (by decide), fun p2 hp2 => ?_⟩
      have x2 : Ex H (upd (upd H p (.tup [])) p2 (.tup [])) := exu x1 hp2
      have hc1 : PyData.canLay0 (.tuple es2) = true := by
        have z : (PyData.canLay0 (.str "seq") && (PyData.canLay0 (.tuple es2) && PyData.canLayAll0 dr)) = true := hc
        exact (Bool.and_eq_true_iff.mp (Bool.and_eq_true_iff.mp z).2).1
      refine ⟨.tuple es2, .tuple [], dp_ex x2 g1, .tup (Evl.st_of upd_same) .nil, hc1, rfl, min_nil _, q' _ ?_ _ x2⟩
      rw [es0, eqv_nil]
      cases es2 <;> rfl
    · refine q' false ?_ _ x1
      rw [es0]
      cases d1 <;> first | rfl | cases h9
end

end Fc

set_option maxRecDepth 100000
set_option maxHeartbeats 4000000
namespace Fc
open PySem PySem.Spec PyProof.Rows L2 FcR
open Evl (Ex)
/-! ### slices -/
theorem sIx_le (n d : Nat) (o : Option Int) (h : d ≤ n) : HT.sIx n d o ≤ n ∨ ∃ v, o = some v ∧ v < 0 := by
  cases o with
  | none => exact .inl h
  | some v =>
    by_cases hv : v < 0
    · exact .inr ⟨v, rfl, hv⟩
    · refine .inl ?_
      show (if v < 0 then (v + (n : Int)).toNat else min v.toNat n) ≤ n
      rw [if_neg hv]
      exact Nat.min_le_right _ _
theorem sl_any {K : PySem.W.Frag} {H : Hp} {a : Addr} {xs : List V} {lo hi : Option Int} {Q : VK} (hS : SqT K H a xs) (k : ∀ p H', Ex H H' → SqT K H' p (cutV xs lo hi) → Q (.ref p) H') : rSlA K (.ref a) lo hi H Q := by
  refine ⟨a, xs, rfl, hS, fun h => k a H (Evl.Ex.refl H) ?_, fun _ p hp => k p _ (exu (Evl.Ex.refl H) hp) (Evl.st_of upd_same)⟩
  have e : cutV xs lo hi = xs := by
    unfold cutV
    rw [h.1, h.2]
    simp
  rw [e]
  exact hS
theorem cut_from (xs : List V) (n : Nat) : cutV xs (some (n : Int)) none = xs.drop n := by
  unfold cutV
  rw [HT.sIx_none, HT.sIx_nat]
  by_cases h : n ≤ xs.length
  · rw [Nat.min_eq_left h, List.take_of_length_le (by rw [List.length_drop]; omega)]
  · rw [Nat.min_eq_right (by omega), List.drop_eq_nil_of_le (by omega), List.drop_eq_nil_of_le (by omega)]
    simp
theorem cut_to (xs : List V) (n : Nat) : cutV xs none (some (n : Int)) = xs.take n := by
  unfold cutV
  rw [HT.sIx_none, HT.sIx_nat]
  simp only [List.drop_zero, Nat.sub_zero]
  by_cases h : n ≤ xs.length
  · rw [Nat.min_eq_left h]
  · rw [Nat.min_eq_right (by omega), List.take_of_length_le (Nat.le_refl _), List.take_of_length_le (by omega)]
/-! ### the parts that are looked at -/
def sp_parts_in (K : PySem.W.Frag) : Sp := fun vs H Q _ => ∃ (F : Hp) (v : V) (d : PyData) (loops : Int), vs = [v] ∧ Ex F H ∧ Dp K F v d ∧ isStm d loops = true ∧
  ∀ p H' xs, H p = none → Ex H H' → H' p = some (.lst xs) → DpAll K F xs (partsD d) → Q (.ref p) H'
theorem isStm_shape {d : PyData} {loops : Int} (h : isStm d loops = true) : ∃ k r n, d = .tuple (.str k :: r) ∧ kSizes.lookup k = some n ∧ (r.length : Int) + 1 = n ∧
    (if k ∈ kNamed then isName (r.getD 0 .none) else if k ∈ kJumps then isNum 1 loops (r.getD 0 .none) else (if k ≠ "seq" then true else nonEmptyT (r.getD 0 .none))) = true := by
  unfold isStm at h
  split at h
  · rename_i k r
    split at h
    · cases h
    · rename_i n e
      split at h
      · cases h
      · rename_i hn
        exact ⟨k, r, n, rfl, e, Decidable.not_not.mp hn, h⟩
  · cases h
theorem fresh_up {H H' : Hp} {p : Addr} (e : Ex H H') (h : H' p = none) : H p = none := Evl.fresh_back e h
section
variable {P : Program} {w : World} {h : Heap} {K : PySem.W.Frag} {mg : Str → Option Value} {base : Heap}
abbrev N_parts_in : List Str := ["statement"]
theorem sc_parts_in : FnScope N_parts_in ["statement"] (defScope sd_parts_in) := ⟨rfl, rfl, rfl, by decide +kernel, rfl, by decide +kernel, by decide +kernel⟩
theorem ok_parts_in (T : Tx w h K mg) : Ok P w K mg base 1 ("parts_in", none) ["statement"] (sp_parts_in K) := by
  obtain ⟨fd, F⟩ := F_parts_in T
  refine ⟨fd, ?_, F.bindsN (fun _ _ _ _ _ _ us hl => match us, hl with | [_], _ => rfl), F.kp⟩
  obtain ⟨tm_MOST_STATEMENTS, m_MOST_STATEMENTS⟩ := i_MOST_STATEMENTS T
  refine F.ok sc_parts_in (fun vs H Q E h => ?_) (fun cdv A outer s H vs Q E hr h => ?_)
  · obtain ⟨F0, v, d, loops, rfl, xF, hd, hs, q⟩ := h
    rfl
  · obtain ⟨F0, v, d, loops, rfl, xF, hd, hs, q⟩ := h
    refine ⟨_, PSs.nox (pss_cons (ps_if (pt_cmpR op_eq (pe_ix ix_tup (pv 0) pe_int (fun _ _ => rfl)) pe_str (nomark _)) (pss_one (ps_ret (pe_callTy call_list_of rfl (fr_list T) b_list (pa_cons (pe_slice sl_tupA (pe_ix ix_tup (pv 0) pe_int (fun _ _ => rfl)) po_none (po_some (pe_op op_add (pe_glob (v := .int 400) rfl m_MOST_STATEMENTS ⟨_, rfl⟩) pe_int))) pa_nil)))) pss_nil) (pss_cons (ps_if (pt_cmpR op_in_seq (pe_ix ix_tup (pv 0) pe_int (fun _ _ => rfl)) (pe_glob (v := .ref (He.ga K "NAMED")) rfl (g_NAMED T) rfl) (by rfl)) (pss_one (ps_ret (pe_callTy call_list_of rfl (fr_list T) b_list (pa_cons (pe_slice sl_tupA (pv 0) (po_some pe_int) po_none) pa_nil)))) pss_nil) (pss_one (ps_ret (pe_ifExp (pt_cmpR op_in_seq (pe_ix ix_tup (pv 0) pe_int (fun _ _ => rfl)) (pe_tup (pa_cons pe_str (pa_cons pe_str pa_nil))) (by rfl)) (pe_callTy call_list_of rfl (fr_list T) b_list (pa_cons (pe_slice sl_tupA (pv 0) (po_some pe_int) po_none) pa_nil)) (pe_lst pa_nil)))))), ?_⟩
    obtain ⟨k, r, n, rfl, e1, hn, hs⟩ := isStm_shape hs
    obtain ⟨a, xs, rfl, hS, hA⟩ := dp_tup hd
    have hS := Evl.ex_t xF hS
    cases hA with
    | @cons v0 xr _ _ h0 hA =>
    obtain rfl := dp_str h0
    refine ⟨_, rfl, a, _, _, _, rfl, rfl, hS, at0, rfl, _, rfl, ite_of (fun h1 => ?_) (fun h1 => ?_)⟩
    · have hk : k = "seq" := V.str.inj (of_decide_eq_true h1)
      subst hk
      have n2 := seq_two e1
      have nn : ¬ (("seq" : Str) ∈ kNamed) := by decide +kernel
      have nj : ¬ (("seq" : Str) ∈ kJumps) := by decide +kernel
      rw [if_neg nn, if_neg nj, if_neg (fun z => z rfl)] at hs
      cases hA with
      | nil => simp at hn; omega
      | @cons v1 xr d1 dr g1 hA =>
      obtain ⟨ps, rfl⟩ : ∃ ps, d1 = .tuple ps := by cases d1 <;> first | exact ⟨_, rfl⟩ | cases hs
      obtain ⟨b, ys, rfl, gS, gA⟩ := dp_tup g1
      have gS := Evl.ex_t xF gS
      refine ⟨_, rfl, a, _, _, _, rfl, rfl, hS, at1, _, _, rfl, rfl, _, rfl, ?_⟩
      refine sl_any (lo := none) gS fun p H1 x1 s1 => ?_
      refine ⟨p, _, rfl, .inr s1, fun l hl => q l _ _ (fresh_up x1 hl) (exu x1 hl) upd_same ?_⟩
      rw [show ((400 : Int) + 1) = ((401 : Nat) : Int) from rfl, cut_to]
      exact dpA_take 401 gA
    have hk : ¬ k = "seq" := fun e => by
      have z : decide (V.str k = V.str "seq") = true := decide_eq_true (by rw [e])
      rw [z] at h1
      cases h1
    refine ⟨_, rfl, a, _, _, _, rfl, rfl, hS, at0, He.ga K "NAMED", _, rfl, .inr (t_NAMED T _), rfl, flat_strs kNamed, _, rfl, ite_of (fun h2 => ?_) (fun h2 => ?_)⟩
    · have h2 : inV (.str k) (kNamed.map V.str) = true := h2
      rw [inV_strs] at h2
      have hm := of_decide_eq_true h2
      refine ⟨_, rfl, _, rfl, ?_⟩
      dsimp only [tNoPart]
      refine sl_any (hi := none) hS fun p H1 x1 s1 => ?_
      refine ⟨p, _, rfl, .inr s1, fun l hl => q l _ _ (fresh_up x1 hl) (exu x1 hl) upd_same ?_⟩
      rw [show (2 : Int) = ((2 : Nat) : Int) from rfl, cut_from]
      show DpAll K F0 (xr.drop 1) (partsD (.tuple (.str k :: r)))
      rw [show partsD (.tuple (.str k :: r)) = r.drop 1 from by simp only [partsD, if_neg hk, if_pos hm]]
      exact dpA_drop 1 hA
    have h2 : inV (.str k) (kNamed.map V.str) = false := h2
    rw [inV_strs] at h2
    have hm : ¬ k ∈ kNamed := of_decide_eq_false h2
    refine ⟨_, rfl, a, _, _, _, rfl, rfl, hS, at0, sz (by decide), fun p0 hp0 => ⟨p0, _, rfl, .inr (Evl.st_of upd_same), rfl, flat_strs ["try", "final"], _, rfl, ite_of (fun h3 => ?_) (fun h3 => ?_)⟩⟩
    · have h3 : inV (.str k) ((["try", "final"] : List Str).map V.str) = true := h3
      rw [inV_strs] at h3
      have ht : k = "try" ∨ k = "final" := by simpa using of_decide_eq_true h3
      have x0 : Ex H (upd H p0 (.tup [.str "try", .str "final"])) := exu (Evl.Ex.refl H) hp0
      refine ⟨_, rfl, _, rfl, ?_⟩
      dsimp only [tNoPart]
      refine sl_any (hi := none) (Evl.ex_t x0 hS) fun p H1 x1 s1 => ?_
      have x2 := x0.trans x1
      refine ⟨p, _, rfl, .inr s1, fun l hl => q l _ _ (fresh_up x2 hl) (exu x2 hl) upd_same ?_⟩
      rw [show (1 : Int) = ((1 : Nat) : Int) from rfl, cut_from]
      show DpAll K F0 xr (partsD (.tuple (.str k :: r)))
      rw [show partsD (.tuple (.str k :: r)) = r from by simp only [partsD, if_neg hk, if_neg hm, if_pos ht]]
      exact hA
    · have h3 : inV (.str k) ((["try", "final"] : List Str).map V.str) = false := h3
      rw [inV_strs] at h3
      have ht : ¬ (k = "try" ∨ k = "final") := by simpa using of_decide_eq_false h3
      have x0 : Ex H (upd H p0 (.tup [.str "try", .str "final"])) := exu (Evl.Ex.refl H) hp0
      refine ⟨sz (by decide), fun l hl => q l _ _ (fresh_up x0 hl) (exu x0 hl) upd_same ?_⟩
      rw [show partsD (.tuple (.str k :: r)) = [] from by simp only [partsD, if_neg hk, if_neg hm, if_neg ht]]
      exact .nil
end

end Fc

set_option maxRecDepth 100000
set_option maxHeartbeats 4000000
namespace Fc
open PySem PySem.Spec PyProof.Rows L2 FcR
open Evl (Ex)
def fl_Code (v0 v1 v2 v3 v4 : V) : List (Str × V) := [("statements", v0), ("kinds", v1), ("labels", v2), ("parents", v3), ("children", v4)]
theorem fl_Code_statements (v0 v1 v2 v3 v4 : V) : (fl_Code v0 v1 v2 v3 v4).lookup ("statements" : Str) = some v0 := by kernel_rfl
theorem fp_Code_statements (v0 v1 v2 v3 v4 y : V) : putF "statements" y (fl_Code v0 v1 v2 v3 v4) = fl_Code y v1 v2 v3 v4 := by kernel_rfl
theorem fl_Code_kinds (v0 v1 v2 v3 v4 : V) : (fl_Code v0 v1 v2 v3 v4).lookup ("kinds" : Str) = some v1 := by kernel_rfl
theorem fp_Code_kinds (v0 v1 v2 v3 v4 y : V) : putF "kinds" y (fl_Code v0 v1 v2 v3 v4) = fl_Code v0 y v2 v3 v4 := by kernel_rfl
theorem fl_Code_labels (v0 v1 v2 v3 v4 : V) : (fl_Code v0 v1 v2 v3 v4).lookup ("labels" : Str) = some v2 := by kernel_rfl
theorem fp_Code_labels (v0 v1 v2 v3 v4 y : V) : putF "labels" y (fl_Code v0 v1 v2 v3 v4) = fl_Code v0 v1 y v3 v4 := by kernel_rfl
theorem fl_Code_parents (v0 v1 v2 v3 v4 : V) : (fl_Code v0 v1 v2 v3 v4).lookup ("parents" : Str) = some v3 := by kernel_rfl
theorem fp_Code_parents (v0 v1 v2 v3 v4 y : V) : putF "parents" y (fl_Code v0 v1 v2 v3 v4) = fl_Code v0 v1 v2 y v4 := by kernel_rfl
theorem fl_Code_children (v0 v1 v2 v3 v4 : V) : (fl_Code v0 v1 v2 v3 v4).lookup ("children" : Str) = some v4 := by kernel_rfl
theorem fp_Code_children (v0 v1 v2 v3 v4 y : V) : putF "children" y (fl_Code v0 v1 v2 v3 v4) = fl_Code v0 v1 v2 v3 y := by kernel_rfl
theorem fm_Code_check (v0 v1 v2 v3 v4 : V) : (fl_Code v0 v1 v2 v3 v4).lookup ("check" : Str) = none := by kernel_rfl
theorem fm_Code_keep (v0 v1 v2 v3 v4 : V) : (fl_Code v0 v1 v2 v3 v4).lookup ("keep" : Str) = none := by kernel_rfl
theorem fm_Code_check_number (v0 v1 v2 v3 v4 : V) : (fl_Code v0 v1 v2 v3 v4).lookup ("check_number" : Str) = none := by kernel_rfl
theorem fm_Code_kind (v0 v1 v2 v3 v4 : V) : (fl_Code v0 v1 v2 v3 v4).lookup ("kind" : Str) = none := by kernel_rfl
theorem fm_Code_entry_of (v0 v1 v2 v3 v4 : V) : (fl_Code v0 v1 v2 v3 v4).lookup ("entry_of" : Str) = none := by kernel_rfl
theorem fm_Code_is_place (v0 v1 v2 v3 v4 : V) : (fl_Code v0 v1 v2 v3 v4).lookup ("is_place" : Str) = none := by kernel_rfl
theorem fm_Code_parent (v0 v1 v2 v3 v4 : V) : (fl_Code v0 v1 v2 v3 v4).lookup ("parent" : Str) = none := by kernel_rfl
theorem fm_Code_parts (v0 v1 v2 v3 v4 : V) : (fl_Code v0 v1 v2 v3 v4).lookup ("parts" : Str) = none := by kernel_rfl
theorem fm_Code_places (v0 v1 v2 v3 v4 : V) : (fl_Code v0 v1 v2 v3 v4).lookup ("places" : Str) = none := by kernel_rfl
theorem fm_Code_entry (v0 v1 v2 v3 v4 : V) : (fl_Code v0 v1 v2 v3 v4).lookup ("entry" : Str) = none := by kernel_rfl
theorem fm_Code_layers (v0 v1 v2 v3 v4 : V) : (fl_Code v0 v1 v2 v3 v4).lookup ("layers" : Str) = none := by kernel_rfl
theorem fm_Code_layers_of (v0 v1 v2 v3 v4 : V) : (fl_Code v0 v1 v2 v3 v4).lookup ("layers_of" : Str) = none := by kernel_rfl
theorem fm_Code_check_place (v0 v1 v2 v3 v4 : V) : (fl_Code v0 v1 v2 v3 v4).lookup ("check_place" : Str) = none := by kernel_rfl
theorem fi_Code_0 (v0 : V) : putF "statements" v0 ([] : List (Str × V)) = ([(("statements" : Str), v0)] : List (Str × V)) := by kernel_rfl
theorem fi_Code_1 (v0 v1 : V) : putF "kinds" v1 ([(("statements" : Str), v0)] : List (Str × V)) = ([(("statements" : Str), v0), (("kinds" : Str), v1)] : List (Str × V)) := by kernel_rfl
theorem fi_Code_2 (v0 v1 v2 : V) : putF "labels" v2 ([(("statements" : Str), v0), (("kinds" : Str), v1)] : List (Str × V)) = ([(("statements" : Str), v0), (("kinds" : Str), v1), (("labels" : Str), v2)] : List (Str × V)) := by kernel_rfl
theorem fi_Code_3 (v0 v1 v2 v3 : V) : putF "parents" v3 ([(("statements" : Str), v0), (("kinds" : Str), v1), (("labels" : Str), v2)] : List (Str × V)) = ([(("statements" : Str), v0), (("kinds" : Str), v1), (("labels" : Str), v2), (("parents" : Str), v3)] : List (Str × V)) := by kernel_rfl
theorem fi_Code_4 (v0 v1 v2 v3 v4 : V) : putF "children" v4 ([(("statements" : Str), v0), (("kinds" : Str), v1), (("labels" : Str), v2), (("parents" : Str), v3)] : List (Str × V)) = ([(("statements" : Str), v0), (("kinds" : Str), v1), (("labels" : Str), v2), (("parents" : Str), v3), (("children" : Str), v4)] : List (Str × V)) := by kernel_rfl

end Fc

set_option maxRecDepth 100000
set_option maxHeartbeats 4000000
namespace Fc
open PySem PySem.Spec PyProof.Rows L2 FcR
open Evl (Ex)
/-! ### the rows of a code -/
structure Row where
  d : PyData
  par : Option Nat
  ch : List Nat
def kindD : PyData → Str
  | .tuple (.str k :: _) => k
  | _ => ""
def kLab : List Str := kNamed ++ kJumps
def labD : PyData → V
  | .tuple (.str k :: r) => if k ∈ kLab then (match r with
      | .str x :: _ => .str x
      | .int n :: _ => .int n
      | _ => .non) else .non
  | _ => .non
def parV : Option Nat → V
  | none => .non
  | some i => .int (i : Int)
def intsV (l : List Nat) : List V := l.map fun n : Nat => V.int (n : Int)
/-- where a code's lists stand -/
structure CAd where
  p : Addr
  dx : Addr
  a1 : Addr
  a2 : Addr
  a3 : Addr
  a4 : Addr
  a5 : Addr
  cs : List Addr
def CAd.all (A : CAd) : List Addr := A.p :: A.a1 :: A.a2 :: A.a3 :: A.a4 :: A.a5 :: A.cs
def cFs (A : CAd) : List (Str × V) := fl_Code (.ref A.a1) (.ref A.a2) (.ref A.a3) (.ref A.a4) (.ref A.a5)
/-- a code's lists as they stand in H -/
structure CL (K : PySem.W.Frag) (H : Hp) (A : CAd) (L1 L2 L3 L4 : List V) (Cs : List (List V)) : Prop where
  ob : H A.p = some (.ins (He.ga K "Code") A.dx (cFs A))
  h1 : H A.a1 = some (.lst L1)
  h2 : H A.a2 = some (.lst L2)
  h3 : H A.a3 = some (.lst L3)
  h4 : H A.a4 = some (.lst L4)
  h5 : H A.a5 = some (.lst (A.cs.map V.ref))
  cl : A.cs.length = Cs.length
  cc : ∀ (i : Nat) (c : Addr) (x : List V), A.cs[i]? = some c → Cs[i]? = some x → H c = some (.lst x)
  nd : A.all.Nodup
section
variable {K : PySem.W.Frag} {F H H' : Hp} {A : CAd} {L1 L2 L3 L4 : List V} {Cs : List (List V)}
theorem CL.ex (x : CL K H A L1 L2 L3 L4 Cs) (e : Ex H H') : CL K H' A L1 L2 L3 L4 Cs :=
  ⟨e _ _ x.ob, e _ _ x.h1, e _ _ x.h2, e _ _ x.h3, e _ _ x.h4, e _ _ x.h5, x.cl, fun i c y h1 h2 => e _ _ (x.cc i c y h1 h2), x.nd⟩
theorem CL.ne (x : CL K H A L1 L2 L3 L4 Cs) :
    (A.p ≠ A.a1 ∧ A.p ≠ A.a2 ∧ A.p ≠ A.a3 ∧ A.p ≠ A.a4 ∧ A.p ≠ A.a5 ∧ A.p ∉ A.cs) ∧ (A.a1 ≠ A.a2 ∧ A.a1 ≠ A.a3 ∧ A.a1 ≠ A.a4 ∧ A.a1 ≠ A.a5 ∧ A.a1 ∉ A.cs) ∧
    (A.a2 ≠ A.a3 ∧ A.a2 ≠ A.a4 ∧ A.a2 ≠ A.a5 ∧ A.a2 ∉ A.cs) ∧ (A.a3 ≠ A.a4 ∧ A.a3 ≠ A.a5 ∧ A.a3 ∉ A.cs) ∧ (A.a4 ≠ A.a5 ∧ A.a4 ∉ A.cs) ∧ A.a5 ∉ A.cs ∧ A.cs.Nodup := by
  have z := x.nd
  simp only [CAd.all, List.nodup_cons, List.mem_cons, not_or] at z
  exact ⟨z.1, z.2.1, z.2.2.1, z.2.2.2.1, z.2.2.2.2.1, z.2.2.2.2.2⟩
theorem CL.there (x : CL K H A L1 L2 L3 L4 Cs) {b : Addr} (hb : b ∈ A.all) : ∃ o, H b = some o := by
  simp only [CAd.all, List.mem_cons] at hb
  rcases hb with rfl | rfl | rfl | rfl | rfl | rfl | hb
  · exact ⟨_, x.ob⟩
  · exact ⟨_, x.h1⟩
  · exact ⟨_, x.h2⟩
  · exact ⟨_, x.h3⟩
  · exact ⟨_, x.h4⟩
  · exact ⟨_, x.h5⟩
  · obtain ⟨i, hi⟩ := List.mem_iff_getElem?.mp hb
    have l : i < Cs.length := by rw [← x.cl]; exact (List.getElem?_eq_some_iff.mp hi).1
    exact ⟨_, x.cc i b _ hi (List.getElem?_eq_getElem l)⟩
theorem CL.fresh (x : CL K H A L1 L2 L3 L4 Cs) {q : Addr} (h : H q = none) : q ∉ A.all := fun z => by
  obtain ⟨o, e⟩ := x.there z
  rw [h] at e
  cases e
theorem CL.off (x : CL K H A L1 L2 L3 L4 Cs) {q : Addr} {o : HO} (h : q ∉ A.all) : CL K (upd H q o) A L1 L2 L3 L4 Cs := by
  have n : ∀ {b : Addr}, b ∈ A.all → b ≠ q := fun hb e => h (e ▸ hb)
  have mc : ∀ {c : Addr}, c ∈ A.cs → c ∈ A.all := fun hc => by simp [CAd.all, hc]
  exact ⟨by rw [upd_ne (n (by simp [CAd.all]))]; exact x.ob, by rw [upd_ne (n (by simp [CAd.all]))]; exact x.h1, by rw [upd_ne (n (by simp [CAd.all]))]; exact x.h2, by rw [upd_ne (n (by simp [CAd.all]))]; exact x.h3,
    by rw [upd_ne (n (by simp [CAd.all]))]; exact x.h4, by rw [upd_ne (n (by simp [CAd.all]))]; exact x.h5, x.cl, fun i c y h1 h2 => by rw [upd_ne (n (mc (List.mem_of_getElem? h1)))]; exact x.cc i c y h1 h2, x.nd⟩
theorem nin {c b : Addr} {l : List Addr} (h : b ∉ l) (hc : c ∈ l) : c ≠ b := fun e => h (e ▸ hc)
theorem CL.s1 (x : CL K H A L1 L2 L3 L4 Cs) (y : List V) : CL K (upd H A.a1 (.lst y)) A y L2 L3 L4 Cs := by
  obtain ⟨⟨n1, n2, n3, n4, n5, n6⟩, ⟨m12, m13, m14, m15, m1⟩, ⟨m23, m24, m25, m2⟩, ⟨m34, m35, m3⟩, ⟨m45, m4⟩, m5, m6⟩ := x.ne
  exact ⟨by rw [upd_ne n1]; exact x.ob, upd_same, by rw [upd_ne m12.symm]; exact x.h2, by rw [upd_ne m13.symm]; exact x.h3, by rw [upd_ne m14.symm]; exact x.h4, by rw [upd_ne m15.symm]; exact x.h5, x.cl,
    fun i c z g1 g2 => by rw [upd_ne (nin m1 (List.mem_of_getElem? g1))]; exact x.cc i c z g1 g2, x.nd⟩
theorem CL.s2 (x : CL K H A L1 L2 L3 L4 Cs) (y : List V) : CL K (upd H A.a2 (.lst y)) A L1 y L3 L4 Cs := by
  obtain ⟨⟨n1, n2, n3, n4, n5, n6⟩, ⟨m12, m13, m14, m15, m1⟩, ⟨m23, m24, m25, m2⟩, ⟨m34, m35, m3⟩, ⟨m45, m4⟩, m5, m6⟩ := x.ne
  exact ⟨by rw [upd_ne n2]; exact x.ob, by rw [upd_ne m12]; exact x.h1, upd_same, by rw [upd_ne m23.symm]; exact x.h3, by rw [upd_ne m24.symm]; exact x.h4, by rw [upd_ne m25.symm]; exact x.h5, x.cl,
    fun i c z g1 g2 => by rw [upd_ne (nin m2 (List.mem_of_getElem? g1))]; exact x.cc i c z g1 g2, x.nd⟩
theorem CL.s3 (x : CL K H A L1 L2 L3 L4 Cs) (y : List V) : CL K (upd H A.a3 (.lst y)) A L1 L2 y L4 Cs := by
  obtain ⟨⟨n1, n2, n3, n4, n5, n6⟩, ⟨m12, m13, m14, m15, m1⟩, ⟨m23, m24, m25, m2⟩, ⟨m34, m35, m3⟩, ⟨m45, m4⟩, m5, m6⟩ := x.ne
  exact ⟨by rw [upd_ne n3]; exact x.ob, by rw [upd_ne m13]; exact x.h1, by rw [upd_ne m23]; exact x.h2, upd_same, by rw [upd_ne m34.symm]; exact x.h4, by rw [upd_ne m35.symm]; exact x.h5, x.cl,
    fun i c z g1 g2 => by rw [upd_ne (nin m3 (List.mem_of_getElem? g1))]; exact x.cc i c z g1 g2, x.nd⟩
theorem CL.s4 (x : CL K H A L1 L2 L3 L4 Cs) (y : List V) : CL K (upd H A.a4 (.lst y)) A L1 L2 L3 y Cs := by
  obtain ⟨⟨n1, n2, n3, n4, n5, n6⟩, ⟨m12, m13, m14, m15, m1⟩, ⟨m23, m24, m25, m2⟩, ⟨m34, m35, m3⟩, ⟨m45, m4⟩, m5, m6⟩ := x.ne
  exact ⟨by rw [upd_ne n4]; exact x.ob, by rw [upd_ne m14]; exact x.h1, by rw [upd_ne m24]; exact x.h2, by rw [upd_ne m34]; exact x.h3, upd_same, by rw [upd_ne m45.symm]; exact x.h5, x.cl,
    fun i c z g1 g2 => by rw [upd_ne (nin m4 (List.mem_of_getElem? g1))]; exact x.cc i c z g1 g2, x.nd⟩
theorem nd_get {α : Type} {l : List α} (h : l.Nodup) {i j : Nat} {x : α} (hi : l[i]? = some x) (hj : l[j]? = some x) : i = j := by
  obtain ⟨h1, e1⟩ := List.getElem?_eq_some_iff.mp hi
  obtain ⟨h2, e2⟩ := List.getElem?_eq_some_iff.mp hj
  exact (List.getElem_inj h).mp (e1.trans e2.symm)
theorem CL.child (x : CL K H A L1 L2 L3 L4 Cs) {i : Nat} {c : Addr} (hc : A.cs[i]? = some c) (y : List V) : CL K (upd H c (.lst y)) A L1 L2 L3 L4 (Cs.set i y) := by
  obtain ⟨⟨n1, n2, n3, n4, n5, n6⟩, ⟨m12, m13, m14, m15, m1⟩, ⟨m23, m24, m25, m2⟩, ⟨m34, m35, m3⟩, ⟨m45, m4⟩, m5, m6⟩ := x.ne
  have hm : c ∈ A.cs := List.mem_of_getElem? hc
  refine ⟨by rw [upd_ne (nin n6 hm).symm]; exact x.ob, by rw [upd_ne (nin m1 hm).symm]; exact x.h1, by rw [upd_ne (nin m2 hm).symm]; exact x.h2, by rw [upd_ne (nin m3 hm).symm]; exact x.h3, by rw [upd_ne (nin m4 hm).symm]; exact x.h4,
    by rw [upd_ne (nin m5 hm).symm]; exact x.h5, by rw [List.length_set]; exact x.cl, fun j c' z g1 g2 => ?_, x.nd⟩
  by_cases e : i = j
  · subst e
    rw [hc] at g1
    cases g1
    have l : i < Cs.length := by rw [← x.cl]; exact (List.getElem?_eq_some_iff.mp hc).1
    rw [List.getElem?_set_self l] at g2
    cases g2
    exact upd_same
  · rw [List.getElem?_set_ne e] at g2
    have nc : c' ≠ c := fun q => e (nd_get m6 hc (by rw [← q]; exact g1))
    rw [upd_ne nc]
    exact x.cc j c' z g1 g2
theorem CL.push (x : CL K H A L1 L2 L3 L4 Cs) {c : Addr} (hc : H c = none) : CL K (upd (upd H c (.lst [])) A.a5 (.lst (A.cs.map V.ref ++ [.ref c]))) { A with cs := A.cs ++ [c] } L1 L2 L3 L4 (Cs ++ [[]]) := by
  obtain ⟨⟨n1, n2, n3, n4, n5, n6⟩, ⟨m12, m13, m14, m15, m1⟩, ⟨m23, m24, m25, m2⟩, ⟨m34, m35, m3⟩, ⟨m45, m4⟩, m5, m6⟩ := x.ne
  have f := x.fresh hc
  have y := x.off (o := .lst []) f
  simp only [CAd.all, List.mem_cons, not_or] at f
  obtain ⟨f0, f1, f2, f3, f4, f5, f6⟩ := f
  refine ⟨by rw [upd_ne n5]; exact y.ob, by rw [upd_ne m15]; exact y.h1, by rw [upd_ne m25]; exact y.h2, by rw [upd_ne m35]; exact y.h3, by rw [upd_ne m45]; exact y.h4, ?_, by simp [x.cl], fun i c' z g1 g2 => ?_, ?_⟩
  · show upd _ A.a5 _ A.a5 = some (HO.lst ((A.cs ++ [c]).map V.ref))
    rw [upd_same, List.map_append] <;> rfl
  · have g1 : (A.cs ++ [c])[i]? = some c' := g1
    rcases Nat.lt_or_ge i A.cs.length with l | l
    · rw [List.getElem?_append_left l] at g1
      rw [List.getElem?_append_left (by rw [← x.cl]; exact l)] at g2
      rw [upd_ne (nin m5 (List.mem_of_getElem? g1))]
      exact y.cc i c' z g1 g2
    · rw [List.getElem?_append_right l] at g1
      rw [List.getElem?_append_right (by rw [← x.cl]; exact l)] at g2
      have e1 : i - A.cs.length = 0 := by
        have := (List.getElem?_eq_some_iff.mp g1).1
        simp at this
        omega
      rw [e1] at g1
      rw [← x.cl, e1] at g2
      cases g1
      cases g2
      rw [upd_ne f5]
      exact upd_same
  · show (A.p :: A.a1 :: A.a2 :: A.a3 :: A.a4 :: A.a5 :: (A.cs ++ [c])).Nodup
    simp only [List.nodup_cons, List.mem_cons, List.mem_append, List.mem_singleton, not_or, List.not_mem_nil, or_false]
    refine ⟨⟨n1, n2, n3, n4, n5, n6, fun e => f0 e.symm⟩, ⟨m12, m13, m14, m15, m1, fun e => f1 e.symm⟩, ⟨m23, m24, m25, m2, fun e => f2 e.symm⟩, ⟨m34, m35, m3, fun e => f3 e.symm⟩, ⟨m45, m4, fun e => f4 e.symm⟩, ⟨m5, fun e => f5 e.symm⟩, ?_⟩
    exact List.nodup_append.mpr ⟨m6, List.nodup_cons.mpr ⟨List.not_mem_nil, List.nodup_nil⟩, fun a ha b hb => by rw [List.mem_singleton.mp hb]; exact fun e => f6 (e ▸ ha)⟩
end
/-- a code at A with these rows, as it stands in H; its statements by F -/
def CodeH (K : PySem.W.Frag) (F H : Hp) (A : CAd) (rows : List Row) : Prop :=
  ∃ vs, CL K H A vs (rows.map fun r => V.str (kindD r.d)) (rows.map fun r => labD r.d) (rows.map fun r => parV r.par) (rows.map fun r => intsV r.ch) ∧ DpAll K F vs (rows.map Row.d)
def addCh (rows : List Row) (i n : Nat) : List Row := rows.modify i fun r => { r with ch := r.ch ++ [n] }
def addRow (rows : List Row) (d : PyData) (par : Option Nat) : List Row := (match par with
  | none => rows
  | some i => addCh rows i rows.length) ++ [⟨d, par, []⟩]
/-! ### check -/
def sp_Code_check (K : PySem.W.Frag) : Sp := fun vs H Q _ => ∃ (v0 v : V) (d : PyData) (n deep loops blocks : Int), vs = [v0, v, .int n, .int deep, .int loops, .int blocks] ∧ Dp K H v d ∧ PyData.canLay0 d = true ∧ szD d ∧ n < 400 ∧ deep ≤ 100 ∧ blocks ≤ 25 ∧ isStm d loops = true ∧
  ∀ H', Ex H H' → Q .non H'
section
variable {P : Program} {w : World} {h : Heap} {K : PySem.W.Frag} {mg : Str → Option Value} {base : Heap}
abbrev N_Code_check : List Str := ["self", "value", "number", "deep", "loops", "blocks"]
theorem sc_Code_check : FnScope N_Code_check ["self", "value", "number", "deep", "loops", "blocks"] (defScope sd_Code_check) := ⟨rfl, rfl, rfl, by decide +kernel, rfl, by decide +kernel, by decide +kernel⟩
theorem ok_Code_check (T : Tx w h K mg) : Ok P w K mg base 4 ("Code", some "check") ["self", "value", "number", "deep", "loops", "blocks"] (sp_Code_check K) := by
  obtain ⟨fd, F⟩ := F_Code_check T
  refine ⟨fd, ?_, F.bindsN (fun _ _ _ _ _ _ us hl => match us, hl with | [_, _, _, _, _, _], _ => rfl), F.kp⟩
  obtain ⟨fd_is_statement, G_is_statement, bi_is_statement, kp_is_statement⟩ := ok_is_statement (P := P) (base := base) T
  obtain ⟨tm_MOST_BLOCKS, m_MOST_BLOCKS⟩ := i_MOST_BLOCKS T
  obtain ⟨tm_MOST_DEEP, m_MOST_DEEP⟩ := i_MOST_DEEP T
  obtain ⟨tm_MOST_STATEMENTS, m_MOST_STATEMENTS⟩ := i_MOST_STATEMENTS T
  refine F.ok sc_Code_check (fun vs H Q E h => ?_) (fun cdv A outer s H vs Q E hr h => ?_)
  · obtain ⟨v0, v, d, n, deep, loops, blocks, rfl, hd, hc, hz, l1, l2, l3, hs, q⟩ := h
    rfl
  · obtain ⟨v0, v, d, n, deep, loops, blocks, rfl, hd, hc, hz, l1, l2, l3, hs, q⟩ := h
    refine ⟨_, PSs.nox (pss_cons (ps_if (pt_cmpR op_ge (pv 2) (pe_glob (v := .int 400) rfl m_MOST_STATEMENTS ⟨_, rfl⟩) (nomark _)) (pss_one ps_never) pss_nil) (pss_cons (ps_if (pt_cmpR op_gt (pv 3) (pe_glob (v := .int 100) rfl m_MOST_DEEP ⟨_, rfl⟩) (nomark _)) (pss_one ps_never) pss_nil) (pss_cons (ps_if (pt_cmpR op_gt (pv 5) (pe_glob (v := .int 25) rfl m_MOST_BLOCKS ⟨_, rfl⟩) (nomark _)) (pss_one ps_never) pss_nil) (pss_one (ps_if (pt_not (pt_val (pe_call G_is_statement (hr.mono (by decide)) rfl (g_is_statement T) kp_is_statement bi_is_statement .nil passF (pa_cons (pv 1) (pa_cons (pv 4) pa_nil))))) (pss_one ps_never) pss_nil))))), ?_⟩
    refine ⟨_, rfl, _, _, rfl, rfl, _, rfl, itF (decide_eq_false (by omega)) ?_⟩
    refine ⟨_, rfl, _, _, rfl, rfl, _, rfl, itF (decide_eq_false (by omega)) ?_⟩
    refine ⟨_, rfl, _, _, rfl, rfl, _, rfl, itF (decide_eq_false (by omega)) ?_⟩
    refine ⟨_, rfl, _, rfl, v, d, loops, rfl, hd, hc, hz, fun H' x => ⟨_, rfl, itF (by rw [hs] <;> rfl) (q H' x)⟩⟩
end

end Fc

set_option maxRecDepth 100000
set_option maxHeartbeats 4000000
namespace Fc
open PySem PySem.Spec PyProof.Rows L2 FcR
open Evl (Ex)
/-! ### keep -/
theorem map_modify_same {α β : Type} (f : α → β) (g : α → α) (h : ∀ x, f (g x) = f x) (l : List α) (i : Nat) : (l.modify i g).map f = l.map f := by
  apply List.ext_getElem?
  intro j
  rw [List.getElem?_map, List.getElem?_map, List.getElem?_modify]
  cases l[j]? with
  | none => rfl
  | some x => by_cases e : i = j <;> simp [e, h]
def noteCh (n : Nat) (r : Row) : Row := { r with ch := r.ch ++ [n] }
theorem addCh_eq (rows : List Row) (i n : Nat) : addCh rows i n = rows.modify i (noteCh n) := rfl
theorem addCh_len (rows : List Row) (i n : Nat) : (addCh rows i n).length = rows.length := by simp [addCh]
theorem addCh_map {β : Type} (f : Row → β) (rows : List Row) (i n : Nat) (h : ∀ r, f (noteCh n r) = f r) : (addCh rows i n).map f = rows.map f := map_modify_same f (noteCh n) h rows i
theorem addCh_ch (rows : List Row) (i n : Nat) (r : Row) (h : rows[i]? = some r) : (addCh rows i n).map (fun r => intsV r.ch) = (rows.map fun r => intsV r.ch).set i (intsV r.ch ++ [.int (n : Int)]) := by
  apply List.ext_getElem?
  intro j
  rw [addCh_eq, List.getElem?_map, List.getElem?_modify, List.getElem?_set, List.getElem?_map]
  have li : i < rows.length := (List.getElem?_eq_some_iff.mp h).1
  by_cases e : i = j
  · subst e
    rw [h]
    simp [noteCh, intsV, li]
  · cases rows[j]? <;> simp [e]
def stepRows (rows : List Row) (par : Option Nat) : List Row := match par with
  | none => rows
  | some i => addCh rows i rows.length
theorem stepRows_len (rows : List Row) (par : Option Nat) : (stepRows rows par).length = rows.length := by
  cases par with
  | none => rfl
  | some i => exact addCh_len _ _ _
def sp_Code_keep (K : PySem.W.Frag) : Sp := fun vs H Q _ => ∃ (F : Hp) (A : CAd) (rows : List Row) (v : V) (d : PyData) (loops : Int) (par : Option Nat), vs = [.ref A.p, v, parV par] ∧ Ex F H ∧ CodeH K F H A rows ∧ (∀ b ∈ A.all, F b = none) ∧ Dp K F v d ∧ isStm d loops = true ∧
  rows.length < 1000 ∧ (∀ i, par = some i → ∃ r, rows[i]? = some r ∧ r.ch.length < 1000) ∧
  ∀ c H', H c = none → CodeH K F H' { A with cs := A.cs ++ [c] } (addRow rows d par) → (∀ b o, H b = some o → b ∉ A.all → H' b = some o) → Q .non H'
theorem stm_lab {k : Str} {r : List PyData} {loops : Int} (h : isStm (.tuple (.str k :: r)) loops = true) (hk : k ∈ kLab) : (∃ x r', r = .str x :: r') ∨ ∃ n r', r = .int n :: r' := by
  obtain ⟨k', r', n, e, e1, hn, hs⟩ := isStm_shape h
  cases e
  rcases List.mem_append.mp hk with hk | hk
  · rw [if_pos hk] at hs
    cases r with
    | nil => cases hs
    | cons d r' => cases d with
      | str x => exact .inl ⟨x, r', rfl⟩
      | _ => cases hs
  · by_cases h2 : k ∈ kNamed
    · rw [if_pos h2] at hs
      cases r with
      | nil => cases hs
      | cons d r' => cases d with
        | str x => exact .inl ⟨x, r', rfl⟩
        | _ => cases hs
    · rw [if_neg h2, if_pos hk] at hs
      cases r with
      | nil => cases hs
      | cons d r' => cases d with
        | int x => exact .inr ⟨x, r', rfl⟩
        | _ => cases hs
theorem parV_non (par : Option Nat) : decide (parV par = .non) = par.isNone := by cases par <;> rfl
theorem in_all1 (A : CAd) : A.a1 ∈ A.all := by simp [CAd.all]
theorem in_all2 (A : CAd) : A.a2 ∈ A.all := by simp [CAd.all]
theorem in_all3 (A : CAd) : A.a3 ∈ A.all := by simp [CAd.all]
theorem in_all4 (A : CAd) : A.a4 ∈ A.all := by simp [CAd.all]
theorem in_all5 (A : CAd) : A.a5 ∈ A.all := by simp [CAd.all]
theorem in_allc {A : CAd} {c : Addr} (h : c ∈ A.cs) : c ∈ A.all := by simp [CAd.all, h]
section
variable {P : Program} {w : World} {h : Heap} {K : PySem.W.Frag} {mg : Str → Option Value} {base : Heap}
abbrev N_Code_keep : List Str := ["self", "statement", "parent"]
theorem sc_Code_keep : FnScope N_Code_keep ["self", "statement", "parent"] (defScope sd_Code_keep) := ⟨rfl, rfl, rfl, by decide +kernel, rfl, by decide +kernel, by decide +kernel⟩
theorem ok_Code_keep (T : Tx w h K mg) : Ok P w K mg base 1 ("Code", some "keep") ["self", "statement", "parent"] (sp_Code_keep K) := by
  obtain ⟨fd, F⟩ := F_Code_keep T
  refine ⟨fd, ?_, F.bindsN (fun _ _ _ _ _ _ us hl => match us, hl with | [_, _, _], _ => rfl), F.kp⟩
  refine F.ok sc_Code_keep (fun vs H Q E h => ?_) (fun cdv A outer s H vs Q E hr h => ?_)
  · obtain ⟨F0, A, rows, v, d, loops, par, rfl, xF, ⟨L1, C, dL⟩, nw, hd, hs, hl, hpar, q⟩ := h
    rfl
  · obtain ⟨F0, A, rows, v, d, loops, par, rfl, xF, ⟨L1, C, dL⟩, nw, hd, hs, hl, hpar, q⟩ := h
    refine ⟨_, PSs.nox (Evl.pss_cut (ps_if (pt_cmpR op_notN (pv 2) pe_non (nomark _)) (pss_one (ps_expr (pe_bm PySem.F.plainAttrs_list PySem.F.slot_list_append PySem.F.type_list_append mt_append (pe_ix ix_list (pe_fld (pv 0) rfl) (pv 2) (fun _ _ => rfl)) (pa_cons (pe_callB call_len_seq rfl (fr_len T) b_len (pa_cons (pe_fld (pv 0) rfl) pa_nil)) pa_nil)))) pss_nil) (pss_cons (ps_expr (pe_bm PySem.F.plainAttrs_list PySem.F.slot_list_append PySem.F.type_list_append mt_append (pe_fld (pv 0) rfl) (pa_cons (pv 1) pa_nil))) (pss_cons (ps_expr (pe_bm PySem.F.plainAttrs_list PySem.F.slot_list_append PySem.F.type_list_append mt_append (pe_fld (pv 0) rfl) (pa_cons (pe_ix ix_tup (pv 1) pe_int (fun _ _ => rfl)) pa_nil))) (Evl.pss_cut (ps_expr (pe_bm PySem.F.plainAttrs_list PySem.F.slot_list_append PySem.F.type_list_append mt_append (pe_fld (pv 0) rfl) (pa_cons (pe_ifExp (pt_cmpR op_in_seq (pe_ix ix_tup (pv 1) pe_int (fun _ _ => rfl)) (pe_op op_catT (pe_glob (v := .ref (He.ga K "NAMED")) rfl (g_NAMED T) rfl) (pe_glob (v := .ref (He.ga K "JUMPS")) rfl (g_JUMPS T) rfl)) (by rfl)) (pe_ix ix_tup (pv 1) pe_int (fun _ _ => rfl)) pe_non) pa_nil))) (pss_cons (ps_expr (pe_bm PySem.F.plainAttrs_list PySem.F.slot_list_append PySem.F.type_list_append mt_append (pe_fld (pv 0) rfl) (pa_cons (pv 2) pa_nil))) (pss_one (ps_expr (pe_bm PySem.F.plainAttrs_list PySem.F.slot_list_append PySem.F.type_list_append mt_append (pe_fld (pv 0) rfl) (pa_cons (pe_lst pa_nil) pa_nil))))))))), ?_⟩
    obtain ⟨k, r, n, rfl, _, _, _⟩ := isStm_shape hs
    obtain ⟨a, xs, rfl, hS, hA⟩ := dp_tup hd
    cases hA with
    | @cons v0 xr _ _ h0 hA =>
    obtain rfl := dp_str h0
    -- the parent's list of parts
    refine ⟨fun σ' H' => σ' = L2.start N_Code_keep [.ref A.p, .ref a, parV par] ∧ CL K H' A L1 (rows.map fun r => V.str (kindD r.d)) (rows.map fun r => labD r.d) (rows.map fun r => parV r.par) ((stepRows rows par).map fun r => intsV r.ch) ∧ Ex F0 H' ∧ (∀ b o, H b = some o → b ∉ A.all → H' b = some o) ∧ (∀ b, H' b = none → H b = none), ?_, ?_⟩
    · refine ⟨_, rfl, rfl, _, rfl, ite_of (fun h1 => ?_) (fun h1 => ?_)⟩
      · cases par with
        | none => cases h1
        | some i =>
        obtain ⟨ri, e1, e2⟩ := hpar i rfl
        have li : i < A.cs.length := by rw [C.cl, List.length_map]; exact (List.getElem?_eq_some_iff.mp e1).1
        have hci : A.cs[i]? = some A.cs[i] := List.getElem?_eq_getElem li
        have hcm : A.cs[i] ∈ A.cs := List.getElem_mem li
        have hcc := C.cc i _ _ hci (show (rows.map fun r => intsV r.ch)[i]? = some (intsV ri.ch) from by rw [List.getElem?_map, e1] <;> rfl)
        refine ⟨_, rfl, A.p, _, _, _, _, rfl, C.ob, c_Code T, na_Code_children T, fl_Code_children _ _ _ _ _, _, rfl, A.a5, _, _, .ref A.cs[i], rfl, rfl, Evl.sq_of C.h5, atI_nat (by rw [List.getElem?_map, hci] <;> rfl), Or.inl ⟨rfl, _, Evl.sq_of hcc⟩, ?_⟩
        refine ⟨_, rfl, A.p, _, _, _, _, rfl, C.ob, c_Code T, na_Code_kinds T, fl_Code_kinds _ _ _ _ _, A.a2, _, rfl, .inl (Evl.sq_of C.h2), A.cs[i], _, _, rfl, rfl, hcc, szl (by rw [intsV, List.length_map]; omega), ?_⟩
        refine ⟨rfl, ?_, exm xF (nw _ (in_allc hcm)), fun b o e hb => by rw [upd_ne (fun z => hb (by rw [z]; exact in_allc hcm))]; exact e, fun b e => ?_⟩
        · have y := C.child hci (intsV ri.ch ++ [.int ((rows.map fun r => V.str (kindD r.d)).length : Int)])
          have e3 : (stepRows rows (some i)).map (fun r => intsV r.ch) = (rows.map fun r => intsV r.ch).set i (intsV ri.ch ++ [.int ((rows.map fun r => V.str (kindD r.d)).length : Int)]) := by
            rw [List.length_map]
            exact addCh_ch rows i rows.length ri e1
          rw [e3]
          exact y
        · by_cases z : b = A.cs[i]
          · rw [z, upd_same] at e
            cases e
          · rw [upd_ne z] at e
            exact e
      · cases par with
        | some i => cases h1
        | none => exact ⟨rfl, C, xF, fun b o e _ => e, fun b e => e⟩
    rintro σ' H1 ⟨rfl, C1, xF1, kp1, fr1⟩
    have es : (stepRows rows par).map (fun r => V.str (kindD r.d)) = rows.map (fun r => V.str (kindD r.d)) := by cases par with
      | none => rfl
      | some i => exact addCh_map _ rows i _ fun _ => rfl
    have el : (stepRows rows par).map (fun r => labD r.d) = rows.map (fun r => labD r.d) := by cases par with
      | none => rfl
      | some i => exact addCh_map _ rows i _ fun _ => rfl
    have ep : (stepRows rows par).map (fun r => parV r.par) = rows.map (fun r => parV r.par) := by cases par with
      | none => rfl
      | some i => exact addCh_map _ rows i _ fun _ => rfl
    have ed : (stepRows rows par).map Row.d = rows.map Row.d := by cases par with
      | none => rfl
      | some i => exact addCh_map _ rows i _ fun _ => rfl
    have l1 : L1.length = rows.length := by rw [dpA_len dL, List.length_map]
    -- self.statements.append(statement)
    refine ⟨_, rfl, A.p, _, _, _, _, rfl, C1.ob, c_Code T, na_Code_statements T, fl_Code_statements _ _ _ _ _, Or.inl ⟨rfl, _, Evl.sq_of C1.h1⟩, _, rfl, A.a1, _, _, rfl, rfl, C1.h1, szl (by omega), ?_⟩
    have C2 := C1.s1 (L1 ++ [.ref a])
    have xF2 := exm (o := .lst (L1 ++ [.ref a])) xF1 (nw _ (in_all1 A))
    -- self.kinds.append(statement[0])
    refine ⟨_, rfl, A.p, _, _, _, _, rfl, C2.ob, c_Code T, na_Code_kinds T, fl_Code_kinds _ _ _ _ _, Or.inl ⟨rfl, _, Evl.sq_of C2.h2⟩, _, rfl, a, _, _, _, rfl, rfl, Evl.ex_t xF2 hS, at0, A.a2, _, _, rfl, rfl, C2.h2, szl (by rw [List.length_map]; omega), ?_⟩
    have C3 := C2.s2 (rows.map (fun r => V.str (kindD r.d)) ++ [.str k])
    have xF3 := exm (o := .lst (rows.map (fun r => V.str (kindD r.d)) ++ [.str k])) xF2 (nw _ (in_all2 A))
    -- self.labels.append(..)
    refine ⟨fun σ' H' => σ' = L2.start N_Code_keep [.ref A.p, .ref a, parV par] ∧ CL K H' A (L1 ++ [.ref a]) (rows.map (fun r => V.str (kindD r.d)) ++ [.str k]) (rows.map (fun r => labD r.d) ++ [labD (.tuple (.str k :: r))]) (rows.map fun r => parV r.par) ((stepRows rows par).map fun r => intsV r.ch) ∧ Ex F0 H' ∧ (∀ b o, H b = some o → b ∉ A.all → H' b = some o) ∧ (∀ b, H' b = none → H b = none), ?_, ?_⟩
    · refine ⟨_, rfl, A.p, _, _, _, _, rfl, C3.ob, c_Code T, na_Code_labels T, fl_Code_labels _ _ _ _ _, Or.inl ⟨rfl, _, Evl.sq_of C3.h3⟩, _, rfl, a, _, _, _, rfl, rfl, Evl.ex_t xF3 hS, at0, He.ga K "NAMED", He.ga K "JUMPS", _, _, rfl, rfl, t_NAMED T _, t_JUMPS T _, (by simp), sz (by decide), (fun z => by cases z), fun _ p0 hp0 => ?_⟩
      have C4 := C3.off (o := .tup (kLab.map V.str)) (C3.fresh hp0)
      have xF4 : Ex F0 _ := exu (o := .tup (kLab.map V.str)) xF3 hp0
      have fin : ∀ (o1 o2 o4 : HO) (H5 : Hp), H5 = upd (upd (upd (upd H1 A.a1 o1) A.a2 o2) p0 (.tup (kLab.map V.str))) A.a3 o4 → (∀ b o, H b = some o → b ∉ A.all → H5 b = some o) ∧ (∀ b, H5 b = none → H b = none) := by
        intro o1 o2 o4 H5 e5
        subst e5
        have back : ∀ {Hx : Hp} {q b : Addr} {o : HO}, upd Hx q o b = none → Hx b = none := fun {Hx q b o} e => by
          by_cases z : b = q
          · rw [z, upd_same] at e; cases e
          · rw [upd_ne z] at e; exact e
        refine ⟨fun b o e hb => ?_, fun b e => fr1 b (back (back (back (back e))))⟩
        have e1 := kp1 b o e hb
        have np : b ≠ p0 := fun z => by
          have y : H1 p0 = none := by
            have y1 := back (back hp0)
            exact y1
          rw [z, y] at e1
          cases e1
        rw [upd_ne (fun z => hb (by rw [z]; exact in_all3 A)), upd_ne np, upd_ne (fun z => hb (by rw [z]; exact in_all2 A)), upd_ne (fun z => hb (by rw [z]; exact in_all1 A))]
        exact e1
      have tail : ∀ u, u = labD (.tuple (.str k :: r)) → rAppend (.ref A.a3) [u] (upd (upd (upd H1 A.a1 (.lst (L1 ++ [.ref a]))) A.a2 (.lst (rows.map (fun r => V.str (kindD r.d)) ++ [.str k]))) p0 (.tup (kLab.map V.str))) (fun _ H' => L2.start N_Code_keep [.ref A.p, .ref a, parV par] = L2.start N_Code_keep [.ref A.p, .ref a, parV par] ∧ CL K H' A (L1 ++ [.ref a]) (rows.map (fun r => V.str (kindD r.d)) ++ [.str k]) (rows.map (fun r => labD r.d) ++ [labD (.tuple (.str k :: r))]) (rows.map fun r => parV r.par) ((stepRows rows par).map fun r => intsV r.ch) ∧ Ex F0 H' ∧ (∀ b o, H b = some o → b ∉ A.all → H' b = some o) ∧ (∀ b, H' b = none → H b = none)) := by
        rintro u rfl
        obtain ⟨f1, f2⟩ := fin (.lst (L1 ++ [.ref a])) (.lst (rows.map (fun r => V.str (kindD r.d)) ++ [.str k])) (.lst (rows.map (fun r => labD r.d) ++ [labD (.tuple (.str k :: r))])) _ rfl
        exact ⟨A.a3, _, _, rfl, rfl, C4.h3, szl (by rw [List.length_map]; omega), rfl, C4.s3 _, exm xF4 (nw _ (in_all3 A)), f1, f2⟩
      refine ⟨p0, kLab.map V.str, rfl, .inr (Evl.st_of upd_same), rfl, flat_strs kLab, _, rfl, ite_of (fun h2 => ?_) (fun h2 => ?_)⟩
      · have h2 : inV (.str k) (kLab.map V.str) = true := h2
        rw [inV_strs] at h2
        have hm := of_decide_eq_true h2
        rcases stm_lab hs hm with ⟨x, r', rfl⟩ | ⟨x, r', rfl⟩
        · cases hA with
          | @cons v1 xr' _ _ g1 hA =>
          obtain rfl := dp_str g1
          refine ⟨_, rfl, a, _, _, _, rfl, rfl, Evl.ex_t xF4 hS, at1, tail _ ?_⟩
          simp only [labD, if_pos hm]
        · cases hA with
          | @cons v1 xr' _ _ g1 hA =>
          obtain rfl := dp_int g1
          refine ⟨_, rfl, a, _, _, _, rfl, rfl, Evl.ex_t xF4 hS, at1, tail _ ?_⟩
          simp only [labD, if_pos hm]
      · have h2 : inV (.str k) (kLab.map V.str) = false := h2
        rw [inV_strs] at h2
        have hm : ¬ k ∈ kLab := of_decide_eq_false h2
        refine tail _ ?_
        simp only [labD, if_neg hm]
    rintro σ' H5 ⟨rfl, C5, xF5, kp5, fr5⟩
    -- self.parents.append(parent)
    refine ⟨_, rfl, A.p, _, _, _, _, rfl, C5.ob, c_Code T, na_Code_parents T, fl_Code_parents _ _ _ _ _, Or.inl ⟨rfl, _, Evl.sq_of C5.h4⟩, _, rfl, A.a4, _, _, rfl, rfl, C5.h4, szl (by rw [List.length_map]; omega), ?_⟩
    have C6 := C5.s4 (rows.map (fun r => parV r.par) ++ [parV par])
    -- self.children.append([])
    refine ⟨_, rfl, A.p, _, _, _, _, rfl, C6.ob, c_Code T, na_Code_children T, fl_Code_children _ _ _ _ _, Or.inl ⟨rfl, _, Evl.sq_of C6.h5⟩, sz (by decide), fun c hc => ?_⟩
    have nc5 : A.a5 ≠ c := fun z => C6.fresh hc (by rw [← z]; exact in_all5 A)
    refine ⟨A.a5, _, _, rfl, rfl, by rw [upd_ne nc5]; exact C6.h5, szl (by rw [List.length_map, C6.cl, List.length_map, stepRows_len]; omega), ?_⟩
    have C7 := C6.push hc
    have nc4 : c ≠ A.a4 := fun z => C6.fresh hc (by rw [z]; exact in_all4 A)
    have hcH : H c = none := fr5 c (by rw [upd_ne nc4] at hc; exact hc)
    have ea : addRow rows (.tuple (.str k :: r)) par = stepRows rows par ++ [⟨.tuple (.str k :: r), par, []⟩] := by cases par <;> rfl
    refine q c _ hcH ⟨L1 ++ [.ref a], ?_, ?_⟩ fun b o e hb => ?_
    · rw [ea, List.map_append, List.map_append, List.map_append, List.map_append, es, el, ep]
      exact C7
    · rw [ea, List.map_append, ed]
      exact dpA_app dL (.cons hd .nil)
    · have e5 := kp5 b o e hb
      have ncb : b ≠ c := fun z => by rw [z, hcH] at e; cases e
      rw [upd_ne (fun z => hb (by rw [z]; exact in_all5 A)), upd_ne ncb, upd_ne (fun z => hb (by rw [z]; exact in_all4 A))]
      exact e5
end

end Fc

set_option maxRecDepth 100000
set_option maxHeartbeats 4000000
namespace Fc
open PySem PySem.Spec PyProof.Rows L2 FcR
open Evl (Ex)
/-! ### Code(..): the stack of what waits -/
structure WIt where
  d : PyData
  par : Option Nat
  deep : Nat
  loops : Nat
  blocks : Nat
def okIt (it : WIt) (n : Nat) : Prop := n < 400 ∧ it.deep ≤ 100 ∧ it.blocks ≤ 25 ∧ isStm it.d (it.loops : Int) = true
def newIt (it : WIt) (n : Nat) (at_ : Nat) (part : PyData) : WIt :=
  ⟨part, some n, it.deep + 1, it.loops + (if kindD it.d = "while" then 1 else 0), it.blocks + (if kindD it.d = "final" ∧ at_ = 1 then 1 else 0)⟩
def newIts (it : WIt) (n : Nat) : List WIt := (partsD it.d).mapIdx fun i p => newIt it n i p
inductive Builds : Nat → List WIt → List Row → List Row → Prop
  | done (rows : List Row) : Builds 0 [] rows rows
  | step {n : Nat} {it : WIt} {st : List WIt} {rows fin : List Row} (ok : okIt it rows.length) (h : Builds n (newIts it rows.length ++ st) (addRow rows it.d it.par) fin) : Builds (n + 1) (it :: st) rows fin
theorem Builds.len {m : Nat} {st : List WIt} {rows fin : List Row} (b : Builds m st rows fin) : st.length ≤ m := by
  induction b with
  | done => exact Nat.le_refl _
  | step ok h ih =>
    rw [List.length_append] at ih
    rw [List.length_cons]
    omega
def wV (v : V) (it : WIt) : List V := [v, parV it.par, .int (it.deep : Int), .int (it.loops : Int), .int (it.blocks : Int)]
def parD : Option Nat → PyData
  | none => .none
  | some i => .int (i : Int)
def wD (it : WIt) : PyData := .tuple [it.d, parD it.par, .int (it.deep : Int), .int (it.loops : Int), .int (it.blocks : Int)]
/-- tuples at ts, the items st -/
inductive WAt (K : PySem.W.Frag) (F : Hp) : List Addr → List WIt → Prop
  | nil : WAt K F [] []
  | cons {t : Addr} {ts : List Addr} {it : WIt} {st : List WIt} {v : V} (h : F t = some (.tup (wV v it))) (hd : Dp K F v it.d) (r : WAt K F ts st) : WAt K F (t :: ts) (it :: st)
theorem WAt.ex {K : PySem.W.Frag} {F F' : Hp} (e : Ex F F') : ∀ {ts : List Addr} {st : List WIt}, WAt K F ts st → WAt K F' ts st
  | _, _, .nil => .nil
  | _, _, .cons h hd r => .cons (e _ _ h) (dp_ex e hd) (WAt.ex e r)
theorem WAt.len {K : PySem.W.Frag} {F : Hp} : ∀ {ts : List Addr} {st : List WIt}, WAt K F ts st → ts.length = st.length
  | _, _, .nil => rfl
  | _, _, .cons _ _ r => congrArg Nat.succ (WAt.len r)
theorem dp_par {K : PySem.W.Frag} {F : Hp} (o : Option Nat) : Dp K F (parV o) (parD o) := by
  cases o with
  | none => exact .non
  | some i => exact .int _
theorem WAt.dp {K : PySem.W.Frag} {F : Hp} : ∀ {ts : List Addr} {st : List WIt}, WAt K F ts st → DpAll K F (ts.map V.ref) (st.map wD)
  | _, _, .nil => .nil
  | _, _, .cons h hd r => .cons (.tup (Evl.st_of h) (.cons hd (.cons (dp_par _) (.cons (.int _) (.cons (.int _) (.cons (.int _) .nil)))))) (WAt.dp r)
theorem dpA_rev {K : PySem.W.Frag} {F : Hp} : ∀ {ds : List PyData} {vs : List V}, DpAll K F vs ds → DpAll K F vs.reverse ds.reverse
  | _, _, .nil => .nil
  | _, _, .cons h a => by
    rw [List.reverse_cons, List.reverse_cons]
    exact dpA_app (dpA_rev a) (.cons h .nil)
theorem canAll {l : List PyData} (h : ∀ d ∈ l, PyData.canLay0 d = true) : PyData.canLayAll0 l = true := by
  induction l with
  | nil => rfl
  | cons a l ih =>
    show (PyData.canLay0 a && PyData.canLayAll0 l) = true
    rw [h a List.mem_cons_self, ih fun d hd => h d (List.mem_cons_of_mem _ hd)] <;> rfl
theorem can_wD {it : WIt} (h : PyData.canLay0 it.d = true) : PyData.canLay0 (wD it) = true := by
  show (PyData.canLay0 it.d && (PyData.canLay0 (parD it.par) && (PyData.canLay0 (.int _) && (PyData.canLay0 (.int _) && (PyData.canLay0 (.int _) && PyData.canLayAll0 []))))) = true
  rw [h]
  cases it.par <;> rfl
theorem eqv_lnil (ds : List PyData) : PyData.eqv (.list ds) (.list []) = ds.isEmpty := by
  cases ds <;> simp [PyData.eqv, PyData.eqvAll]
theorem min_lnil (d : PyData) : min d.depth (PyData.list []).depth ≤ 150 := Nat.le_trans (Nat.min_le_right _ _) (by decide)
def sp_Code___init__ (K : PySem.W.Frag) : Sp := fun vs H Q _ => ∃ (F : Hp) (p dx : Addr) (v : V) (d : PyData) (G : PyData → Prop) (N : Nat) (fin : List Row), vs = [.ref p, v] ∧ H p = some (.ins (He.ga K "Code") dx []) ∧ Ex F H ∧ F p = none ∧ Dp K F v d ∧
  (∀ e, G e → PyData.canLay0 e = true ∧ szD e ∧ ∀ x ∈ partsD e, G x) ∧ G d ∧ Builds N [⟨d, none, 1, 0, 0⟩] [] fin ∧
  ∀ A F' H', A.p = p → Gr (fun b => b = p) F H F' H' → CodeH K F' F' A fin → Q .non H'

theorem nn_of {H : Hp} {a b : Addr} {o : HO} (h : H a = none) (h' : H b = some o) : b ≠ a := ne_of_none h' h
theorem up_none {H : Hp} {a b : Addr} {o : HO} (h : upd H a o b = none) : b ≠ a ∧ H b = none := by
  by_cases z : b = a
  · rw [z, upd_same] at h; cases h
  · rw [upd_ne z] at h; exact ⟨z, h⟩
/-- between two turns of the loop -/
structure InW (K : PySem.W.Frag) (F0 H : Hp) (p wq : Addr) (Gd : PyData → Prop) (st : List WIt) (rows : List Row) (A : CAd) (ts : List Addr) (F' H' : Hp) : Prop where
  ap : A.p = p
  code : CodeH K F' H' A rows
  na : ∀ b ∈ A.all, F' b = none
  wa : wq ∉ A.all
  fw : F' wq = none
  wl : H' wq = some (.lst (ts.map V.ref).reverse)
  wi : WAt K F' ts st
  ff : Ex F0 F'
  fh : Ex F' H'
  nw : ∀ b, H b ≠ none → F0 b = none → F' b = none
  kp : ∀ b o, H b = some o → b ≠ p → H' b = some o
  nh : ∀ b ∈ A.all, b = p ∨ H b = none
  hw : H wq = none
  it : ∀ i ∈ st, Gd i.d ∧ ∀ j, i.par = some j → j < rows.length
  ch : ∀ r ∈ rows, r.ch.length ≤ rows.length
theorem InW.fresh {K : PySem.W.Frag} {F0 H F' H' : Hp} {p wq : Addr} {Gd : PyData → Prop} {st : List WIt} {rows : List Row} {A : CAd} {ts : List Addr} (x : InW K F0 H p wq Gd st rows A ts F' H') {c : Addr} (h : H' c = none) : H c = none ∧ F' c = none ∧ c ∉ A.all ∧ c ≠ wq := by
  obtain ⟨vs, C, _⟩ := x.code
  have n : c ∉ A.all := C.fresh h
  have np : c ≠ p := fun z => n (by rw [z, ← x.ap]; simp [CAd.all])
  refine ⟨?_, ?_, n, fun z => by rw [z, x.wl] at h; cases h⟩
  · cases e : H c with
    | none => rfl
    | some o => rw [x.kp c o e np] at h; cases h
  · cases e : F' c with
    | none => rfl
    | some o => rw [x.fh c o e] at h; cases h
section
variable {K : PySem.W.Frag} {F0 H F' H' F2 H2 : Hp} {p wq : Addr} {Gd : PyData → Prop} {st : List WIt} {rows : List Row} {A : CAd} {ts : List Addr}
theorem CodeH.ex {F F2 H H2 : Hp} (c : CodeH K F H A rows) (e1 : Ex F F2) (e2 : Ex H H2) : CodeH K F2 H2 A rows := by
  obtain ⟨vs, C, dL⟩ := c
  exact ⟨vs, C.ex e2, dpA_ex e1 dL⟩
theorem InW.tr (x : InW K F0 H p wq Gd st rows A ts F' H') {b : Addr} (hb : b ∈ A.all) : H' b ≠ none := fun z => by
  obtain ⟨vs, C, _⟩ := x.code
  exact C.fresh z hb
theorem InW.there (x : InW K F0 H p wq Gd st rows A ts F' H') {b : Addr} (hb : H b ≠ none) : H' b ≠ none := by
  by_cases z : b = p
  · exact x.tr (by rw [z, ← x.ap]; simp [CAd.all])
  · intro y
    cases e : H b with
    | none => exact hb e
    | some o => rw [x.kp b o e z] at y; cases y
theorem InW.ext (x : InW K F0 H p wq Gd st rows A ts F' H') (e1 : Ex F' F2) (e2 : Ex F2 H2) (e3 : Ex H' H2) (e4 : ∀ b, H' b ≠ none → F' b = none → F2 b = none) : InW K F0 H p wq Gd st rows A ts F2 H2 :=
  ⟨x.ap, x.code.ex e1 e3, fun b hb => e4 b (x.tr hb) (x.na b hb), x.wa, e4 wq (by rw [x.wl]; exact fun z => nomatch z) x.fw, e3 _ _ x.wl, x.wi.ex e1, x.ff.trans e1, e2, fun b h1 h2 => e4 b (x.there h1) (x.nw b h1 h2), fun b o e hb => e3 b o (x.kp b o e hb), x.nh, x.hw, x.it, x.ch⟩
theorem InW.new (x : InW K F0 H p wq Gd st rows A ts F' H') {q : Addr} {o : HO} (h : H' q = none) : InW K F0 H p wq Gd st rows A ts F' (upd H' q o) :=
  x.ext (Evl.Ex.refl _) (exu x.fh h) (exu (Evl.Ex.refl _) h) fun _ _ e => e
theorem InW.pop {it : WIt} {t : Addr} (x : InW K F0 H p wq Gd (it :: st) rows A (t :: ts) F' H') : InW K F0 H p wq Gd st rows A ts F' (upd H' wq (.lst (ts.map V.ref).reverse)) := by
  obtain ⟨vs, C, dL⟩ := x.code
  refine ⟨x.ap, ⟨vs, C.off x.wa, dL⟩, x.na, x.wa, x.fw, upd_same, ?_, x.ff, exm x.fh x.fw, x.nw, fun b o e hb => ?_, x.nh, x.hw, fun i hi => x.it i (List.mem_cons_of_mem _ hi), x.ch⟩
  · cases x.wi with
    | cons _ _ r => exact r
  · rw [upd_ne (nn_of x.hw e)]
    exact x.kp b o e hb
theorem addRow_len (rows : List Row) (d : PyData) (par : Option Nat) : (addRow rows d par).length = rows.length + 1 := by
  cases par with
  | none => simp [addRow]
  | some i => simp [addRow, addCh]
theorem Builds.bd {m : Nat} {st : List WIt} {rows fin : List Row} (b : Builds m st rows fin) : m = 0 ∨ rows.length + m ≤ 400 := by
  induction b with
  | done => exact .inl rfl
  | step ok h ih =>
    rw [addRow_len] at ih
    have := ok.1
    omega
theorem addRow_ch {rows : List Row} {d : PyData} {par : Option Nat} (h : ∀ r ∈ rows, r.ch.length ≤ rows.length) : ∀ r ∈ addRow rows d par, r.ch.length ≤ (addRow rows d par).length := by
  rw [addRow_len]
  intro r hr
  rcases List.mem_append.mp hr with hr | hr
  · cases par with
    | none =>
      have := h r hr
      omega
    | some i =>
      have hr : r ∈ addCh rows i rows.length := hr
      obtain ⟨j, hj⟩ := List.mem_iff_getElem?.mp hr
      rw [addCh_eq, List.getElem?_modify] at hj
      cases e : rows[j]? with
      | none => rw [e] at hj; simp at hj
      | some r0 =>
        rw [e] at hj
        have h0 := h r0 (List.mem_of_getElem? e)
        by_cases z : i = j
        · simp [z] at hj
          rw [← hj]
          simp [noteCh]
          omega
        · simp [z] at hj
          rw [← hj]
          omega
  · rw [List.mem_singleton.mp hr]
    simp
theorem InW.kept (x : InW K F0 H p wq Gd st rows A ts F' H') {c : Addr} {d : PyData} {par : Option Nat} (hc : H' c = none) (cd : CodeH K F' H2 { A with cs := A.cs ++ [c] } (addRow rows d par)) (kp : ∀ b o, H' b = some o → b ∉ A.all → H2 b = some o) :
    InW K F0 H p wq Gd st (addRow rows d par) { A with cs := A.cs ++ [c] } ts F' H2 := by
  obtain ⟨f1, f2, f3, f4⟩ := x.fresh hc
  have mem : ∀ b, b ∈ ({ A with cs := A.cs ++ [c] } : CAd).all → b ∈ A.all ∨ b = c := fun b hb => by
    simp only [CAd.all, List.mem_cons, List.mem_append, List.not_mem_nil, or_false] at hb ⊢
    rcases hb with h | h | h | h | h | h | h | h <;> simp [h]
  refine ⟨x.ap, cd, fun b hb => ?_, fun hb => ?_, x.fw, kp _ _ x.wl x.wa, x.wi, x.ff, fun b o e => kp b o (x.fh b o e) (fun z => by rw [x.na b z] at e; cases e), x.nw, fun b o e hb => ?_, fun b hb => ?_, x.hw, fun i hi => ⟨(x.it i hi).1, fun j e => ?_⟩, addRow_ch x.ch⟩
  · rcases mem b hb with h | h
    · exact x.na b h
    · rw [h]; exact f2
  · rcases mem wq hb with h | h
    · exact x.wa h
    · exact f4 h.symm
  · refine kp b o (x.kp b o e hb) fun z => ?_
    rcases x.nh b z with y | y
    · exact hb y
    · rw [y] at e; cases e
  · rcases mem b hb with h | h
    · exact x.nh b h
    · rw [h]; exact .inr f1
  · rw [addRow_len]
    have := (x.it i hi).2 j e
    omega
theorem InW.push {it : WIt} {t : Addr} {v : V} (x : InW K F0 H p wq Gd st rows A ts F' H') (ht : H' t = none) (hd : Dp K F' v it.d) (hit : Gd it.d ∧ ∀ j, it.par = some j → j < rows.length) :
    InW K F0 H p wq Gd (it :: st) rows A (t :: ts) (upd F' t (.tup (wV v it))) (upd (upd H' t (.tup (wV v it))) wq (.lst (((t :: ts).map V.ref).reverse))) := by
  obtain ⟨f1, f2, f3, f4⟩ := x.fresh ht
  have x1 := x.ext (F2 := upd F' t (.tup (wV v it))) (H2 := upd H' t (.tup (wV v it))) (exu (Evl.Ex.refl _) f2) (fun b o e => by
      by_cases z : b = t
      · rw [z, upd_same] at e ⊢; exact e
      · rw [upd_ne z] at e ⊢; exact x.fh b o e) (exu (Evl.Ex.refl _) ht) (fun b h1 h2 => by rw [upd_ne (fun z => h1 (by rw [z]; exact ht))]; exact h2)
  obtain ⟨vs, C, dL⟩ := x1.code
  refine ⟨x.ap, ⟨vs, C.off x.wa, dL⟩, x1.na, x.wa, x1.fw, upd_same, .cons upd_same (dp_ex (exu (Evl.Ex.refl _) f2) hd) x1.wi, x1.ff, exm x1.fh x1.fw, x1.nw, fun b o e hb => ?_, x.nh, x.hw, fun i hi => ?_, x.ch⟩
  · rw [upd_ne (nn_of x.hw e)]
    exact x1.kp b o e hb
  · rcases List.mem_cons.mp hi with rfl | hi
    · exact hit
    · exact x.it i hi
end
theorem newIts_len (it : WIt) (n : Nat) : (newIts it n).length = (partsD it.d).length := by simp [newIts]
theorem newIts_get {it : WIt} {n j : Nat} {d : PyData} (h : (partsD it.d)[j]? = some d) : (newIts it n)[j]? = some (newIt it n j d) := by
  unfold newIts
  rw [List.getElem?_mapIdx, h] <;> rfl
theorem wV_new (v : V) (it : WIt) (n j : Nat) (d : PyData) : wV v (newIt it n j d) = [v, .int (n : Int), .int ((it.deep : Int) + 1), .int ((it.loops : Int) + (if decide (V.str (kindD it.d) = V.str "while") = true then 1 else 0)),
    .int ((it.blocks : Int) + (if kindD it.d = "final" ∧ j = 1 then 1 else 0))] := by
  have e1 : ((it.deep + 1 : Nat) : Int) = (it.deep : Int) + 1 := by omega
  have e2 : ((it.loops + (if kindD it.d = "while" then 1 else 0) : Nat) : Int) = (it.loops : Int) + (if decide (V.str (kindD it.d) = V.str "while") = true then 1 else 0) := by
    by_cases z : kindD it.d = "while"
    · rw [if_pos z, if_pos (decide_eq_true (by rw [z]))] <;> omega
    · rw [if_neg z, if_neg (fun y => z (V.str.inj (of_decide_eq_true y)))] <;> omega
  have e3 : ((it.blocks + (if kindD it.d = "final" ∧ j = 1 then 1 else 0) : Nat) : Int) = (it.blocks : Int) + (if kindD it.d = "final" ∧ j = 1 then 1 else 0) := by
    by_cases z : kindD it.d = "final" ∧ j = 1
    · rw [if_pos z, if_pos z] <;> omega
    · rw [if_neg z, if_neg z] <;> omega
  show [v, V.int (n : Int), V.int ((it.deep + 1 : Nat) : Int), V.int ((it.loops + (if kindD it.d = "while" then 1 else 0) : Nat) : Int), V.int ((it.blocks + (if kindD it.d = "final" ∧ j = 1 then 1 else 0) : Nat) : Int)] = _
  rw [e1, e2, e3]
section
variable {P : Program} {w : World} {h : Heap} {K : PySem.W.Frag} {mg : Str → Option Value} {base : Heap}
abbrev N_Code___init__ : List Str := ["self", "statement", "waiting", "value", "parent", "deep", "loops", "blocks", "number", "at", "part", "inside"]
theorem sc_Code___init__ : FnScope N_Code___init__ ["self", "statement"] (defScope sd_Code___init__) := ⟨rfl, rfl, rfl, by decide +kernel, rfl, by decide +kernel, by decide +kernel⟩
theorem okF_Code___init__ (T : Tx w h K mg) : ∃ fd, FnOk P w K mg base (CX P w) 6 (He.fAd K ("Code", some "__init__")) fd ["self", "statement"] (sp_Code___init__ K) ∧ Binds K fd ["self", "statement"] [] ∧ PySem.W.keepIn K (.ref (He.fAd K ("Code", some "__init__"))) = true ∧ FunD K "__init__" "Code.__init__" (defArgs sd_Code___init__) (defBody sd_Code___init__) (defScope sd_Code___init__) [] [] (He.fAd K ("Code", some "__init__")) fd := by
  obtain ⟨fd, F⟩ := F_Code___init__ T
  refine ⟨fd, ?_, F.bindsN (fun _ _ _ _ _ _ us hl => match us, hl with | [_, _], _ => rfl), F.kp, F⟩
  obtain ⟨fd_parts_in, G_parts_in, bi_parts_in, kp_parts_in⟩ := ok_parts_in (P := P) (base := base) T
  obtain ⟨fd_Code_check, G_Code_check, bi_Code_check, kp_Code_check⟩ := ok_Code_check (P := P) (base := base) T
  obtain ⟨fd_Code_keep, G_Code_keep, bi_Code_keep, kp_Code_keep⟩ := ok_Code_keep (P := P) (base := base) T
  refine F.ok sc_Code___init__ (fun vs H Q E h => ?_) (fun cdv A outer s H vs Q E hr h => ?_)
  · obtain ⟨F0, p, dx, v, d, Gd, N, fin, rfl, hp, xF, Fp, hd, hG, hGd, hB, q⟩ := h
    rfl
  · obtain ⟨F0, p, dx, v, d, Gd, N, fin, rfl, hp, xF, Fp, hd, hG, hGd, hB, q⟩ := h
    refine ⟨_, PSs.nox (Evl.pss_cut (ps_asg (pe_tup (pa_cons (pe_lst pa_nil) (pa_cons (pe_lst pa_nil) (pa_cons (pe_lst pa_nil) pa_nil)))) (pg_tup rfl (pgs_cons (FcR.pg_fld (pv 0)) (pgs_cons (FcR.pg_fld (pv 0)) (pgs_cons (FcR.pg_fld (pv 0)) pgs_nil))))) (Evl.pss_cut (ps_asg (pe_tup (pa_cons (pe_lst pa_nil) (pa_cons (pe_lst pa_nil) pa_nil))) (pg_tup rfl (pgs_cons (FcR.pg_fld (pv 0)) (pgs_cons (FcR.pg_fld (pv 0)) pgs_nil)))) (pss_cons (ps_set (i := 2) sc_Code___init__.nd rfl (Or.inl rfl) (pe_lst (pa_cons (pe_tup (pa_cons (pv 1) (pa_cons pe_non (pa_cons pe_int (pa_cons pe_int (pa_cons pe_int pa_nil)))))) pa_nil))) (pss_one (ps_while PassesOwn.never (pt_cmpR (op_neM hr) (pv 2) (pe_lst pa_nil) (nomark _)) (pss_cons (ps_asg (pe_bm0 PySem.F.plainAttrs_list PySem.F.slot_list_pop PySem.F.type_list_pop mt_pop (pv 2)) (pg_tup rfl (pgs_cons (pg_name (i := 3) sc_Code___init__.nd rfl (Or.inl rfl)) (pgs_cons (pg_name (i := 4) sc_Code___init__.nd rfl (Or.inl rfl)) (pgs_cons (pg_name (i := 5) sc_Code___init__.nd rfl (Or.inl rfl)) (pgs_cons (pg_name (i := 6) sc_Code___init__.nd rfl (Or.inl rfl)) (pgs_cons (pg_name (i := 7) sc_Code___init__.nd rfl (Or.inl rfl)) pgs_nil))))))) (pss_cons (ps_set (i := 8) sc_Code___init__.nd rfl (Or.inl rfl) (pe_callB call_len_seq rfl (fr_len T) b_len (pa_cons (pe_fld (pv 0) rfl) pa_nil))) (pss_cons (ps_expr (pe_meth (pv 0) (c_Code T) (me_Code_check T) G_Code_check (hr.mono (by decide)) bi_Code_check .nil passF (pa_cons (pv 3) (pa_cons (pv 8) (pa_cons (pv 5) (pa_cons (pv 6) (pa_cons (pv 7) pa_nil))))))) (pss_cons (ps_expr (pe_meth (pv 0) (c_Code T) (me_Code_keep T) G_Code_keep (hr.mono (by decide)) bi_Code_keep .nil passF (pa_cons (pv 3) (pa_cons (pv 4) pa_nil)))) (pss_one (ps_for PassesOwn.never rfl (pi_reversed rfl (fr_reversed T) (pa_cons (FcR.pe_listEnum rfl (pe_call G_parts_in (hr.mono (by decide)) rfl (g_parts_in T) kp_parts_in bi_parts_in .nil passF (pa_cons (pv 3) pa_nil)) rfl (fr_list T) b_list rfl (fr_enumerate T) b_enumerate) pa_nil)) (pg_tup rfl (pgs_cons (pg_name (i := 9) sc_Code___init__.nd rfl (Or.inl rfl)) (pgs_cons (pg_name (i := 10) sc_Code___init__.nd rfl (Or.inl rfl)) pgs_nil))) (Evl.pss_cut (ps_set (i := 11) sc_Code___init__.nd rfl (Or.inl rfl) (pe_op op_add (pv 7) (pe_callTy call_int1 rfl (fr_int T) b_int (pa_cons (pe_and (pe_cmpR op_eq (pe_ix ix_tup (pv 3) pe_int (fun _ _ => rfl)) pe_str (nomark _)) (pe_one (pe_cmpR op_eq (pv 9) pe_int (nomark _)))) pa_nil)))) (pss_one (ps_expr (pe_bm PySem.F.plainAttrs_list PySem.F.slot_list_append PySem.F.type_list_append mt_append (pv 2) (pa_cons (pe_tup (pa_cons (pv 10) (pa_cons (pv 8) (pa_cons (pe_op op_add (pv 5) pe_int) (pa_cons (pe_op op_add (pv 6) (pe_callTy call_int1 rfl (fr_int T) b_int (pa_cons (pe_cmpR op_eq (pe_ix ix_tup (pv 3) pe_int (fun _ _ => rfl)) pe_str (nomark _)) pa_nil))) (pa_cons (pv 11) pa_nil)))))) pa_nil)))))))))))))))), ?_⟩
    refine ⟨fun σ' H' => σ' = L2.start N_Code___init__ [.ref p, v] ∧ ∃ q1 q2 q3, H q1 = none ∧ H q2 = none ∧ H q3 = none ∧ q2 ≠ q1 ∧ q3 ≠ q1 ∧ q3 ≠ q2 ∧ H' q1 = some (.lst []) ∧ H' q2 = some (.lst []) ∧ H' q3 = some (.lst []) ∧
      H' p = some (.ins (He.ga K "Code") dx [("statements", .ref q1), ("kinds", .ref q2), ("labels", .ref q3)]) ∧ (∀ b o, H b = some o → b ≠ p → H' b = some o) ∧ (∀ b, H' b = none → H b = none), ?_, ?_⟩
    · refine ⟨sz (by simp), fun q1 f1 => ⟨sz (by simp), fun q2 f2 => ⟨sz (by simp), fun q3 f3 => ⟨sz (by simp), fun t1 g1 => ?_⟩⟩⟩⟩
      obtain ⟨n2a, f2⟩ := up_none f2
      obtain ⟨n3b, f3⟩ := up_none f3
      obtain ⟨n3a, f3⟩ := up_none f3
      obtain ⟨n1c, g1⟩ := up_none g1
      obtain ⟨n1b, g1⟩ := up_none g1
      obtain ⟨n1a, g1⟩ := up_none g1
      have p1 := nn_of f1 hp
      have p2 := nn_of f2 hp
      have p3 := nn_of f3 hp
      have p4 := nn_of g1 hp
      refine ⟨t1, _, rfl, Evl.st_of upd_same, rfl, _, _, rfl, _, rfl, p, _, dx, _, rfl, (by rw [upd_ne p4, upd_ne p3, upd_ne p2, upd_ne p1]; exact hp), c_Code T, na_Code_statements T, (by simp), ?_⟩
      rw [fi_Code_0]
      refine ⟨_, _, rfl, _, rfl, p, _, dx, _, rfl, upd_same, c_Code T, na_Code_kinds T, (by simp), ?_⟩
      rw [fi_Code_1, upd_upd]
      refine ⟨_, _, rfl, _, rfl, p, _, dx, _, rfl, upd_same, c_Code T, na_Code_labels T, (by simp), rfl, ?_⟩
      rw [fi_Code_2, upd_upd]
      refine ⟨rfl, q1, q2, q3, f1, f2, f3, n2a, n3a, n3b, ?_, ?_, ?_, upd_same, fun b o e hb => ?_, fun b e => ?_⟩
      · rw [upd_ne p1.symm, upd_ne n1a.symm, upd_ne n3a.symm, upd_ne n2a.symm, upd_same]
      · rw [upd_ne p2.symm, upd_ne n1b.symm, upd_ne n3b.symm, upd_same]
      · rw [upd_ne p3.symm, upd_ne n1c.symm, upd_same]
      · rw [upd_ne hb, upd_ne (nn_of g1 e), upd_ne (nn_of f3 e), upd_ne (nn_of f2 e), upd_ne (nn_of f1 e)]
        exact e
      · exact (up_none (up_none (up_none (up_none (up_none e).2).2).2).2).2
    rintro σ' H1 ⟨rfl, q1, q2, q3, f1, f2, f3, n21, n31, n32, h1, h2, h3, hp1, kp1, fr1⟩
    -- self.parents, self.children = ([], [])
    refine ⟨fun σ' H' => σ' = L2.start N_Code___init__ [.ref p, v] ∧ ∃ A : CAd, A.p = p ∧ A.dx = dx ∧ A.cs = [] ∧ CL K H' A [] [] [] [] [] ∧ (∀ b ∈ A.all, b = p ∨ H b = none) ∧ (∀ b o, H b = some o → b ≠ p → H' b = some o) ∧ (∀ b, H' b = none → H b = none), ?_, ?_⟩
    · refine ⟨sz (by simp), fun q4 f4 => ⟨sz (by simp), fun q5 f5 => ⟨sz (by simp), fun t2 g2 => ?_⟩⟩⟩
      obtain ⟨n54, f5⟩ := up_none f5
      obtain ⟨m5, g2⟩ := up_none g2
      obtain ⟨m4, g2⟩ := up_none g2
      have p4 := nn_of f4 hp1
      have p5 := nn_of f5 hp1
      have pt := nn_of g2 hp1
      refine ⟨t2, _, rfl, Evl.st_of upd_same, rfl, _, _, rfl, _, rfl, p, _, dx, _, rfl, (by rw [upd_ne pt, upd_ne p5, upd_ne p4]; exact hp1), c_Code T, na_Code_parents T, (by simp), ?_⟩
      rw [fi_Code_3]
      refine ⟨_, _, rfl, _, rfl, p, _, dx, _, rfl, upd_same, c_Code T, na_Code_children T, (by simp), rfl, ?_⟩
      rw [fi_Code_4, upd_upd]
      have a1 := nn_of f4 h1
      have a2 := nn_of f4 h2
      have a3 := nn_of f4 h3
      have b1 := nn_of f5 h1
      have b2 := nn_of f5 h2
      have b3 := nn_of f5 h3
      have c1 := nn_of g2 h1
      have c2 := nn_of g2 h2
      have c3 := nn_of g2 h3
      have pn1 : p ≠ q1 := nn_of f1 hp
      have pn2 : p ≠ q2 := nn_of f2 hp
      have pn3 : p ≠ q3 := nn_of f3 hp
      refine ⟨rfl, ⟨p, dx, q1, q2, q3, q4, q5, []⟩, rfl, rfl, rfl, ⟨upd_same, ?_, ?_, ?_, ?_, ?_, rfl, fun i c x e => by simp at e, ?_⟩, ?_, fun b o e hb => ?_, fun b e => ?_⟩
      · show upd _ p _ q1 = _
        rw [upd_ne pn1.symm, upd_ne c1, upd_ne b1, upd_ne a1]
        exact h1
      · show upd _ p _ q2 = _
        rw [upd_ne pn2.symm, upd_ne c2, upd_ne b2, upd_ne a2]
        exact h2
      · show upd _ p _ q3 = _
        rw [upd_ne pn3.symm, upd_ne c3, upd_ne b3, upd_ne a3]
        exact h3
      · show upd _ p _ q4 = _
        rw [upd_ne p4.symm, upd_ne m4.symm, upd_ne n54.symm, upd_same]
      · show upd _ p _ q5 = _
        rw [upd_ne p5.symm, upd_ne m5.symm, upd_same] <;> rfl
      · show [p, q1, q2, q3, q4, q5].Nodup
        simp only [List.nodup_cons, List.mem_cons, List.not_mem_nil, or_false, not_or, List.nodup_nil, and_true, not_false_eq_true]
        exact ⟨⟨pn1, pn2, pn3, p4, p5⟩, ⟨n21.symm, n31.symm, a1, b1⟩, ⟨n32.symm, a2, b2⟩, ⟨a3, b3⟩, n54.symm⟩
      · intro b hb
        have hb : b ∈ [p, q1, q2, q3, q4, q5] := hb
        simp only [List.mem_cons, List.not_mem_nil, or_false] at hb
        rcases hb with rfl | rfl | rfl | rfl | rfl | rfl
        · exact .inl rfl
        · exact .inr f1
        · exact .inr f2
        · exact .inr f3
        · exact .inr (fr1 _ f4)
        · exact .inr (fr1 _ f5)
      · have e1 := kp1 b o e hb
        rw [upd_ne hb, upd_ne (nn_of g2 e1), upd_ne (nn_of f5 e1), upd_ne (nn_of f4 e1)]
        exact e1
      · exact fr1 _ (up_none (up_none (up_none (up_none e).2).2).2).2
    rintro σ' H2 ⟨rfl, A, rfl, rfl, ac, C, nA, kp2, fr2⟩
    -- waiting = [(statement, None, 1, 0, 0)]
    refine ⟨_, rfl, sz (by simp), fun t3 g3 => ⟨sz (by simp), fun wq gw => ?_⟩⟩
    obtain ⟨nwt, gw⟩ := up_none gw
    have gt : H2 t3 = none := g3
    have ft : F0 t3 = none := Evl.fresh_back xF (fr2 t3 gt)
    have v0 : InW K F0 H A.p wq Gd [⟨d, none, 1, 0, 0⟩] [] A [t3] (upd F0 t3 (.tup [v, .non, .int 1, .int 0, .int 0])) (upd (upd H2 t3 (.tup [v, .non, .int 1, .int 0, .int 0])) wq (.lst [.ref t3])) := by
      have C1 := (C.off (o := .tup [v, .non, .int 1, .int 0, .int 0]) (C.fresh gt))
      have nwA : wq ∉ A.all := C.fresh gw
      have C2 := C1.off (o := .lst [.ref t3]) nwA
      have xx : Ex F0 (upd F0 t3 (.tup [v, .non, .int 1, .int 0, .int 0])) := exu (Evl.Ex.refl F0) ft
      have fA : ∀ b ∈ A.all, F0 b = none := fun b hb => by
        rcases nA b hb with rfl | e
        · exact Fp
        · exact Evl.fresh_back xF e
      have ntA : t3 ∉ A.all := C.fresh gt
      refine ⟨rfl, ⟨[], C2, .nil⟩, fun b hb => ?_, nwA, ?_, upd_same, .cons upd_same (dp_ex xx hd) .nil, xx, fun b o e => ?_, fun b e1 e2 => ?_, fun b o e hb => ?_, nA, fr2 wq gw, fun i hi => ?_, fun r hr => by cases hr⟩
      · rw [upd_ne (fun z => ntA (by rw [← z]; exact hb))]
        exact fA b hb
      · rw [upd_ne nwt]
        exact Evl.fresh_back xF (fr2 wq gw)
      · by_cases z : b = t3
        · rw [z, upd_same] at e
          cases e
          rw [z, upd_ne nwt.symm, upd_same]
        · rw [upd_ne z] at e
          have e2 := xF b o e
          have nb : b ≠ A.p := fun y => by rw [y, Fp] at e; cases e
          rw [upd_ne (nn_of (fr2 wq gw) e2), upd_ne z]
          exact kp2 b o e2 nb
      · rw [upd_ne (fun z => e1 (by rw [z]; exact fr2 t3 gt))]
        exact e2
      · rw [upd_ne (nn_of (fr2 wq gw) e), upd_ne (nn_of (fr2 t3 gt) e)]
        exact kp2 b o e hb
      · rw [List.mem_singleton.mp hi]
        exact ⟨hGd, fun j e => by cases e⟩
    refine ⟨fun m σ' H' => ∃ st rows B ts F' o3 o4 o5 o6 o7 o8 o9 o10 o11, Builds m st rows fin ∧ σ' = [some (.ref A.p), some v, some (.ref wq), o3, o4, o5, o6, o7, o8, o9, o10, o11] ∧ InW K F0 H A.p wq Gd st rows B ts F' H', ⟨N, _, _, _, _, _, _, _, _, _, _, _, _, _, _, hB, rfl, v0⟩, ?_⟩
    rintro m σ' H3 ⟨st, rows, B, ts, F3, o3, o4, o5, o6, o7, o8, o9, o10, o11, bd, rfl, I3⟩
    -- waiting != []
    have hcan : PyData.canLay0 (.list (st.map wD).reverse) = true := canAll fun e he => by
      obtain ⟨i, hi, rfl⟩ := List.mem_map.mp (List.mem_reverse.mp he)
      exact can_wD (hG _ (I3.it i hi).1).1
    refine ⟨_, rfl, sz (by simp), fun p4 g4 => ?_⟩
    obtain ⟨r1, r2, r3, r4⟩ := I3.fresh g4
    have hdl : Dp K (upd H3 p4 (.lst [])) (.ref wq) (.list (st.map wD).reverse) := .lst (Evl.sq_of (by rw [upd_ne r4.symm]; exact I3.wl)) (dpA_rev (dpA_ex (exu I3.fh g4) I3.wi.dp))
    refine ⟨_, _, hdl, .lst (Evl.sq_of upd_same) .nil, hcan, rfl, min_lnil _, _, rfl, ite_of (fun h4 => ?_) (fun h4 => ?_)⟩
    · cases bd with
      | done => simp [PyData.eqv, PyData.eqvAll] at h4
      | @step n it st' _ _ ok bd =>
      cases hts : I3.wi with
      | @cons t ts' _ _ v1 ht hv1 hr =>
      have I4 := (I3.new (o := .lst []) g4).pop
      refine ⟨fun σ' H' => ∃ st rows B ts F' o3 o4 o5 o6 o7 o8 o9 o10 o11, Builds n st rows fin ∧ σ' = [some (.ref A.p), some v, some (.ref wq), o3, o4, o5, o6, o7, o8, o9, o10, o11] ∧ InW K F0 H A.p wq Gd st rows B ts F' H', fun σ' H' w => ⟨n, Nat.lt_succ_self _, w⟩, ?_⟩
      -- value, parent, deep, loops, blocks = waiting.pop()
      have wl4 : upd H3 p4 (.lst []) wq = some (.lst ((ts'.map V.ref).reverse ++ [.ref t])) := by
        rw [upd_ne r4.symm, I3.wl] <;> simp
      refine ⟨_, rfl, Or.inl ⟨rfl, _, Evl.sq_of wl4⟩, wq, _, .ref t, rfl, rfl, wl4, by simp, ?_⟩
      rw [List.dropLast_concat]
      refine ⟨t, wV v1 it, rfl, Evl.st_of (I4.fh _ _ ht), rfl, _, _, rfl, _, _, rfl, _, _, rfl, _, _, rfl, _, _, rfl, rfl, ?_⟩
      -- number = len(self.kinds)
      obtain ⟨L1, C4, dL4⟩ := id I4.code
      have ob4 : ∀ {H' : Hp} {L1 L2 L3 L4 : List V} {Cs : List (List V)}, CL K H' B L1 L2 L3 L4 Cs → H' A.p = some (.ins (He.ga K "Code") B.dx (cFs B)) := fun C => by rw [← I3.ap]; exact C.ob
      refine ⟨_, rfl, A.p, _, _, _, _, rfl, ob4 C4, c_Code T, na_Code_kinds T, fl_Code_kinds _ _ _ _ _, B.a2, _, rfl, .inl (Evl.sq_of C4.h2), ?_⟩
      have hgi := hG _ (I3.it it List.mem_cons_self).1
      obtain ⟨k1, k2, k3, k4⟩ := id ok
      have ln : (rows.map fun r => V.str (kindD r.d)).length = rows.length := List.length_map _
      -- self.check(..)
      refine ⟨_, rfl, A.p, _, _, rfl, ob4 C4, fm_Code_check _ _ _ _ _, _, rfl, _, rfl, _, rfl, _, rfl, _, rfl, .ref A.p, v1, it.d, _, _, _, _, rfl, dp_ex I4.fh hv1, hgi.1, hgi.2.1, (by rw [ln]; omega), (by omega), (by omega), k4, fun H5 x5 => ?_⟩
      have I5 := I4.ext (Evl.Ex.refl _) (I4.fh.trans x5) x5 fun _ _ e => e
      obtain ⟨L1', C5, dL5⟩ := id I5.code
      -- self.keep(value, parent)
      refine ⟨_, rfl, A.p, _, _, rfl, ob4 C5, fm_Code_keep _ _ _ _ _, _, rfl, _, rfl, F3, B, rows, v1, it.d, _, it.par, (by rw [← I3.ap] <;> rfl), I5.fh, I5.code, I5.na, hv1, k4, (by omega), fun i e => ?_, fun c H6 hc6 cd6 kp6 => ?_⟩
      · have li := (I3.it it List.mem_cons_self).2 i e
        refine ⟨rows[i], List.getElem?_eq_getElem li, ?_⟩
        have := I3.ch rows[i] (List.getElem_mem li)
        omega
      have I6 := I5.kept hc6 cd6 kp6
      -- for at, part in reversed(list(enumerate(parts_in(value))))
      refine ⟨_, rfl, F3, v1, it.d, _, rfl, I6.fh, hv1, k4, fun pp H7 xs fp7 x7 hl7 dA7 => ?_⟩
      have I7 := I6.ext (Evl.Ex.refl _) (I6.fh.trans x7) x7 fun _ _ e => e
      refine ⟨pp, xs, rfl, Evl.sq_of hl7, fun H8 pe te k8 fpe fte npe nd8 lte hpe hte => ?_⟩
      have L8 : ∀ b ∈ pe :: te, H7 b = none := fun b hb => by
        rcases List.mem_cons.mp hb with e | hb
        · rw [e]; exact fpe
        · exact fte b hb
      have I8 : InW K F0 H A.p wq Gd st' (addRow rows it.d it.par) { B with cs := B.cs ++ [c] } ts' (frz F3 H8 (pe :: te)) H8 :=
        I7.ext (frz_ex fun b hb => (I7.fresh (L8 b hb)).2.1) (frz_le (I7.fh.trans k8)) k8 fun b h1 h2 => by rw [frz_out (fun z => h1 (L8 b z))]; exact h2
      have lx : xs.length = (partsD it.d).length := dpA_len dA7
      have x38 : Ex F3 (frz F3 H8 (pe :: te)) := frz_ex fun b hb => (I7.fresh (L8 b hb)).2.1
      obtain ⟨kk, rr, _, ek, _, _, _⟩ := isStm_shape k4
      obtain ⟨va, vxs, rfl, vS, vA⟩ := dp_tup (ek ▸ hv1)
      cases vA with
      | @cons vk vxr _ _ vk0 vA =>
      obtain rfl := dp_str vk0
      have ekd : kindD it.d = kk := by rw [ek] <;> rfl
      refine ⟨pe, _, rfl, Evl.sq_of hpe, for_it walk_rev (fun i σ' H' => ∃ ts'' F'' o9 o10 o11, σ' = [some (.ref A.p), some v, some (.ref wq), some (.ref va), some (parV it.par), some (.int (it.deep : Int)), some (.int (it.loops : Int)), some (.int (it.blocks : Int)), some (.int ((rows.map fun r => V.str (kindD r.d)).length : Int)), o9, o10, o11] ∧
        InW K F0 H A.p wq Gd ((newIts it rows.length).drop (te.length - i) ++ st') (addRow rows it.d it.par) { B with cs := B.cs ++ [c] } ts'' F'' H' ∧ Ex (frz F3 H8 (pe :: te)) F'') ?_ ?_ ?_ ?_⟩
      · refine ⟨ts', _, o9, o10, o11, rfl, ?_, Evl.Ex.refl _⟩
        rw [Nat.sub_zero, List.drop_eq_nil_of_le (by rw [newIts_len, lte, lx]; exact Nat.le_refl _)]
        exact I8
      · rintro i σ' H' _ ⟨ts'', F'', _, _, _, _, I9, x9⟩
        exact Evl.sq_of (I9.fh _ _ (x9 _ _ (by rw [frz_in List.mem_cons_self]; exact hpe)))
      · rintro i x σ' H9x H9 hi ⟨ts'', F'', u9, u10, u11, rfl, I9, x9⟩ ⟨rfl, hx⟩
        rw [List.length_map] at hi hx
        have lj : te.length - 1 - i < te.length := by omega
        have htj : te[te.length - 1 - i]? = some te[te.length - 1 - i] := List.getElem?_eq_getElem lj
        rw [List.getElem?_map, htj] at hx
        cases hx
        have lxj : te.length - 1 - i < xs.length := by rw [← lte]; exact lj
        have hxj : xs[te.length - 1 - i]? = some xs[te.length - 1 - i] := List.getElem?_eq_getElem lxj
        have lpj : te.length - 1 - i < (partsD it.d).length := by rw [← lx]; exact lxj
        have hpj : (partsD it.d)[te.length - 1 - i]? = some (partsD it.d)[te.length - 1 - i] := List.getElem?_eq_getElem lpj
        obtain ⟨u, hu, hdu⟩ := dpA_get dA7 hpj
        rw [hxj] at hu
        cases hu
        have htu := hte _ _ _ htj hxj
        have htF : H9 te[te.length - 1 - i] = some (.tup [.int ((te.length - 1 - i : Nat) : Int), xs[te.length - 1 - i]]) := I9.fh _ _ (x9 _ _ (by rw [frz_in (List.mem_cons_of_mem _ (List.getElem_mem lj))]; exact htu))
        have vS9 : SqT K H9 va (V.str kk :: vxr) := Evl.ex_t ((x38.trans x9).trans I9.fh) vS
        refine ⟨_, _, rfl, Evl.st_of htF, rfl, _, _, rfl, _, _, rfl, rfl, ?_⟩
        -- inside = ..
        refine ⟨fun σ' H' => H' = H9 ∧ σ' = [some (.ref A.p), some v, some (.ref wq), some (.ref va), some (parV it.par), some (.int (it.deep : Int)), some (.int (it.loops : Int)), some (.int (it.blocks : Int)), some (.int ((rows.map fun r => V.str (kindD r.d)).length : Int)), some (.int ((te.length - 1 - i : Nat) : Int)), some xs[te.length - 1 - i], some (.int ((it.blocks : Int) + (if kindD it.d = "final" ∧ te.length - 1 - i = 1 then 1 else 0)))], ?_, ?_⟩
        · refine ⟨_, rfl, _, rfl, va, _, _, _, rfl, rfl, vS9, at0, rfl, _, rfl, ite_of (fun h5 => ?_) (fun h5 => ?_)⟩
          · have e5 : kk = "final" := V.str.inj (of_decide_eq_true h5)
            refine ⟨_, rfl, rfl, .inr ⟨_, rfl, _, _, rfl, rfl, rfl, ?_⟩⟩
            by_cases z : te.length - 1 - i = 1
            · rw [if_pos (show kindD it.d = "final" ∧ te.length - 1 - i = 1 from ⟨by rw [ekd, e5], z⟩), if_pos (decide_eq_true (by rw [z] <;> rfl))] <;> rfl
            · rw [if_neg (show ¬ (kindD it.d = "final" ∧ te.length - 1 - i = 1) from fun y => z y.2), if_neg (fun y => z (by have := V.int.inj (of_decide_eq_true y); omega))] <;> rfl
          · have e5 : ¬ kk = "final" := fun e => by
              have y : decide (V.str kk = V.str "final") = true := decide_eq_true (by rw [e])
              rw [y] at h5
              cases h5
            refine .inr ⟨_, rfl, _, _, rfl, rfl, rfl, ?_⟩
            rw [if_neg (show ¬ (kindD it.d = "final" ∧ te.length - 1 - i = 1) from fun y => e5 (by rw [← ekd]; exact y.1))] <;> rfl
        rintro σ' H' ⟨rfl, rfl⟩
        -- waiting.append(..)
        refine ⟨_, rfl, Or.inl ⟨rfl, _, Evl.sq_of I9.wl⟩, _, rfl, _, rfl, _, rfl, _, _, rfl, rfl, _, rfl, _, rfl, va, _, _, _, rfl, rfl, vS9, at0, rfl, .inr ⟨_, rfl, _, _, rfl, rfl, _, rfl, sz (by simp), fun tn htn => ?_⟩⟩
        obtain ⟨z1, z2, z3, z4⟩ := I9.fresh htn
        refine ⟨wq, _, _, rfl, rfl, (by rw [upd_ne z4.symm]; exact I9.wl), szl ?_, ?_⟩
        · have b1 := bd.len
          have b2 := bd.bd
          rw [List.length_append] at b1
          rw [List.length_reverse, List.length_map, I9.wi.len, List.length_append, List.length_drop]
          omega
        have I10 := I9.push (it := newIt it rows.length (te.length - 1 - i) (partsD it.d)[te.length - 1 - i]) (v := xs[te.length - 1 - i]) htn (dp_ex (x38.trans x9) hdu) ⟨hgi.2.2 _ (List.getElem_mem lpj), fun j e => by cases e; rw [addRow_len]; omega⟩
        have e6 : (newIts it rows.length).drop (te.length - (i + 1)) = newIt it rows.length (te.length - 1 - i) (partsD it.d)[te.length - 1 - i] :: (newIts it rows.length).drop (te.length - i) := by
          have e7 : te.length - (i + 1) = te.length - 1 - i := by omega
          have l7 : te.length - 1 - i < (newIts it rows.length).length := by rw [newIts_len]; exact lpj
          have g7 : (newIts it rows.length)[te.length - 1 - i] = newIt it rows.length (te.length - 1 - i) (partsD it.d)[te.length - 1 - i] := by
            have y := newIts_get (n := rows.length) hpj
            rw [List.getElem?_eq_getElem l7] at y
            exact Option.some.inj y
          rw [e7, List.drop_eq_getElem_cons l7, g7]
          congr 2
          omega
        refine ⟨tn :: ts'', upd F'' tn (.tup (wV xs[te.length - 1 - i] (newIt it rows.length (te.length - 1 - i) (partsD it.d)[te.length - 1 - i]))), _, _, _, rfl, ?_, x9.trans (exu (Evl.Ex.refl _) z2)⟩
        rw [e6, List.cons_append]
        have eH : upd (upd H' tn (.tup (wV xs[te.length - 1 - i] (newIt it rows.length (te.length - 1 - i) (partsD it.d)[te.length - 1 - i])))) wq (.lst (((tn :: ts'').map V.ref).reverse)) =
            upd (upd H' tn (.tup [xs[te.length - 1 - i], .int ((rows.map fun r => V.str (kindD r.d)).length : Int), .int ((it.deep : Int) + 1), .int ((it.loops : Int) + (if decide (V.str kk = V.str "while") = true then 1 else 0)), .int ((it.blocks : Int) + (if kindD it.d = "final" ∧ te.length - 1 - i = 1 then 1 else 0))])) wq (.lst ((ts''.map V.ref).reverse ++ [.ref tn])) := by
          rw [wV_new, ln, ekd, List.map_cons, List.reverse_cons]
        rw [eH] at I10
        exact I10
      · rintro σ' H9 ⟨ts'', F'', u9, u10, u11, rfl, I9, x9⟩
        rw [List.length_map, Nat.sub_self, List.drop_zero] at I9
        exact ⟨_, _, _, _, _, _, _, _, _, _, _, _, _, _, bd, rfl, I9⟩
    · rw [eqv_lnil] at h4
      cases bd with
      | step ok bd => simp at h4
      | done =>
      have I5 := I3.new (o := .lst []) g4
      obtain ⟨vs, C5, dL5⟩ := id I5.code
      have xf : Ex F3 (frz F3 (upd H3 p4 (.lst [])) B.all) := frz_ex I5.na
      refine q B (frz F3 (upd H3 p4 (.lst [])) B.all) _ I5.ap ⟨I5.ff.trans xf, frz_le I5.fh, fun b h1 h2 h3 => ?_, fun b o e hb => I5.kp b o e hb⟩ ⟨vs, ?_, dpA_ex xf dL5⟩
      · rw [frz_out (fun z => by
          rcases I5.nh b z with y | y
          · exact h3 y
          · exact h1 y)]
        exact I5.nw b h1 h2
      · have at_ : ∀ {b : Addr} {o : HO}, b ∈ B.all → upd H3 p4 (.lst []) b = some o → frz F3 (upd H3 p4 (.lst [])) B.all b = some o := fun hb e => by rw [frz_in hb]; exact e
        exact ⟨at_ (by simp [CAd.all]) C5.ob, at_ (in_all1 B) C5.h1, at_ (in_all2 B) C5.h2, at_ (in_all3 B) C5.h3, at_ (in_all4 B) C5.h4, at_ (in_all5 B) C5.h5, C5.cl, fun i c x h1 h2 => at_ (in_allc (List.mem_of_getElem? h1)) (C5.cc i c x h1 h2), C5.nd⟩
theorem ok_Code___init__ (T : Tx w h K mg) : Ok P w K mg base 6 ("Code", some "__init__") ["self", "statement"] (sp_Code___init__ K) := by
  obtain ⟨fd, a, b, c, _⟩ := okF_Code___init__ (P := P) (base := base) T
  exact ⟨fd, a, b, c⟩
end
theorem make_of {H H2 : Hp} {q dx C : Addr} {fs : List (Str × V)} (e : upd (upd H dx (.own q)) q (.ins C dx fs) = H2) (nq : H q = none) (nd : H dx = none) : Ex H H2 ∧ H2 q = some (.ins C dx fs) := by
  subst e
  refine ⟨fun b o hb => ?_, upd_same⟩
  rw [upd_ne (ne_of_none hb nq), upd_ne (ne_of_none hb nd)]
  exact hb

end Fc

set_option maxRecDepth 100000
set_option maxHeartbeats 4000000
/-! Runs over a table of statements: a law's way (by parts) and the walker's way (by steps). No program in sight. -/
namespace FcM
inductive Way where
  | nrm
  | ret
  | rai
  | brk (k : Nat)
  | cnt (k : Nat)
  deriving DecidableEq
inductive Node where
  | do_
  | call
  | ret
  | rai
  | brk (k : Nat)
  | cnt (k : Nat)
  | iff (a b : Nat)
  | whl (a : Nat)
  | seq (l : List Nat)
  | tr (a b : Nat)
  | fin (a b : Nat)
def Node.ch : Node → List Nat
  | .iff a b => [a, b]
  | .whl a => [a]
  | .seq l => l
  | .tr a b => [a, b]
  | .fin a b => [a, b]
  | _ => []
structure Tab where
  len : Nat
  nd : Nat → Node
  pr : Nat → Option Nat
structure Tab.WF (t : Tab) (lp : Nat → Nat) : Prop where
  ne : 0 < t.len
  root : t.pr 0 = none
  lp0 : lp 0 = 0
  dn : ∀ n, n < t.len → ∀ c ∈ (t.nd n).ch, n < c ∧ c < t.len ∧ t.pr c = some n ∧ lp c = lp n + (match t.nd n with | .whl _ => 1 | _ => 0)
  nd : ∀ n, n < t.len → (t.nd n).ch.Nodup
  pu : ∀ n p, n < t.len → t.pr n = some p → p < t.len
  sq : ∀ n l, n < t.len → t.nd n = .seq l → l ≠ []
  bk : ∀ n k, n < t.len → t.nd n = .brk k → 1 ≤ k ∧ k ≤ lp n
  ct : ∀ n k, n < t.len → t.nd n = .cnt k → 1 ≤ k ∧ k ≤ lp n
inductive Ent (t : Tab) : Nat → Nat → Nat → Prop
  | here {n : Nat} (h : ∀ l, t.nd n ≠ .seq l) (h2 : ∀ a b, t.nd n ≠ .tr a b) (h3 : ∀ a b, t.nd n ≠ .fin a b) : Ent t 0 n n
  | seq {k n c e : Nat} {l : List Nat} (h : t.nd n = .seq (c :: l)) (r : Ent t k c e) : Ent t (k + 1) n e
  | tr {k n a b e : Nat} (h : t.nd n = .tr a b) (r : Ent t k a e) : Ent t (k + 1) n e
  | fin {k n a b e : Nat} (h : t.nd n = .fin a b) (r : Ent t k a e) : Ent t (k + 1) n e
/-- the height of a part -/
inductive Hg (t : Tab) : Nat → Nat → Prop
  | mk {h n : Nat} (r : ∀ c ∈ (t.nd n).ch, Hg t h c) : Hg t (h + 1) n
def decW : Way → Way
  | .brk k => if k = 1 then .nrm else .brk (k - 1)
  | .cnt k => .cnt (k - 1)
  | w => w
def again (w : Way) : Bool := decide (w = .nrm) || decide (w = .cnt 1)
abbrev Pd := List (Nat × Way)
/-- a part is left in a way: the walker's next place, or the end -/
inductive Lv (t : Tab) : Nat → Way → Pd → Nat ⊕ Way → Pd → Prop
  | top {n : Nat} {w : Way} {P : Pd} (h : t.pr n = none) : Lv t n w P (.inr w) P
  | seqN {n p m k e : Nat} {l l1 l2 : List Nat} {P : Pd} (h : t.pr n = some p) (hd : t.nd p = .seq l) (hl : l = l1 ++ n :: m :: l2) (he : Ent t k m e) : Lv t n .nrm P (.inl e) P
  | seqU {n p : Nat} {w : Way} {l : List Nat} {P P' : Pd} {r : Nat ⊕ Way} (h : t.pr n = some p) (hd : t.nd p = .seq l) (hw : w ≠ .nrm ∨ l.getLast? = some n) (up : Lv t p w P r P') : Lv t n w P r P'
  | whlA {n p : Nat} {w : Way} {P : Pd} (h : t.pr n = some p) (hd : t.nd p = .whl n) (hw : again w = true) : Lv t n w P (.inl p) P
  | whlU {n p : Nat} {w : Way} {P P' : Pd} {r : Nat ⊕ Way} (h : t.pr n = some p) (hd : t.nd p = .whl n) (hw : again w = false) (up : Lv t p (decW w) P r P') : Lv t n w P r P'
  | tryH {n p b k e : Nat} {P : Pd} (h : t.pr n = some p) (hd : t.nd p = .tr n b) (he : Ent t k b e) : Lv t n .rai P (.inl e) P
  | tryU {n p a b : Nat} {w : Way} {P P' : Pd} {r : Nat ⊕ Way} (h : t.pr n = some p) (hd : t.nd p = .tr a b) (hw : w ≠ .rai ∨ n ≠ a) (up : Lv t p w P r P') : Lv t n w P r P'
  | iffU {n p a b : Nat} {w : Way} {P P' : Pd} {r : Nat ⊕ Way} (h : t.pr n = some p) (hd : t.nd p = .iff a b) (up : Lv t p w P r P') : Lv t n w P r P'
  | finB {n p b k e : Nat} {w : Way} {P : Pd} (h : t.pr n = some p) (hd : t.nd p = .fin n b) (he : Ent t k b e) : Lv t n w P (.inl e) (P ++ [(p, w)])
  | finE {n p a : Nat} {P : Pd} (h : t.pr n = some p) (hd : t.nd p = .fin a n) (hn : n ≠ a) : Lv t n .nrm P (.inl p) P
  | finO {n p a : Nat} {w : Way} {P P' : Pd} {x : Nat × Way} {r : Nat ⊕ Way} (h : t.pr n = some p) (hd : t.nd p = .fin a n) (hn : n ≠ a) (hw : w ≠ .nrm) (up : Lv t p w P r P') : Lv t n w (P ++ [x]) r P'
structure Cfg where
  at_ : Nat ⊕ Way
  pd : Pd
  us : Nat
  vs : List Nat
def asks : Node → Bool
  | .call => true
  | .iff _ _ => true
  | .whl _ => true
  | _ => false
/-- the way of a place that does not ask -/
def wayN : Node → Way
  | .ret => .ret
  | .rai => .rai
  | .brk k => .brk k
  | .cnt k => .cnt k
  | _ => .nrm
def quiet : Node → Prop
  | .do_ => True
  | .ret => True
  | .rai => True
  | .brk _ => True
  | .cnt _ => True
  | _ => False
/-- what a place does with an answer: where the walker stands then -/
inductive Dp1 (t : Tab) (s : Nat) (x : Bool) : Pd → Nat ⊕ Way → Pd → Prop
  | iff {a b k e : Nat} {P : Pd} (h : t.nd s = .iff a b) (he : Ent t k (if x then b else a) e) : Dp1 t s x P (.inl e) P
  | whlT {a k e : Nat} {P : Pd} (h : t.nd s = .whl a) (hx : x = true) (he : Ent t k a e) : Dp1 t s x P (.inl e) P
  | whlF {a : Nat} {P P' : Pd} {r : Nat ⊕ Way} (h : t.nd s = .whl a) (hx : x = false) (l : Lv t s .nrm P r P') : Dp1 t s x P r P'
  | call {P P' : Pd} {r : Nat ⊕ Way} (h : t.nd s = .call) (l : Lv t s (if x then .rai else .nrm) P r P') : Dp1 t s x P r P'
  | fin {a b q : Nat} {w : Way} {P P' : Pd} {r : Nat ⊕ Way} (h : t.nd s = .fin a b) (l : Lv t s w P r P') : Dp1 t s x (P ++ [(q, w)]) r P'
  | quiet {P P' : Pd} {r : Nat ⊕ Way} (h : quiet (t.nd s)) (l : Lv t s (wayN (t.nd s)) P r P') : Dp1 t s x P r P'
inductive Step (t : Tab) (bits : List Bool) : Cfg → Cfg → Prop
  | ask {s : Nat} {x : Bool} {P P' : Pd} {u : Nat} {v : List Nat} {r : Nat ⊕ Way} (h : asks (t.nd s) = true) (hu : bits[u]? = some x) (d : Dp1 t s x P r P') : Step t bits ⟨.inl s, P, u, v⟩ ⟨r, P', u + 1, v ++ [s]⟩
  | on {s : Nat} {P P' : Pd} {u : Nat} {v : List Nat} {r : Nat ⊕ Way} (h : asks (t.nd s) = false) (d : Dp1 t s false P r P') : Step t bits ⟨.inl s, P, u, v⟩ ⟨r, P', u, v ++ [s]⟩
inductive Stop (t : Tab) (bits : List Bool) : Cfg → Prop
  | fin {w : Way} {P : Pd} {u : Nat} {v : List Nat} : Stop t bits ⟨.inr w, P, u, v⟩
  | wait {s : Nat} {P : Pd} {u : Nat} {v : List Nat} (h : asks (t.nd s) = true) (hu : bits[u]? = none) : Stop t bits ⟨.inl s, P, u, v⟩
inductive Re (t : Tab) (bits : List Bool) (B : Nat) : Nat → Cfg → Cfg → Prop
  | stop {c : Cfg} (h : Stop t bits c) (hb : c.pd.length ≤ B) : Re t bits B 0 c c
  | step {n : Nat} {c d e : Cfg} (h : Step t bits c d) (hb : c.pd.length ≤ B) (r : Re t bits B n d e) : Re t bits B (n + 1) c e
/-! ### the law's way -/
abbrev Wt := (Nat × Pd) ⊕ Way
abbrev Rs := Wt × Nat × List Nat
def loopF (bits : List Bool) (n : Nat) (P : Pd) (body : Nat → List Nat → Rs) : Nat → Nat → List Nat → Rs
  | 0, u, v => (.inl (n, P), u, v)
  | f + 1, u, v => match bits[u]? with
    | none => (.inl (n, P), u, v)
    | some false => (.inr .nrm, u + 1, v ++ [n])
    | some true => match body (u + 1) (v ++ [n]) with
      | (.inl x, u', v') => (.inl x, u', v')
      | (.inr w, u', v') => if again w = true then loopF bits n P body f u' v' else (.inr (decW w), u', v')
def seqF (go : Nat → Nat → List Nat → Rs) : List Nat → Rs → Rs
  | [], r => r
  | c :: cs, (w, u, v) => if w = .inr .nrm then seqF go cs (go c u v) else seqF go cs (w, u, v)
def finF (n : Nat) (w : Way) : Rs → Rs
  | (.inl x, u, v) => (.inl x, u, v)
  | (.inr w2, u, v) => if w2 = .nrm then (.inr w, u, v ++ [n]) else (.inr w2, u, v)
def goF (t : Tab) (bits : List Bool) : Nat → Nat → Pd → Nat → List Nat → Rs
  | 0, n, P, u, v => (.inl (n, P), u, v)
  | h + 1, n, P, u, v => match t.nd n with
    | .whl a => loopF bits n P (goF t bits h a P) (bits.length + 1) u v
    | .fin a b => match goF t bits h a P u v with
      | (.inl x, u1, v1) => (.inl x, u1, v1)
      | (.inr w, u1, v1) => finF n w (goF t bits h b (P ++ [(n, w)]) u1 v1)
    | .call => match bits[u]? with
      | none => (.inl (n, P), u, v)
      | some x => (.inr (if x then .rai else .nrm), u + 1, v ++ [n])
    | .iff a b => match bits[u]? with
      | none => (.inl (n, P), u, v)
      | some x => goF t bits h (if x then b else a) P (u + 1) (v ++ [n])
    | .seq l => seqF (fun c => goF t bits h c P) l (.inr .nrm, u, v)
    | .tr a b => match goF t bits h a P u v with
      | (.inr .rai, u1, v1) => goF t bits h b P u1 v1
      | r => r
    | d => (.inr (wayN d), u, v ++ [n])
def WOk (l : Nat) : Way → Prop
  | .brk k => 1 ≤ k ∧ k ≤ l
  | .cnt k => 1 ≤ k ∧ k ≤ l
  | _ => True
section
variable {t : Tab} {lp : Nat → Nat} {bits : List Bool}
/-- behind leaving n in the way w the walker comes to cf -/
def After (t : Tab) (bits : List Bool) (B n : Nat) (w : Way) (P : Pd) (u : Nat) (v : List Nat) (cf : Cfg) : Prop := ∃ r P' N, Lv t n w P r P' ∧ Re t bits B N ⟨r, P', u, v⟩ cf
/-- from the entry of n the walker comes to cf -/
def From (t : Tab) (bits : List Bool) (B n : Nat) (P : Pd) (u : Nat) (v : List Nat) (cf : Cfg) : Prop := ∃ k e N, Ent t k n e ∧ Re t bits B N ⟨.inl e, P, u, v⟩ cf
/-- what the walker does of what the law reckons -/
def Good (t : Tab) (bits : List Bool) (B : Nat) (lp : Nat → Nat) (n : Nat) (P : Pd) (u : Nat) (v : List Nat) : Rs → Prop
  | (.inr w, u', v') => u ≤ u' ∧ u' ≤ bits.length ∧ WOk (lp n) w ∧ ∀ cf, After t bits B n w P u' v' cf → From t bits B n P u v cf
  | (.inl x, u', v') => u ≤ u' ∧ u' ≤ bits.length ∧ ∃ cf, From t bits B n P u v cf ∧ cf.vs = v' ∧ cf.us = u' ∧ cf.at_ = .inl x.1 ∧ cf.pd = x.2
end
end FcM

set_option maxRecDepth 100000
set_option maxHeartbeats 4000000
namespace FcM
section
variable {t : Tab} {lp : Nat → Nat} {bits : List Bool} {B : Nat}
theorem bit_lt {u : Nat} {x : Bool} (h : bits[u]? = some x) : u + 1 ≤ bits.length := (List.getElem?_eq_some_iff.mp h).1
theorem from_wait {n : Nat} {P : Pd} {u : Nat} {v : List Nat} (he : Ent t 0 n n) (ha : asks (t.nd n) = true) (hu : bits[u]? = none) (hB : P.length ≤ B) : From t bits B n P u v ⟨.inl n, P, u, v⟩ := ⟨0, n, 0, he, .stop (.wait ha hu) hB⟩
theorem Ent.self {k n e : Nat} (h : Ent t k n e) (h1 : ∀ l, t.nd n ≠ .seq l) (h2 : ∀ a b, t.nd n ≠ .tr a b) (h3 : ∀ a b, t.nd n ≠ .fin a b) : e = n := by
  cases h with
  | here => rfl
  | seq h _ => exact absurd h (h1 _)
  | tr h _ => exact absurd h (h2 _ _)
  | fin h _ => exact absurd h (h3 _ _)
theorem seqF_stop {go : Nat → Nat → List Nat → Rs} {w : Wt} {u : Nat} {v : List Nat} (hw : w ≠ .inr .nrm) : ∀ cs : List Nat, seqF go cs (w, u, v) = (w, u, v)
  | [] => rfl
  | c :: cs => by
    show (if w = .inr .nrm then _ else seqF go cs (w, u, v)) = _
    rw [if_neg hw, seqF_stop hw cs]
theorem dec_ok {l : Nat} {w : Way} (h : WOk (l + 1) w) (ha : again w = false) : WOk l (decW w) := by
  cases w with
  | nrm => trivial
  | ret => trivial
  | rai => trivial
  | brk k =>
    show WOk l (if k = 1 then .nrm else .brk (k - 1))
    by_cases hk : k = 1
    · rw [if_pos hk]; trivial
    · rw [if_neg hk]
      have h1 : 1 ≤ k ∧ k ≤ l + 1 := h
      show 1 ≤ k - 1 ∧ k - 1 ≤ l
      omega
  | cnt k =>
    have h1 : 1 ≤ k ∧ k ≤ l + 1 := h
    have hk : k ≠ 1 := fun z => by subst z; simp [again] at ha
    show 1 ≤ k - 1 ∧ k - 1 ≤ l
    omega
/-- the loop of a while at n with the part a -/
theorem loop_good (W : t.WF lp) {n a : Nat} (hn : n < t.len) (hd : t.nd n = .whl a) {body : Nat → List Nat → Rs} {P : Pd} (hB : P.length ≤ B) (hb : ∀ u v, u ≤ bits.length → Good t bits B lp a P u v (body u v)) :
    ∀ f u v, bits.length - u < f → u ≤ bits.length → Good t bits B lp n P u v (loopF bits n P body f u v) := by
  have he : Ent t 0 n n := .here (fun l => by rw [hd]; exact fun z => nomatch z) (fun a b => by rw [hd]; exact fun z => nomatch z) (fun a b => by rw [hd]; exact fun z => nomatch z)
  have ha : asks (t.nd n) = true := by rw [hd]; rfl
  obtain ⟨c1, c2, c3, c4⟩ := W.dn n hn a (by rw [hd]; exact List.mem_singleton.mpr rfl)
  rw [hd] at c4
  have c4 : lp a = lp n + 1 := c4
  intro f
  induction f with
  | zero => exact fun u v h => absurd h (Nat.not_lt_zero _)
  | succ f ih =>
    intro u v hf hu
    cases hx : bits[u]? with
    | none =>
      have e : loopF bits n P body (f + 1) u v = (.inl (n, P), u, v) := by simp only [loopF, hx]
      rw [e]
      exact ⟨Nat.le_refl _, hu, _, from_wait he ha hx hB, rfl, rfl, rfl, rfl⟩
    | some x =>
      have hl := bit_lt hx
      cases x with
      | false =>
        have e : loopF bits n P body (f + 1) u v = (.inr .nrm, u + 1, v ++ [n]) := by simp only [loopF, hx]
        rw [e]
        refine ⟨by omega, hl, trivial, fun cf h => ?_⟩
        obtain ⟨r, P', N, l, re⟩ := h
        exact ⟨0, n, N + 1, he, .step (.ask ha hx (.whlF hd rfl l)) hB re⟩
      | true =>
        have g := hb (u + 1) (v ++ [n]) hl
        have up : ∀ cf, From t bits B a P (u + 1) (v ++ [n]) cf → From t bits B n P u v cf := fun cf h => by
          obtain ⟨k, e, N, en, re⟩ := h
          exact ⟨0, n, N + 1, he, .step (.ask ha hx (.whlT hd rfl en)) hB re⟩
        rcases hr : body (u + 1) (v ++ [n]) with ⟨w, u', v'⟩
        rw [hr] at g
        cases w with
        | inl x =>
          have e : loopF bits n P body (f + 1) u v = (.inl x, u', v') := by simp only [loopF, hx, hr]
          rw [e]
          obtain ⟨g1, g2, cf, g3, g4⟩ := g
          exact ⟨by omega, g2, cf, up cf g3, g4⟩
        | inr w =>
          obtain ⟨g1, g2, g3, g4⟩ := g
          by_cases hw : again w = true
          · have e : loopF bits n P body (f + 1) u v = loopF bits n P body f u' v' := by simp only [loopF, hx, hr, hw, if_true]
            rw [e]
            have g := ih u' v' (by omega) g2
            have go : ∀ cf, From t bits B n P u' v' cf → From t bits B n P u v cf := fun cf h => by
              obtain ⟨k, e', N, en, re⟩ := h
              have z := en.self (fun l => by rw [hd]; exact fun z => nomatch z) (fun a b => by rw [hd]; exact fun z => nomatch z) (fun a b => by rw [hd]; exact fun z => nomatch z)
              subst z
              exact up cf (g4 cf ⟨_, _, _, .whlA c3 hd hw, re⟩)
            rcases hr2 : loopF bits n P body f u' v' with ⟨w2, u2, v2⟩
            rw [hr2] at g
            cases w2 with
            | inl x =>
              obtain ⟨k1, k2, cf, k3, k4⟩ := g
              exact ⟨by omega, k2, cf, go cf k3, k4⟩
            | inr w2 =>
              obtain ⟨k1, k2, k3, k4⟩ := g
              exact ⟨by omega, k2, k3, fun cf h => go cf (k4 cf h)⟩
          · have hw : again w = false := by simpa using hw
            have e : loopF bits n P body (f + 1) u v = (.inr (decW w), u', v') := by simp [loopF, hx, hr, hw]
            rw [e]
            refine ⟨by omega, g2, dec_ok (by rw [c4] at g3; exact g3) hw, fun cf h => ?_⟩
            obtain ⟨r, P', N, l, re⟩ := h
            exact up cf (g4 cf ⟨r, P', N, .whlU c3 hd hw l, re⟩)
theorem seq_good (W : t.WF lp) {n : Nat} {l : List Nat} (hn : n < t.len) (hd : t.nd n = .seq l) {go : Nat → Nat → List Nat → Rs} {P : Pd} (hb : ∀ c ∈ l, ∀ u v, u ≤ bits.length → Good t bits B lp c P u v (go c u v)) :
    ∀ (cs l1 : List Nat) (c u : Nat) (v : List Nat), l = l1 ++ c :: cs → u ≤ bits.length → (match seqF go (c :: cs) (.inr .nrm, u, v) with
      | (.inr w, u', v') => u ≤ u' ∧ u' ≤ bits.length ∧ WOk (lp n) w ∧ ∀ cf, After t bits B n w P u' v' cf → From t bits B c P u v cf
      | (.inl x, u', v') => u ≤ u' ∧ u' ≤ bits.length ∧ ∃ cf, From t bits B c P u v cf ∧ cf.vs = v' ∧ cf.us = u' ∧ cf.at_ = .inl x.1 ∧ cf.pd = x.2) := by
  intro cs
  induction cs with
  | nil =>
    intro l1 c u v hl hu
    have hc : c ∈ l := by rw [hl]; simp
    obtain ⟨c1, c2, c3, c4⟩ := W.dn n hn c (by rw [hd]; exact hc)
    rw [hd] at c4
    have c4 : lp c = lp n := c4
    have g := hb c hc u v hu
    have e : seqF go [c] (.inr .nrm, u, v) = go c u v := by simp [seqF]
    rw [e]
    rcases hr : go c u v with ⟨w, u', v'⟩
    rw [hr] at g
    cases w with
    | inl x => exact g
    | inr w =>
      obtain ⟨g1, g2, g3, g4⟩ := g
      refine ⟨g1, g2, by rw [← c4]; exact g3, fun cf h => ?_⟩
      obtain ⟨r, P', N, lv, re⟩ := h
      exact g4 cf ⟨r, P', N, .seqU c3 hd (.inr (by rw [hl]; simp)) lv, re⟩
  | cons m cs ih =>
    intro l1 c u v hl hu
    have hc : c ∈ l := by rw [hl]; simp
    obtain ⟨c1, c2, c3, c4⟩ := W.dn n hn c (by rw [hd]; exact hc)
    rw [hd] at c4
    have c4 : lp c = lp n := c4
    have g := hb c hc u v hu
    have e : seqF go (c :: m :: cs) (.inr .nrm, u, v) = seqF go (m :: cs) (go c u v) := by simp [seqF]
    rw [e]
    rcases hr : go c u v with ⟨w, u', v'⟩
    rw [hr] at g
    cases w with
    | inl x =>
      rw [seqF_stop (w := .inl x) (fun z => nomatch z)]
      exact g
    | inr w =>
      obtain ⟨g1, g2, g3, g4⟩ := g
      by_cases hw : w = .nrm
      · subst hw
        have i := ih (l1 ++ [c]) m u' v' (by rw [hl]; simp) g2
        rcases hr2 : seqF go (m :: cs) (.inr .nrm, u', v') with ⟨w2, u2, v2⟩
        rw [hr2] at i
        have go' : ∀ cf, From t bits B m P u' v' cf → From t bits B c P u v cf := fun cf h => by
          obtain ⟨k, e', N, en, re⟩ := h
          exact g4 cf ⟨_, _, _, .seqN c3 hd hl en, re⟩
        cases w2 with
        | inl x =>
          obtain ⟨k1, k2, cf, k3, k4⟩ := i
          exact ⟨by omega, k2, cf, go' cf k3, k4⟩
        | inr w2 =>
          obtain ⟨k1, k2, k3, k4⟩ := i
          exact ⟨by omega, k2, k3, fun cf h => go' cf (k4 cf h)⟩
      · rw [seqF_stop (fun z => hw (Sum.inr.inj z))]
        refine ⟨g1, g2, by rw [← c4]; exact g3, fun cf h => ?_⟩
        obtain ⟨r, P', N, lv, re⟩ := h
        exact g4 cf ⟨r, P', N, .seqU c3 hd (.inl hw) lv, re⟩
theorem quiet_good (W : t.WF lp) {n : Nat} (hn : n < t.len) (hq : quiet (t.nd n)) {P : Pd} {u : Nat} {v : List Nat} (hB : P.length ≤ B) (hu : u ≤ bits.length) : Good t bits B lp n P u v (.inr (wayN (t.nd n)), u, v ++ [n]) := by
  have he : Ent t 0 n n := .here (fun l e => by rw [e] at hq; exact hq) (fun a b e => by rw [e] at hq; exact hq) (fun a b e => by rw [e] at hq; exact hq)
  have ha : asks (t.nd n) = false := by
    cases e : t.nd n <;> rw [e] at hq <;> first | rfl | exact hq.elim
  refine ⟨Nat.le_refl _, hu, ?_, fun cf h => ?_⟩
  · cases e : t.nd n with
    | brk k => exact W.bk n k hn e
    | cnt k => exact W.ct n k hn e
    | do_ => trivial
    | ret => trivial
    | rai => trivial
    | call => trivial
    | iff a b => trivial
    | whl a => trivial
    | seq l => trivial
    | tr a b => trivial
    | fin a b => trivial
  · obtain ⟨r, P', N, lv, re⟩ := h
    exact ⟨0, n, N + 1, he, .step (.on ha (.quiet hq lv)) hB re⟩
theorem main (W : t.WF lp) : ∀ h n, Hg t h n → n < t.len → ∀ (P : Pd) (u : Nat) (v : List Nat), P.length + h ≤ B → u ≤ bits.length → Good t bits B lp n P u v (goF t bits h n P u v) := by
  intro h
  induction h with
  | zero => exact fun n hg => nomatch hg
  | succ h ih =>
    intro n hg hn P u v hPB hu
    have hB : P.length ≤ B := by omega
    have hP : P.length + h ≤ B := by omega
    cases hg with
    | mk hg =>
    have q : ∀ d, t.nd n = d → quiet d → goF t bits (h + 1) n P u v = (.inr (wayN d), u, v ++ [n]) → Good t bits B lp n P u v (goF t bits (h + 1) n P u v) := fun d e hq e2 => by
      rw [e2, ← e]
      exact quiet_good W hn (by rw [e]; exact hq) hB hu
    cases hd : t.nd n with
    | do_ => exact q _ hd trivial (by simp only [goF, hd])
    | ret => exact q _ hd trivial (by simp only [goF, hd])
    | rai => exact q _ hd trivial (by simp only [goF, hd])
    | brk k => exact q _ hd trivial (by simp only [goF, hd])
    | cnt k => exact q _ hd trivial (by simp only [goF, hd])
    | whl a =>
      have e : goF t bits (h + 1) n P u v = loopF bits n P (goF t bits h a P) (bits.length + 1) u v := by simp only [goF, hd]
      rw [e]
      have ma : a ∈ (t.nd n).ch := by rw [hd]; exact List.mem_singleton.mpr rfl
      obtain ⟨c1, c2, c3, c4⟩ := W.dn n hn a ma
      exact loop_good W hn hd hB (fun u v hu => ih a (hg a ma) c2 P u v hP hu) _ u v (by omega) hu
    | call =>
      have he : Ent t 0 n n := .here (fun l => by rw [hd]; exact fun z => nomatch z) (fun a b => by rw [hd]; exact fun z => nomatch z) (fun a b => by rw [hd]; exact fun z => nomatch z)
      have ha : asks (t.nd n) = true := by rw [hd]; rfl
      cases hx : bits[u]? with
      | none =>
        have e : goF t bits (h + 1) n P u v = (.inl (n, P), u, v) := by simp only [goF, hd, hx]
        rw [e]
        exact ⟨Nat.le_refl _, hu, _, from_wait he ha hx hB, rfl, rfl, rfl, rfl⟩
      | some x =>
        have e : goF t bits (h + 1) n P u v = (.inr (if x then .rai else .nrm), u + 1, v ++ [n]) := by simp only [goF, hd, hx]
        rw [e]
        refine ⟨by omega, bit_lt hx, by cases x <;> trivial, fun cf h => ?_⟩
        obtain ⟨r, P', N, lv, re⟩ := h
        exact ⟨0, n, N + 1, he, .step (.ask ha hx (.call hd lv)) hB re⟩
    | iff a b =>
      have he : Ent t 0 n n := .here (fun l => by rw [hd]; exact fun z => nomatch z) (fun a b => by rw [hd]; exact fun z => nomatch z) (fun a b => by rw [hd]; exact fun z => nomatch z)
      have ha : asks (t.nd n) = true := by rw [hd]; rfl
      cases hx : bits[u]? with
      | none =>
        have e : goF t bits (h + 1) n P u v = (.inl (n, P), u, v) := by simp only [goF, hd, hx]
        rw [e]
        exact ⟨Nat.le_refl _, hu, _, from_wait he ha hx hB, rfl, rfl, rfl, rfl⟩
      | some x =>
        have e : goF t bits (h + 1) n P u v = goF t bits h (if x then b else a) P (u + 1) (v ++ [n]) := by simp only [goF, hd, hx]
        rw [e]
        have mc : (if x then b else a) ∈ (t.nd n).ch := by rw [hd]; cases x <;> simp [Node.ch]
        obtain ⟨c1, c2, c3, c4⟩ := W.dn n hn _ mc
        rw [hd] at c4
        have c4 : lp (if x then b else a) = lp n := c4
        have g := ih _ (hg _ mc) c2 P (u + 1) (v ++ [n]) hP (bit_lt hx)
        have up : ∀ cf, From t bits B (if x then b else a) P (u + 1) (v ++ [n]) cf → From t bits B n P u v cf := fun cf h => by
          obtain ⟨k, e', N, en, re⟩ := h
          exact ⟨0, n, N + 1, he, .step (.ask ha hx (.iff hd en)) hB re⟩
        rcases hr : goF t bits h (if x then b else a) P (u + 1) (v ++ [n]) with ⟨w, u', v'⟩
        rw [hr] at g
        cases w with
        | inl x =>
          obtain ⟨g1, g2, cf, g3, g4⟩ := g
          exact ⟨by omega, g2, cf, up cf g3, g4⟩
        | inr w =>
          obtain ⟨g1, g2, g3, g4⟩ := g
          refine ⟨by omega, g2, by rw [← c4]; exact g3, fun cf h => ?_⟩
          obtain ⟨r, P', N, lv, re⟩ := h
          exact up cf (g4 cf ⟨r, P', N, .iffU c3 hd lv, re⟩)
    | seq l =>
      have e : goF t bits (h + 1) n P u v = seqF (fun c => goF t bits h c P) l (.inr .nrm, u, v) := by simp only [goF, hd]
      rw [e]
      have hne := W.sq n l hn hd
      obtain ⟨c, cs, rfl⟩ : ∃ c cs, l = c :: cs := by
        cases l with
        | nil => exact absurd rfl hne
        | cons c cs => exact ⟨c, cs, rfl⟩
      have mem : ∀ c' ∈ c :: cs, c' ∈ (t.nd n).ch := fun c' hc => by rw [hd]; exact hc
      have g := seq_good W hn hd (go := fun c => goF t bits h c P) (P := P) (fun c' hc u v hu => ih c' (hg c' (mem c' hc)) (W.dn n hn c' (mem c' hc)).2.1 P u v hP hu) cs [] c u v rfl hu
      have up : ∀ cf, From t bits B c P u v cf → From t bits B n P u v cf := fun cf h => by
        obtain ⟨k, e', N, en, re⟩ := h
        exact ⟨k + 1, e', N, .seq hd en, re⟩
      rcases hr : seqF (fun c => goF t bits h c P) (c :: cs) (.inr .nrm, u, v) with ⟨w, u', v'⟩
      rw [hr] at g
      cases w with
      | inl x =>
        obtain ⟨g1, g2, cf, g3, g4⟩ := g
        exact ⟨g1, g2, cf, up cf g3, g4⟩
      | inr w =>
        obtain ⟨g1, g2, g3, g4⟩ := g
        exact ⟨g1, g2, g3, fun cf h => up cf (g4 cf h)⟩
    | tr a b =>
      have ma : a ∈ (t.nd n).ch := by rw [hd]; simp [Node.ch]
      have mb : b ∈ (t.nd n).ch := by rw [hd]; simp [Node.ch]
      obtain ⟨c1, c2, c3, c4⟩ := W.dn n hn a ma
      obtain ⟨b1, b2, b3, b4⟩ := W.dn n hn b mb
      rw [hd] at c4 b4
      have c4 : lp a = lp n := c4
      have b4 : lp b = lp n := b4
      have nab : b ≠ a := by
        have z := W.nd n hn
        rw [hd] at z
        simp [Node.ch] at z
        exact fun y => z y.symm
      have g := ih a (hg a ma) c2 P u v hP hu
      have up : ∀ cf, From t bits B a P u v cf → From t bits B n P u v cf := fun cf h => by
        obtain ⟨k, e', N, en, re⟩ := h
        exact ⟨k + 1, e', N, .tr hd en, re⟩
      rcases hr : goF t bits h a P u v with ⟨w, u', v'⟩
      rw [hr] at g
      cases w with
      | inl x =>
        have e : goF t bits (h + 1) n P u v = (.inl x, u', v') := by simp only [goF, hd, hr]
        rw [e]
        obtain ⟨g1, g2, cf, g3, g4⟩ := g
        exact ⟨g1, g2, cf, up cf g3, g4⟩
      | inr w =>
        obtain ⟨g1, g2, g3, g4⟩ := g
        by_cases hw : w = .rai
        · subst hw
          have e : goF t bits (h + 1) n P u v = goF t bits h b P u' v' := by simp only [goF, hd, hr]
          rw [e]
          have i := ih b (hg b mb) b2 P u' v' hP g2
          have go' : ∀ cf, From t bits B b P u' v' cf → From t bits B n P u v cf := fun cf h => by
            obtain ⟨k, e', N, en, re⟩ := h
            exact up cf (g4 cf ⟨_, _, _, .tryH c3 hd en, re⟩)
          rcases hr2 : goF t bits h b P u' v' with ⟨w2, u2, v2⟩
          rw [hr2] at i
          cases w2 with
          | inl x =>
            obtain ⟨k1, k2, cf, k3, k4⟩ := i
            exact ⟨by omega, k2, cf, go' cf k3, k4⟩
          | inr w2 =>
            obtain ⟨k1, k2, k3, k4⟩ := i
            refine ⟨by omega, k2, by rw [← b4]; exact k3, fun cf h => ?_⟩
            obtain ⟨r, P', N, lv, re⟩ := h
            exact go' cf (k4 cf ⟨r, P', N, .tryU b3 hd (.inr nab) lv, re⟩)
        · have e : goF t bits (h + 1) n P u v = (.inr w, u', v') := by
            simp only [goF, hd, hr]
            cases w <;> first | rfl | exact absurd rfl hw
          rw [e]
          refine ⟨g1, g2, by rw [← c4]; exact g3, fun cf h => ?_⟩
          obtain ⟨r, P', N, lv, re⟩ := h
          exact up cf (g4 cf ⟨r, P', N, .tryU c3 hd (.inl hw) lv, re⟩)
    | fin a b =>
      have ma : a ∈ (t.nd n).ch := by rw [hd]; simp [Node.ch]
      have mb : b ∈ (t.nd n).ch := by rw [hd]; simp [Node.ch]
      obtain ⟨c1, c2, c3, c4⟩ := W.dn n hn a ma
      obtain ⟨b1, b2, b3, b4⟩ := W.dn n hn b mb
      rw [hd] at c4 b4
      have c4 : lp a = lp n := c4
      have b4 : lp b = lp n := b4
      have nab : b ≠ a := by
        have z := W.nd n hn
        rw [hd] at z
        simp [Node.ch] at z
        exact fun y => z y.symm
      have g := ih a (hg a ma) c2 P u v hP hu
      have up : ∀ cf, From t bits B a P u v cf → From t bits B n P u v cf := fun cf h => by
        obtain ⟨k, e', N, en, re⟩ := h
        exact ⟨k + 1, e', N, .fin hd en, re⟩
      rcases hr : goF t bits h a P u v with ⟨w, u', v'⟩
      rw [hr] at g
      cases w with
      | inl x =>
        have e : goF t bits (h + 1) n P u v = (.inl x, u', v') := by simp only [goF, hd, hr]
        rw [e]
        obtain ⟨g1, g2, cf, g3, g4⟩ := g
        exact ⟨g1, g2, cf, up cf g3, g4⟩
      | inr w =>
        obtain ⟨g1, g2, g3, g4⟩ := g
        have e : goF t bits (h + 1) n P u v = finF n w (goF t bits h b (P ++ [(n, w)]) u' v') := by simp only [goF, hd, hr]
        rw [e]
        have i := ih b (hg b mb) b2 (P ++ [(n, w)]) u' v' (by simp; omega) g2
        have go' : ∀ cf, From t bits B b (P ++ [(n, w)]) u' v' cf → From t bits B n P u v cf := fun cf h => by
          obtain ⟨k, e', N, en, re⟩ := h
          exact up cf (g4 cf ⟨_, _, _, .finB c3 hd en, re⟩)
        rcases hr2 : goF t bits h b (P ++ [(n, w)]) u' v' with ⟨w2, u2, v2⟩
        rw [hr2] at i
        cases w2 with
        | inl x =>
          obtain ⟨k1, k2, cf, k3, k4⟩ := i
          exact ⟨by omega, k2, cf, go' cf k3, k4⟩
        | inr w2 =>
          obtain ⟨k1, k2, k3, k4⟩ := i
          by_cases hw : w2 = .nrm
          · subst hw
            have e2 : finF n w (.inr .nrm, u2, v2) = (.inr w, u2, v2 ++ [n]) := by simp [finF]
            rw [e2]
            refine ⟨by omega, k2, by rw [← c4]; exact g3, fun cf h => ?_⟩
            obtain ⟨r, P', N, lv, re⟩ := h
            exact go' cf (k4 cf ⟨_, _, _, .finE b3 hd nab, .step (.on (by rw [hd]; rfl) (.fin hd lv)) (by simp; omega) re⟩)
          · have e2 : finF n w (.inr w2, u2, v2) = (.inr w2, u2, v2) := by simp [finF, hw]
            rw [e2]
            refine ⟨by omega, k2, by rw [← b4]; exact k3, fun cf h => ?_⟩
            obtain ⟨r, P', N, lv, re⟩ := h
            exact go' cf (k4 cf ⟨r, P', N, .finO b3 hd nab hw lv, re⟩)
/-- the whole: from the first entry the walker comes to where the law comes -/
theorem whole (W : t.WF lp) {h : Nat} (hg : Hg t h 0) (hB : h ≤ B) : ∃ k e N cf, Ent t k 0 e ∧ Re t bits B N ⟨.inl e, [], 0, []⟩ cf ∧ cf.vs = (goF t bits h 0 [] 0 []).2.2 ∧ cf.us = (goF t bits h 0 [] 0 []).2.1 ∧
    (match (goF t bits h 0 [] 0 []).1 with | .inl x => cf.at_ = .inl x.1 ∧ cf.pd = x.2 | .inr w => cf.at_ = .inr w ∧ WOk 0 w) := by
  have g := main (bits := bits) (B := B) W h 0 hg W.ne [] 0 [] (by simpa using hB) (Nat.zero_le _)
  rcases hr : goF t bits h 0 [] 0 [] with ⟨w, u', v'⟩
  rw [hr] at g
  cases w with
  | inl x =>
    obtain ⟨_, _, cf, ⟨k, e, N, en, re⟩, g4⟩ := g
    exact ⟨k, e, N, cf, en, re, g4.1, g4.2.1, g4.2.2⟩
  | inr w =>
    obtain ⟨_, _, g3, g4⟩ := g
    obtain ⟨k, e, N, en, re⟩ := g4 _ ⟨_, _, _, .top W.root, .stop .fin (Nat.zero_le _)⟩
    exact ⟨k, e, N, _, en, re, rfl, rfl, rfl, by rw [W.lp0] at g3; exact g3⟩
theorem ent_lt (W : t.WF lp) {k n e : Nat} (h : Ent t k n e) (hn : n < t.len) : e < t.len := by
  induction h with
  | here => exact hn
  | seq h r ih => exact ih (W.dn _ hn _ (by rw [h]; exact List.mem_cons_self)).2.1
  | tr h r ih => exact ih (W.dn _ hn _ (by rw [h]; exact List.mem_cons_self)).2.1
  | fin h r ih => exact ih (W.dn _ hn _ (by rw [h]; exact List.mem_cons_self)).2.1
theorem lv_lt (W : t.WF lp) {n : Nat} {w : Way} {P P' : Pd} {r : Nat ⊕ Way} (h : Lv t n w P r P') (hn : n < t.len) : ∀ e, r = .inl e → e < t.len := by
  induction h with
  | top => exact fun e z => nomatch z
  | seqN h hd hl he => intro e z; cases z; exact ent_lt W he (W.dn _ (W.pu _ _ hn h) _ (by rw [hd, hl]; exact List.mem_append_right _ (List.mem_cons_of_mem _ List.mem_cons_self))).2.1
  | seqU h hd hw up ih => exact ih (W.pu _ _ hn h)
  | whlA h hd hw => intro e z; cases z; exact W.pu _ _ hn h
  | whlU h hd hw up ih => exact ih (W.pu _ _ hn h)
  | tryH h hd he => intro e z; cases z; exact ent_lt W he (W.dn _ (W.pu _ _ hn h) _ (by rw [hd]; simp [Node.ch])).2.1
  | tryU h hd hw up ih => exact ih (W.pu _ _ hn h)
  | iffU h hd up ih => exact ih (W.pu _ _ hn h)
  | finB h hd he => intro e z; cases z; exact ent_lt W he (W.dn _ (W.pu _ _ hn h) _ (by rw [hd]; simp [Node.ch])).2.1
  | finE h hd => intro e z; cases z; exact W.pu _ _ hn h
  | finO h hd hn' hw up ih => exact ih (W.pu _ _ hn h)
theorem dp_lt (W : t.WF lp) {s : Nat} {x : Bool} {P P' : Pd} {r : Nat ⊕ Way} (h : Dp1 t s x P r P') (hs : s < t.len) : ∀ e, r = .inl e → e < t.len := by
  cases h with
  | iff h he => intro e z; cases z; exact ent_lt W he (W.dn _ hs _ (by rw [h]; cases x <;> simp [Node.ch])).2.1
  | whlT h hx he => intro e z; cases z; exact ent_lt W he (W.dn _ hs _ (by rw [h]; simp [Node.ch])).2.1
  | whlF h hx l => exact lv_lt W l hs
  | call h l => exact lv_lt W l hs
  | fin h l => exact lv_lt W l hs
  | quiet h l => exact lv_lt W l hs
theorem Re.vs {N : Nat} {c d : Cfg} (h : Re t bits B N c d) : c.vs.length ≤ d.vs.length := by
  induction h with
  | stop => exact Nat.le_refl _
  | step h hb r ih =>
    cases h with
    | ask _ _ _ => exact Nat.le_trans (by simp) ih
    | on _ _ => exact Nat.le_trans (by simp) ih
theorem Re.pdl {N : Nat} {c d : Cfg} (h : Re t bits B N c d) : c.pd.length ≤ B := by
  cases h with
  | stop _ hb => exact hb
  | step _ hb _ => exact hb
theorem Re.ended {N : Nat} {w : Way} {P : Pd} {u : Nat} {v : List Nat} {d : Cfg} (h : Re t bits B N ⟨.inr w, P, u, v⟩ d) : d = ⟨.inr w, P, u, v⟩ := by
  cases h with
  | stop => rfl
  | step h => cases h
theorem Re.quiet {N s : Nat} {P : Pd} {u : Nat} {v : List Nat} {d : Cfg} (h : Re t bits B N ⟨.inl s, P, u, v⟩ d) (ha : asks (t.nd s) = false) : ∃ M r P', N = M + 1 ∧ Dp1 t s false P r P' ∧ Re t bits B M ⟨r, P', u, v ++ [s]⟩ d := by
  cases h with
  | stop h =>
    cases h with
    | wait h _ => rw [ha] at h; cases h
  | step h _ r =>
    cases h with
    | ask h _ _ => rw [ha] at h; cases h
    | on _ d => exact ⟨_, _, _, rfl, d, r⟩
theorem Re.asked {N s : Nat} {P : Pd} {u : Nat} {v : List Nat} {d : Cfg} {x : Bool} (h : Re t bits B N ⟨.inl s, P, u, v⟩ d) (ha : asks (t.nd s) = true) (hu : bits[u]? = some x) : ∃ M r P', N = M + 1 ∧ Dp1 t s x P r P' ∧ Re t bits B M ⟨r, P', u + 1, v ++ [s]⟩ d := by
  cases h with
  | stop h =>
    cases h with
    | wait _ h => rw [hu] at h; cases h
  | step h _ r =>
    cases h with
    | ask _ h d =>
      rw [hu] at h
      cases h
      exact ⟨_, _, _, rfl, d, r⟩
    | on h _ => rw [ha] at h; cases h
theorem Re.waits {N s : Nat} {P : Pd} {u : Nat} {v : List Nat} {d : Cfg} (h : Re t bits B N ⟨.inl s, P, u, v⟩ d) (ha : asks (t.nd s) = true) (hu : bits[u]? = none) : d = ⟨.inl s, P, u, v⟩ := by
  cases h with
  | stop h => rfl
  | step h _ r =>
    cases h with
    | ask _ h d => rw [hu] at h; cases h
    | on h _ => rw [ha] at h; cases h
end
end FcM

set_option maxRecDepth 100000
set_option maxHeartbeats 4000000
namespace Fc
open PySem PySem.Spec PyProof.Rows L2 FcR
open Evl (Ex)
/-! ### statements by their kinds; the table of a code -/
open FcM (Way Node Tab)
inductive SV (l : Int) : PyData → Prop
  | do_ (x : Str) : SV l (.tuple [.str "do", .str x])
  | call (x : Str) : SV l (.tuple [.str "call", .str x])
  | iff (x : Str) (a b : PyData) : SV l (.tuple [.str "if", .str x, a, b])
  | whl (x : Str) (a : PyData) : SV l (.tuple [.str "while", .str x, a])
  | seq (p : PyData) (ps : List PyData) : SV l (.tuple [.str "seq", .tuple (p :: ps)])
  | brk (n : Int) (h1 : 1 ≤ n) (h2 : n ≤ l) : SV l (.tuple [.str "break", .int n])
  | cnt (n : Int) (h1 : 1 ≤ n) (h2 : n ≤ l) : SV l (.tuple [.str "continue", .int n])
  | ret : SV l (.tuple [.str "return"])
  | rai : SV l (.tuple [.str "raise"])
  | tr (a b : PyData) : SV l (.tuple [.str "try", a, b])
  | fin (a b : PyData) : SV l (.tuple [.str "final", a, b])
theorem lk_mem {l : List (Str × Int)} {k : Str} {n : Int} (h : l.lookup k = some n) : (k, n) ∈ l := by
  induction l with
  | nil => cases h
  | cons p l ih =>
    obtain ⟨a, b⟩ := p
    by_cases e : k == a
    · rw [List.lookup, e] at h
      cases h
      have z : k = a := by simpa using e
      rw [z]
      exact List.mem_cons_self
    · have e' : (k == a) = false := by simpa using e
      rw [List.lookup, e'] at h
      exact List.mem_cons_of_mem _ (ih h)
theorem isName_str {d : PyData} (h : isName d = true) : ∃ x, d = .str x := by
  cases d <;> first | exact ⟨_, rfl⟩ | cases h
theorem isNum_int {d : PyData} {a b : Int} (h : isNum a b d = true) : ∃ n, d = .int n ∧ a ≤ n ∧ n ≤ b := by
  cases d <;> first | (refine ⟨_, rfl, ?_⟩; simpa [isNum] using h) | cases h
theorem ne_tup {d : PyData} (h : nonEmptyT d = true) : ∃ p ps, d = .tuple (p :: ps) := by
  cases d with
  | tuple l => cases l with
    | nil => cases h
    | cons p ps => exact ⟨p, ps, rfl⟩
  | _ => cases h
theorem len_of {r : List PyData} {n : Int} {m : Nat} (h : (r.length : Int) + 1 = n) (e : n = (m : Int) + 1) : r.length = m := by omega
theorem sv_of {d : PyData} {l : Int} (h : isStm d l = true) : SV l d := by
  obtain ⟨k, r, n, rfl, hk, hl, h⟩ := isStm_shape h
  have hm := lk_mem hk
  simp only [kSizes, List.mem_cons, List.not_mem_nil, or_false, Prod.mk.injEq] at hm
  rcases hm with ⟨rfl, rfl⟩ | ⟨rfl, rfl⟩ | ⟨rfl, rfl⟩ | ⟨rfl, rfl⟩ | ⟨rfl, rfl⟩ | ⟨rfl, rfl⟩ | ⟨rfl, rfl⟩ | ⟨rfl, rfl⟩ | ⟨rfl, rfl⟩ | ⟨rfl, rfl⟩ | ⟨rfl, rfl⟩
  · rw [if_pos (by decide)] at h
    match r, len_of (m := 1) hl rfl, h with
    | [a], _, h => obtain ⟨x, rfl⟩ := isName_str h; exact .do_ x
  · rw [if_pos (by decide)] at h
    match r, len_of (m := 1) hl rfl, h with
    | [a], _, h => obtain ⟨x, rfl⟩ := isName_str h; exact .call x
  · rw [if_pos (by decide)] at h
    match r, len_of (m := 3) hl rfl, h with
    | [a, b, c], _, h => obtain ⟨x, rfl⟩ := isName_str h; exact .iff x b c
  · rw [if_pos (by decide)] at h
    match r, len_of (m := 2) hl rfl, h with
    | [a, b], _, h => obtain ⟨x, rfl⟩ := isName_str h; exact .whl x b
  · rw [if_neg (by decide), if_neg (by decide), if_neg (by decide)] at h
    match r, len_of (m := 1) hl rfl, h with
    | [a], _, h => obtain ⟨p, ps, rfl⟩ := ne_tup h; exact .seq p ps
  · rw [if_neg (by decide), if_pos (by decide)] at h
    match r, len_of (m := 1) hl rfl, h with
    | [a], _, h => obtain ⟨x, rfl, h1, h2⟩ := isNum_int h; exact .brk x h1 h2
  · rw [if_neg (by decide), if_pos (by decide)] at h
    match r, len_of (m := 1) hl rfl, h with
    | [a], _, h => obtain ⟨x, rfl, h1, h2⟩ := isNum_int h; exact .cnt x h1 h2
  · match r, len_of (m := 0) hl rfl with
    | [], _ => exact .ret
  · match r, len_of (m := 0) hl rfl with
    | [], _ => exact .rai
  · match r, len_of (m := 2) hl rfl with
    | [a, b], _ => exact .tr a b
  · match r, len_of (m := 2) hl rfl with
    | [a, b], _ => exact .fin a b
/-- the number of a jump -/
def numD : PyData → Nat
  | .tuple [_, .int n] => n.toNat
  | _ => 0
def ndOf (r : Row) : Node :=
  if kindD r.d = "do" then .do_ else if kindD r.d = "call" then .call else if kindD r.d = "return" then .ret else if kindD r.d = "raise" then .rai else
  if kindD r.d = "break" then .brk (numD r.d) else if kindD r.d = "continue" then .cnt (numD r.d) else if kindD r.d = "seq" then .seq r.ch else
  if kindD r.d = "while" then .whl (r.ch.getD 0 0) else if kindD r.d = "if" then .iff (r.ch.getD 0 0) (r.ch.getD 1 0) else
  if kindD r.d = "try" then .tr (r.ch.getD 0 0) (r.ch.getD 1 0) else .fin (r.ch.getD 0 0) (r.ch.getD 1 0)
def tabOf (rows : List Row) : Tab := ⟨rows.length, fun n => match rows[n]? with | some r => ndOf r | none => .do_, fun n => rows[n]?.bind Row.par⟩
def wl (d : PyData) : Nat := if kindD d = "while" then 1 else 0
/-- what is built so far -/
structure BI (st : List WIt) (rows : List Row) (ls : List Nat) : Prop where
  ll : ls.length = rows.length
  dn : ∀ (n : Nat) (r : Row) (l : Nat), rows[n]? = some r → ls[n]? = some l → ∀ c ∈ r.ch, n < c ∧ ∃ r' : Row, rows[c]? = some r' ∧ r'.par = some n ∧ ls[c]? = some (l + wl r.d)
  as : ∀ (n : Nat) (r : Row), rows[n]? = some r → r.ch.Pairwise (· < ·)
  pt : ∀ (n : Nat) (r : Row), rows[n]? = some r → (r.ch.map fun c => (rows[c]?.map Row.d).getD .none) ++ (st.filter fun i => decide (i.par = some n)).map WIt.d = partsD r.d
  sm : ∀ (n : Nat) (r : Row) (l : Nat), rows[n]? = some r → ls[n]? = some l → isStm r.d (l : Int) = true
  it : ∀ i ∈ st, (i.par = none → rows = [] ∧ i.loops = 0 ∧ st.length = 1) ∧ ∀ p : Nat, i.par = some p → ∃ (r : Row) (l : Nat), rows[p]? = some r ∧ ls[p]? = some l ∧ i.loops = l + wl r.d
  up : ∀ (n : Nat) (r : Row) (p : Nat), rows[n]? = some r → r.par = some p → p < n ∧ ∃ rp : Row, rows[p]? = some rp ∧ n ∈ rp.ch
  rt : ∀ r : Row, rows[0]? = some r → r.par = none
  l0 : ∀ l : Nat, ls[0]? = some l → l = 0
theorem addRow_get {rows : List Row} {d : PyData} {par : Option Nat} {n : Nat} {r : Row} (h : (addRow rows d par)[n]? = some r) :
    (n = rows.length ∧ r = ⟨d, par, []⟩) ∨ (∃ r0, rows[n]? = some r0 ∧ r.d = r0.d ∧ r.par = r0.par ∧ ((par = some n ∧ r.ch = r0.ch ++ [rows.length]) ∨ (par ≠ some n ∧ r = r0))) := by
  obtain ⟨bs, hb, hl, hg⟩ : ∃ bs : List Row, addRow rows d par = bs ++ [⟨d, par, []⟩] ∧ bs.length = rows.length ∧ ∀ (n : Nat) (r : Row), bs[n]? = some r → ∃ r0, rows[n]? = some r0 ∧ r.d = r0.d ∧ r.par = r0.par ∧ ((par = some n ∧ r.ch = r0.ch ++ [rows.length]) ∨ (par ≠ some n ∧ r = r0)) := by
    cases par with
    | none => exact ⟨rows, rfl, rfl, fun n r h => ⟨r, h, rfl, rfl, .inr ⟨(fun z => nomatch z), rfl⟩⟩⟩
    | some i =>
      refine ⟨addCh rows i rows.length, rfl, addCh_len _ _ _, fun n r h => ?_⟩
      rw [addCh_eq, List.getElem?_modify] at h
      cases e : rows[n]? with
      | none => rw [e] at h; simp at h
      | some r0 =>
        rw [e] at h
        by_cases z : i = n
        · subst z
          simp at h
          refine ⟨r0, rfl, ?_, ?_, .inl ⟨rfl, ?_⟩⟩ <;> rw [← h] <;> rfl
        · simp [z] at h
          exact ⟨r0, rfl, by rw [h], by rw [h], .inr ⟨fun y => z (Option.some.inj y), h.symm⟩⟩
  rw [hb] at h
  rcases Nat.lt_or_ge n rows.length with lt | ge
  · rw [List.getElem?_append_left (by rw [hl]; exact lt)] at h
    exact .inr (hg n r h)
  · rw [List.getElem?_append_right (by rw [hl]; exact ge), hl] at h
    have e : n - rows.length = 0 := by
      have := (List.getElem?_eq_some_iff.mp h).1
      simp at this
      omega
    rw [e] at h
    simp at h
    exact .inl ⟨by omega, h.symm⟩
theorem addRow_old {rows : List Row} {d : PyData} {par : Option Nat} {n : Nat} {r0 : Row} (h : rows[n]? = some r0) : ∃ r, (addRow rows d par)[n]? = some r ∧ r.d = r0.d ∧ r.par = r0.par := by
  have lt := (List.getElem?_eq_some_iff.mp h).1
  have lt2 : n < (addRow rows d par).length := by rw [addRow_len]; omega
  refine ⟨_, List.getElem?_eq_getElem lt2, ?_⟩
  rcases addRow_get (List.getElem?_eq_getElem lt2) with ⟨e, _⟩ | ⟨r1, h1, h2, h3, _⟩
  · omega
  · rw [h] at h1
    cases h1
    exact ⟨h2, h3⟩
theorem addRow_new {rows : List Row} {d : PyData} {par : Option Nat} : (addRow rows d par)[rows.length]? = some ⟨d, par, []⟩ := by
  have lt2 : rows.length < (addRow rows d par).length := by rw [addRow_len]; omega
  rw [List.getElem?_eq_getElem lt2]
  rcases addRow_get (List.getElem?_eq_getElem lt2) with ⟨_, e⟩ | ⟨r1, h1, _⟩
  · rw [e]
  · have := (List.getElem?_eq_some_iff.mp h1).1
    omega
theorem addRow_d {rows : List Row} {d : PyData} {par : Option Nat} {c : Nat} (hc : c < rows.length) : ((addRow rows d par)[c]?.map Row.d) = rows[c]?.map Row.d := by
  obtain ⟨r, h1, h2, _⟩ := addRow_old (d := d) (par := par) (List.getElem?_eq_getElem hc)
  rw [h1, List.getElem?_eq_getElem hc, Option.map_some, Option.map_some, h2]
theorem BI.step {it : WIt} {st : List WIt} {rows : List Row} {ls : List Nat} (b : BI (it :: st) rows ls) (ok : okIt it rows.length) : BI (newIts it rows.length ++ st) (addRow rows it.d it.par) (ls ++ [it.loops]) := by
  have lsl : ∀ {n l : Nat}, ls[n]? = some l → (ls ++ [it.loops])[n]? = some l := fun {n l} h => by
    rw [List.getElem?_append_left (List.getElem?_eq_some_iff.mp h).1]
    exact h
  have lsn : (ls ++ [it.loops])[rows.length]? = some it.loops := by rw [List.getElem?_append_right (by rw [b.ll]; exact Nat.le_refl _), b.ll, Nat.sub_self] <;> rfl
  have lso : ∀ {n l : Nat}, n < rows.length → (ls ++ [it.loops])[n]? = some l → ls[n]? = some l := fun {n l} hn h => by
    rw [List.getElem?_append_left (by rw [b.ll]; exact hn)] at h
    exact h
  obtain ⟨i1, i2⟩ := b.it it List.mem_cons_self
  have new_par : ∀ i ∈ newIts it rows.length, i.par = some rows.length ∧ i.loops = it.loops + wl it.d := fun i hi => by
    obtain ⟨j, hj, rfl⟩ := List.mem_mapIdx.mp hi
    exact ⟨rfl, rfl⟩
  refine ⟨by rw [List.length_append, addRow_len, b.ll] <;> rfl, fun n r l hr hl c hc => ?_, fun n r hr => ?_, fun n r hr => ?_, fun n r l hr hl => ?_, fun i hi => ?_, fun n r p hr hp => ?_, fun r hr => ?_, fun l hl => ?_⟩
  · rcases addRow_get hr with ⟨rfl, rfl⟩ | ⟨r0, h0, hd, hp, h⟩
    · cases hc
    · have lt := (List.getElem?_eq_some_iff.mp h0).1
      have hl0 := lso lt hl
      have old : ∀ c ∈ r0.ch, n < c ∧ ∃ r' : Row, (addRow rows it.d it.par)[c]? = some r' ∧ r'.par = some n ∧ (ls ++ [it.loops])[c]? = some (l + wl r.d) := fun c hc => by
        obtain ⟨x1, r', x2, x3, x4⟩ := b.dn n r0 l h0 hl0 c hc
        obtain ⟨r2, y1, y2, y3⟩ := addRow_old (d := it.d) (par := it.par) x2
        exact ⟨x1, r2, y1, y3.trans x3, by rw [hd]; exact lsl x4⟩
      rcases h with ⟨hp, hch⟩ | ⟨_, e⟩
      · rw [hch] at hc
        rcases List.mem_append.mp hc with hc | hc
        · exact old c hc
        · have e := List.mem_singleton.mp hc
          subst e
          refine ⟨lt, _, addRow_new, hp, ?_⟩
          obtain ⟨r1, l1, z1, z2, z3⟩ := i2 n hp
          rw [h0] at z1
          cases z1
          rw [hl0] at z2
          cases z2
          rw [lsn, z3, hd]
      · rw [e] at hc
        exact old c hc
  · rcases addRow_get hr with ⟨rfl, rfl⟩ | ⟨r0, h0, hd, hp, h⟩
    · exact .nil
    · rcases h with ⟨hp, hch⟩ | ⟨_, e⟩
      · rw [hch, List.pairwise_append]
        refine ⟨b.as n r0 h0, List.pairwise_singleton _ _, fun c hc y hy => ?_⟩
        rw [List.mem_singleton.mp hy]
        obtain ⟨l, hl⟩ : ∃ l, ls[n]? = some l := ⟨_, List.getElem?_eq_getElem (by rw [b.ll]; exact (List.getElem?_eq_some_iff.mp h0).1)⟩
        obtain ⟨_, r', x2, _⟩ := b.dn n r0 l h0 hl c hc
        exact (List.getElem?_eq_some_iff.mp x2).1
      · rw [e]
        exact b.as n r0 h0
  · rcases addRow_get hr with ⟨rfl, rfl⟩ | ⟨r0, h0, hd, hp, h⟩
    · show ([] : List Nat).map _ ++ _ = _
      rw [List.map_nil, List.nil_append, List.filter_append, List.map_append]
      have e1 : (newIts it rows.length).filter (fun i => decide (i.par = some rows.length)) = newIts it rows.length := List.filter_eq_self.mpr fun i hi => decide_eq_true (new_par i hi).1
      have e2 : st.filter (fun i => decide (i.par = some rows.length)) = [] := List.filter_eq_nil_iff.mpr fun i hi z => by
        obtain ⟨r1, l1, z1, _⟩ := (b.it i (List.mem_cons_of_mem _ hi)).2 _ (of_decide_eq_true z)
        have := (List.getElem?_eq_some_iff.mp z1).1
        omega
      rw [e1, e2, List.map_nil, List.append_nil]
      show (newIts it rows.length).map WIt.d = partsD it.d
      unfold newIts
      apply List.ext_getElem?
      intro j
      rw [List.getElem?_map, List.getElem?_mapIdx]
      cases (partsD it.d)[j]? <;> rfl
    · have lt := (List.getElem?_eq_some_iff.mp h0).1
      obtain ⟨l, hl⟩ : ∃ l, ls[n]? = some l := ⟨_, List.getElem?_eq_getElem (by rw [b.ll]; exact lt)⟩
      have p0 := b.pt n r0 h0
      have e1 : (newIts it rows.length).filter (fun i => decide (i.par = some n)) = [] := List.filter_eq_nil_iff.mpr fun i hi z => by
        have z1 := (new_par i hi).1
        rw [of_decide_eq_true z] at z1
        have := Option.some.inj z1
        omega
      have e3 : (r0.ch.map fun c => ((addRow rows it.d it.par)[c]?.map Row.d).getD .none) = r0.ch.map fun c => (rows[c]?.map Row.d).getD .none := List.map_congr_left fun c hc => by
        obtain ⟨_, r', x2, _⟩ := b.dn n r0 l h0 hl c hc
        rw [addRow_d (List.getElem?_eq_some_iff.mp x2).1]
      rw [List.filter_append, e1, List.nil_append, hd]
      rcases h with ⟨hp, hch⟩ | ⟨hp, e⟩
      · rw [hch, List.map_append, e3, ← p0, List.filter_cons, if_pos (decide_eq_true hp), List.map_cons, List.append_assoc]
        congr 1
        show [(((addRow rows it.d it.par)[rows.length]?).map Row.d).getD .none] ++ _ = _
        rw [addRow_new] <;> rfl
      · rw [e, e3, ← p0, List.filter_cons, if_neg (by simpa using hp)]
  · rcases addRow_get hr with ⟨rfl, rfl⟩ | ⟨r0, h0, hd, hp, h⟩
    · rw [lsn] at hl
      cases hl
      exact ok.2.2.2
    · rw [hd]
      exact b.sm n r0 l h0 (lso (List.getElem?_eq_some_iff.mp h0).1 hl)
  · rcases List.mem_append.mp hi with hi | hi
    · obtain ⟨z1, z2⟩ := new_par i hi
      refine ⟨(fun e => by rw [z1] at e; cases e), fun p hp => ?_⟩
      rw [z1] at hp
      cases hp
      exact ⟨_, _, addRow_new, lsn, z2⟩
    · obtain ⟨z1, z2⟩ := b.it i (List.mem_cons_of_mem _ hi)
      refine ⟨fun e => ?_, fun p hp => ?_⟩
      · have z3 := (z1 e).2.2
        have := List.length_pos_of_mem hi
        rw [List.length_cons] at z3
        omega
      · obtain ⟨r, l, y1, y2, y3⟩ := z2 p hp
        obtain ⟨r2, x1, x2, _⟩ := addRow_old (d := it.d) (par := it.par) y1
        exact ⟨r2, l, x1, lsl y2, by rw [x2]; exact y3⟩
  · have keep : ∀ {rp : Row} {x : Nat}, rows[p]? = some rp → x ∈ rp.ch → ∃ rp' : Row, (addRow rows it.d it.par)[p]? = some rp' ∧ x ∈ rp'.ch := fun {rp x} h1 h2 => by
      obtain ⟨r2, y1, _⟩ := addRow_old (d := it.d) (par := it.par) h1
      refine ⟨r2, y1, ?_⟩
      rcases addRow_get y1 with ⟨e, _⟩ | ⟨r3, z1, _, _, z4⟩
      · have := (List.getElem?_eq_some_iff.mp h1).1
        omega
      · rw [h1] at z1
        cases z1
        rcases z4 with ⟨_, e⟩ | ⟨_, e⟩
        · rw [e]; exact List.mem_append_left _ h2
        · rw [e]; exact h2
    rcases addRow_get hr with ⟨e, rfl⟩ | ⟨r0, h0, hd, hp2, h⟩
    · obtain ⟨rp, l, y1, _⟩ := i2 p hp
      have lt := (List.getElem?_eq_some_iff.mp y1).1
      obtain ⟨r2, y2, _⟩ := addRow_old (d := it.d) (par := it.par) y1
      refine ⟨by omega, r2, y2, ?_⟩
      rcases addRow_get y2 with ⟨e2, _⟩ | ⟨r3, z1, _, _, z4⟩
      · omega
      · rcases z4 with ⟨_, e2⟩ | ⟨e2, _⟩
        · rw [e2, e]; exact List.mem_append_right _ (List.mem_singleton.mpr rfl)
        · exact absurd hp e2
    · rw [hp2] at hp
      obtain ⟨y1, rp, y2, y3⟩ := b.up n r0 p h0 hp
      exact ⟨y1, keep y2 y3⟩
  · rcases addRow_get hr with ⟨e, rfl⟩ | ⟨r0, h0, hd, hp, h⟩
    · show it.par = none
      cases e2 : it.par with
      | none => rfl
      | some p =>
        obtain ⟨r, l, y1, _⟩ := i2 p e2
        have := (List.getElem?_eq_some_iff.mp y1).1
        omega
    · rw [hp]
      exact b.rt r0 h0
  · by_cases hz : rows.length = 0
    · have e : ls = [] := List.eq_nil_of_length_eq_zero (by rw [b.ll]; exact hz)
      subst e
      simp at hl
      cases e2 : it.par with
      | none => rw [← hl]; exact (i1 e2).2.1
      | some p =>
        obtain ⟨r, l, y1, _⟩ := i2 p e2
        have := (List.getElem?_eq_some_iff.mp y1).1
        omega
    · exact b.l0 l (lso (by omega) hl)

theorem BI.all : ∀ {m : Nat} {st : List WIt} {rows fin : List Row}, Builds m st rows fin → ∀ {ls : List Nat}, BI st rows ls → ∃ ls', BI [] fin ls'
  | _, _, _, _, .done _, ls, b => ⟨ls, b⟩
  | _, _, _, _, .step ok h, _, b => BI.all h (b.step ok)
theorem BI.start (d : PyData) : BI [⟨d, none, 1, 0, 0⟩] [] [] :=
  ⟨rfl, fun n r l h => by simp at h, fun n r h => by simp at h, fun n r h => by simp at h, fun n r l h => by simp at h, fun i hi => by
    rw [List.mem_singleton.mp hi]
    exact ⟨fun _ => ⟨rfl, rfl, rfl⟩, fun p hp => nomatch hp⟩, fun n r p h => by simp at h, fun r h => by simp at h, fun l h => by simp at h⟩
theorem Builds.fin_ne {m : Nat} {st : List WIt} {rows fin : List Row} (b : Builds m st rows fin) : rows.length ≤ fin.length := by
  induction b with
  | done => exact Nat.le_refl _
  | step ok h ih =>
    rw [addRow_len] at ih
    omega
/-- the rows of a code: what its runs rest on -/
structure TW (rows : List Row) (lp : Nat → Nat) : Prop where
  wf : (tabOf rows).WF lp
  sv : ∀ (n : Nat) (r : Row), rows[n]? = some r → SV (lp n : Int) r.d ∧ r.ch.length = (partsD r.d).length ∧ r.ch = (ndOf r).ch
  pu : ∀ (n : Nat) (r : Row) (p : Nat), rows[n]? = some r → r.par = some p → p < n ∧ p < rows.length ∧ n ∈ ((tabOf rows).nd p).ch
  pr : ∀ (n : Nat) (r : Row), rows[n]? = some r → ∀ (j c : Nat), r.ch[j]? = some c → ∃ r' : Row, rows[c]? = some r' ∧ (partsD r.d)[j]? = some r'.d
theorem len_two {α : Type} {l : List α} (h : l.length = 2) : ∃ a b, l = [a, b] := by
  match l, h with
  | [a, b], _ => exact ⟨a, b, rfl⟩
theorem len_one {α : Type} {l : List α} (h : l.length = 1) : ∃ a, l = [a] := by
  match l, h with
  | [a], _ => exact ⟨a, rfl⟩
theorem nd_ch {r : Row} {l : Int} (h : SV l r.d) (hl : r.ch.length = (partsD r.d).length) : r.ch = (ndOf r).ch := by
  obtain ⟨d, par, ch⟩ := r
  cases h with
  | do_ x => exact List.eq_nil_of_length_eq_zero (hl.trans rfl)
  | call x => exact List.eq_nil_of_length_eq_zero (hl.trans rfl)
  | ret => exact List.eq_nil_of_length_eq_zero (hl.trans rfl)
  | rai => exact List.eq_nil_of_length_eq_zero (hl.trans rfl)
  | brk n h1 h2 => exact List.eq_nil_of_length_eq_zero (hl.trans rfl)
  | cnt n h1 h2 => exact List.eq_nil_of_length_eq_zero (hl.trans rfl)
  | iff x a b =>
    obtain ⟨a, b, rfl⟩ := len_two (hl.trans rfl)
    rfl
  | whl x a =>
    obtain ⟨a, rfl⟩ := len_one (hl.trans rfl)
    rfl
  | seq p ps => rfl
  | tr a b =>
    obtain ⟨a, b, rfl⟩ := len_two (hl.trans rfl)
    rfl
  | fin a b =>
    obtain ⟨a, b, rfl⟩ := len_two (hl.trans rfl)
    rfl
theorem nd_wl {r : Row} {l : Int} (h : SV l r.d) : wl r.d = (match ndOf r with | .whl _ => 1 | _ => 0) := by
  obtain ⟨d, par, ch⟩ := r
  cases h <;> rfl
theorem tab_nd {rows : List Row} {n : Nat} {r : Row} (h : rows[n]? = some r) : (tabOf rows).nd n = ndOf r := by
  show (match rows[n]? with | some r => ndOf r | none => .do_) = ndOf r
  rw [h]
theorem nd_seq {r : Row} {l : Int} {cs : List Nat} (h : SV l r.d) (hl : r.ch.length = (partsD r.d).length) (e : ndOf r = .seq cs) : cs ≠ [] := by
  obtain ⟨d, par, ch⟩ := r
  cases h with
  | seq p ps =>
    cases e
    intro z
    rw [show ch = [] from z] at hl
    cases hl
  | _ => cases e
theorem nd_brk {r : Row} {l : Nat} {k : Nat} (h : SV (l : Int) r.d) (e : ndOf r = .brk k) : 1 ≤ k ∧ k ≤ l := by
  obtain ⟨d, par, ch⟩ := r
  cases h with
  | brk n h1 h2 =>
    cases e
    show 1 ≤ n.toNat ∧ n.toNat ≤ l
    omega
  | _ => cases e
theorem nd_cnt {r : Row} {l : Nat} {k : Nat} (h : SV (l : Int) r.d) (e : ndOf r = .cnt k) : 1 ≤ k ∧ k ≤ l := by
  obtain ⟨d, par, ch⟩ := r
  cases h with
  | cnt n h1 h2 =>
    cases e
    show 1 ≤ n.toNat ∧ n.toNat ≤ l
    omega
  | _ => cases e
theorem tw_of {fin : List Row} {ls : List Nat} (b : BI [] fin ls) (hne : 0 < fin.length) : TW fin (fun n => ls.getD n 0) := by
  have lpn : ∀ {n l : Nat}, ls[n]? = some l → ls.getD n 0 = l := fun h => by rw [List.getD_eq_getElem?_getD, h] <;> rfl
  have lex : ∀ {n : Nat} {r : Row}, fin[n]? = some r → ∃ l, ls[n]? = some l := fun {n r} h => ⟨_, List.getElem?_eq_getElem (by rw [b.ll]; exact (List.getElem?_eq_some_iff.mp h).1)⟩
  have pt : ∀ (n : Nat) (r : Row), fin[n]? = some r → (r.ch.map fun c => (fin[c]?.map Row.d).getD .none) = partsD r.d := fun n r h => by
    have z := b.pt n r h
    rw [List.filter_nil, List.map_nil, List.append_nil] at z
    exact z
  have sv : ∀ (n : Nat) (r : Row), fin[n]? = some r → SV (ls.getD n 0 : Int) r.d ∧ r.ch.length = (partsD r.d).length ∧ r.ch = (ndOf r).ch := fun n r h => by
    obtain ⟨l, hl⟩ := lex h
    rw [lpn hl]
    have s := sv_of (b.sm n r l h hl)
    have e : r.ch.length = (partsD r.d).length := by rw [← pt n r h, List.length_map]
    exact ⟨s, e, nd_ch s e⟩
  have at_ : ∀ n, n < fin.length → ∃ r, fin[n]? = some r ∧ (tabOf fin).nd n = ndOf r := fun n hn => ⟨_, List.getElem?_eq_getElem hn, tab_nd (List.getElem?_eq_getElem hn)⟩
  refine ⟨⟨hne, ?_, ?_, fun n hn c hc => ?_, fun n hn => ?_, fun n p hn hp => ?_, fun n l hn hd => ?_, fun n k hn hd => ?_, fun n k hn hd => ?_⟩, sv, fun n r p h hp => ?_, fun n r h j c hj => ?_⟩
  · show fin[0]?.bind Row.par = none
    rw [List.getElem?_eq_getElem hne]
    exact b.rt _ (List.getElem?_eq_getElem hne)
  · obtain ⟨l, hl⟩ := lex (List.getElem?_eq_getElem hne)
    rw [lpn hl]
    exact b.l0 l hl
  · obtain ⟨r, hr, e⟩ := at_ n hn
    obtain ⟨s1, s2, s3⟩ := sv n r hr
    rw [e, ← s3] at hc
    obtain ⟨l, hl⟩ := lex hr
    obtain ⟨x1, r', x2, x3, x4⟩ := b.dn n r l hr hl c hc
    refine ⟨x1, (List.getElem?_eq_some_iff.mp x2).1, ?_, ?_⟩
    · show fin[c]?.bind Row.par = some n
      rw [x2]
      exact x3
    · rw [e, lpn x4, lpn hl, nd_wl s1]
      try (cases ndOf r <;> rfl)
  · obtain ⟨r, hr, e⟩ := at_ n hn
    rw [e, ← (sv n r hr).2.2]
    exact (b.as n r hr).imp fun h => Nat.ne_of_lt h
  · obtain ⟨r, hr, e⟩ := at_ n hn
    have hp : fin[n]?.bind Row.par = some p := hp
    rw [hr] at hp
    obtain ⟨_, rp, y2, _⟩ := b.up n r p hr hp
    exact (List.getElem?_eq_some_iff.mp y2).1
  · obtain ⟨r, hr, e⟩ := at_ n hn
    rw [e] at hd
    exact nd_seq (sv n r hr).1 (sv n r hr).2.1 hd
  · obtain ⟨r, hr, e⟩ := at_ n hn
    rw [e] at hd
    exact nd_brk (sv n r hr).1 hd
  · obtain ⟨r, hr, e⟩ := at_ n hn
    rw [e] at hd
    exact nd_cnt (sv n r hr).1 hd
  · obtain ⟨y1, rp, y2, y3⟩ := b.up n r p h hp
    exact ⟨y1, (List.getElem?_eq_some_iff.mp y2).1, by rw [tab_nd y2, ← (sv p rp y2).2.2]; exact y3⟩
  · obtain ⟨l, hl⟩ := lex h
    obtain ⟨_, r', x2, _⟩ := b.dn n r l h hl c (List.mem_of_getElem? hj)
    refine ⟨r', x2, ?_⟩
    rw [← pt n r h, List.getElem?_map, hj, Option.map_some, x2] <;> rfl
/-- the height of a statement -/
inductive HD : Nat → PyData → Prop
  | mk {h : Nat} {d : PyData} (r : ∀ p ∈ partsD d, HD h p) : HD (h + 1) d
theorem hg_of {rows : List Row} {lp : Nat → Nat} (W : TW rows lp) : ∀ {h : Nat} {d : PyData}, HD h d → ∀ {n : Nat} {r : Row}, rows[n]? = some r → r.d = d → FcM.Hg (tabOf rows) h n := by
  intro h d hd
  induction hd with
  | mk r ih =>
    intro n r hr e
    refine .mk fun c hc => ?_
    rw [tab_nd hr, ← (W.sv n r hr).2.2] at hc
    obtain ⟨j, hj⟩ := List.mem_iff_getElem?.mp hc
    obtain ⟨r', x1, x2⟩ := W.pr n r hr j c hj
    exact ih r'.d (by rw [← e]; exact List.mem_of_getElem? x2) x1 rfl

end Fc

set_option maxRecDepth 100000
set_option maxHeartbeats 4000000
namespace Fc
open PySem PySem.Spec PyProof.Rows L2 FcR
open Evl (Ex)
open FcM (Way Node Tab)
def kindN : Node → Str
  | .do_ => "do"
  | .call => "call"
  | .ret => "return"
  | .rai => "raise"
  | .brk _ => "break"
  | .cnt _ => "continue"
  | .iff _ _ => "if"
  | .whl _ => "while"
  | .seq _ => "seq"
  | .tr _ _ => "try"
  | .fin _ _ => "final"
theorem kd_nd {r : Row} {l : Int} (h : SV l r.d) : kindD r.d = kindN (ndOf r) := by
  obtain ⟨d, par, ch⟩ := r
  cases h <;> rfl
/-- what stands in a code's lists at n -/
structure At (K : PySem.W.Frag) (H : Hp) (A : CAd) (rows : List Row) (n : Nat) (r : Row) (c : Addr) : Prop where
  kd : (rows.map fun r => V.str (kindD r.d))[n]? = some (.str (kindN (ndOf r)))
  lb : (rows.map fun r => labD r.d)[n]? = some (labD r.d)
  pr : (rows.map fun r => parV r.par)[n]? = some (parV r.par)
  cs : (A.cs.map V.ref)[n]? = some (.ref c)
  ch : H c = some (.lst (intsV r.ch))
theorem at_of {K : PySem.W.Frag} {H : Hp} {A : CAd} {rows : List Row} {lp : Nat → Nat} {L1 L2 L3 L4 : List V} (W : TW rows lp) (C : CL K H A L1 L2 L3 L4 (rows.map fun r => intsV r.ch)) {n : Nat} {r : Row} (h : rows[n]? = some r) : ∃ c, At K H A rows n r c := by
  have lt := (List.getElem?_eq_some_iff.mp h).1
  have lc : n < A.cs.length := by rw [C.cl, List.length_map]; exact lt
  refine ⟨A.cs[n], by rw [List.getElem?_map, h, ← kd_nd (W.sv n r h).1] <;> rfl, by rw [List.getElem?_map, h] <;> rfl, by rw [List.getElem?_map, h] <;> rfl, by rw [List.getElem?_map, List.getElem?_eq_getElem lc] <;> rfl, ?_⟩
  exact C.cc n _ _ (List.getElem?_eq_getElem lc) (by rw [List.getElem?_map, h] <;> rfl)
theorem row_at {rows : List Row} {n : Nat} (h : n < rows.length) : ∃ r, rows[n]? = some r := ⟨_, List.getElem?_eq_getElem h⟩
theorem ints_at {l : List Nat} {j c : Nat} (h : l[j]? = some c) : (intsV l)[j]? = some (.int (c : Int)) := by
  unfold intsV
  rw [List.getElem?_map, h] <;> rfl
def kDown : List Str := ["seq", "try", "final"]
theorem down_case {t : Tab} {m n e : Nat} (h : FcM.Ent t m n e) : (e = n ∧ decide (kindN (t.nd n) ∈ kDown) = false) ∨ ∃ m' c, m = m' + 1 ∧ (t.nd n).ch[0]? = some c ∧ FcM.Ent t m' c e ∧ decide (kindN (t.nd n) ∈ kDown) = true := by
  cases h with
  | here h1 h2 h3 =>
    refine .inl ⟨rfl, decide_eq_false fun z => ?_⟩
    cases hd : t.nd n with
    | seq l => exact h1 l hd
    | tr a b => exact h2 a b hd
    | fin a b => exact h3 a b hd
    | do_ => rw [hd] at z; exact absurd z (by decide +kernel)
    | call => rw [hd] at z; exact absurd z (by decide +kernel)
    | ret => rw [hd] at z; exact absurd z (by decide +kernel)
    | rai => rw [hd] at z; exact absurd z (by decide +kernel)
    | brk k => rw [hd] at z; exact absurd z (show ¬ ("break" : Str) ∈ kDown by decide +kernel)
    | cnt k => rw [hd] at z; exact absurd z (show ¬ ("continue" : Str) ∈ kDown by decide +kernel)
    | iff a b => rw [hd] at z; exact absurd z (show ¬ ("if" : Str) ∈ kDown by decide +kernel)
    | whl a => rw [hd] at z; exact absurd z (show ¬ ("while" : Str) ∈ kDown by decide +kernel)
  | @seq k _ c _ l hd r => exact .inr ⟨k, c, rfl, by rw [hd] <;> rfl, r, by rw [hd]; exact decide_eq_true (show ("seq" : Str) ∈ kDown by decide +kernel)⟩
  | @tr k _ a b _ hd r => exact .inr ⟨k, a, rfl, by rw [hd] <;> rfl, r, by rw [hd]; exact decide_eq_true (show ("try" : Str) ∈ kDown by decide +kernel)⟩
  | @fin k _ a b _ hd r => exact .inr ⟨k, a, rfl, by rw [hd] <;> rfl, r, by rw [hd]; exact decide_eq_true (show ("final" : Str) ∈ kDown by decide +kernel)⟩
theorem in_strs {k : Str} {l : List Str} {b : Bool} (h : decide (k ∈ l) = b) : inV (.str k) (l.map V.str) = b := by rw [inV_strs]; exact h
def sp_entry (K : PySem.W.Frag) : Sp := fun vs H Q _ => ∃ (F : Hp) (A : CAd) (rows : List Row) (lp : Nat → Nat) (n k e : Nat), vs = [.ref A.p, .int (n : Int)] ∧ CodeH K F F A rows ∧ TW rows lp ∧ Ex F H ∧ n < rows.length ∧ FcM.Ent (tabOf rows) k n e ∧ ∀ H', Ex H H' → Q (.int (e : Int)) H'

end Fc

set_option maxRecDepth 100000
set_option maxHeartbeats 4000000
namespace Fc
open PySem PySem.Spec PyProof.Rows L2 FcR
open Evl (Ex)
open FcM (Way Node Tab)
section
variable {P : Program} {w : World} {h : Heap} {K : PySem.W.Frag} {mg : Str → Option Value} {base : Heap}
abbrev N_Code_entry_of : List Str := ["self", "number"]
theorem sc_Code_entry_of : FnScope N_Code_entry_of ["self", "number"] (defScope sd_Code_entry_of) := ⟨rfl, rfl, rfl, by decide +kernel, rfl, by decide +kernel, by decide +kernel⟩
theorem ok_Code_entry_of (T : Tx w h K mg) : Ok P w K mg base 1 ("Code", some "entry_of") ["self", "number"] (sp_entry K) := by
  obtain ⟨fd, F⟩ := F_Code_entry_of T
  refine ⟨fd, ?_, F.bindsN (fun _ _ _ _ _ _ us hl => match us, hl with | [_, _], _ => rfl), F.kp⟩
  refine F.ok sc_Code_entry_of (fun vs H Q E h => ?_) (fun cdv A outer s H vs Q E hr h => ?_)
  · obtain ⟨F, A, rows, lp, n, k, e, rfl, C, W, xF, hn, hE, q⟩ := h
    rfl
  · obtain ⟨F, A, rows, lp, n, k, e, rfl, C, W, xF, hn, hE, q⟩ := h
    refine ⟨_, PSs.nox (pss_cons (ps_while PassesOwn.never (pt_cmpR op_in_seq (pe_ix ix_list (pe_fld (pv 0) rfl) (pv 1) (fun _ _ => rfl)) (pe_tup (pa_cons pe_str (pa_cons pe_str (pa_cons pe_str pa_nil)))) (by rfl)) (pss_one (ps_set (i := 1) sc_Code_entry_of.nd rfl (Or.inl rfl) (pe_ix ix_list (pe_ix ix_list (pe_fld (pv 0) rfl) (pv 1) (fun _ _ => rfl)) pe_int (fun _ _ => rfl))))) (pss_one (ps_ret (pv 1)))), ?_⟩
    refine ⟨fun m σ' H' => ∃ n' : Nat, σ' = [some (.ref A.p), some (.int (n' : Int))] ∧ Ex H H' ∧ n' < rows.length ∧ FcM.Ent (tabOf rows) m n' e, ⟨k, n, rfl, Evl.Ex.refl _, hn, hE⟩, ?_⟩
    rintro m σ' H' ⟨n', rfl, xH, hn', hE'⟩
    obtain ⟨r, hr⟩ := row_at hn'
    obtain ⟨vs, C1, _⟩ := C.ex (Evl.Ex.refl _) (xF.trans xH)
    obtain ⟨c, a⟩ := at_of W C1 hr
    refine ⟨_, rfl, A.p, _, _, _, _, rfl, C1.ob, c_Code T, na_Code_kinds T, fl_Code_kinds _ _ _ _ _, _, rfl, A.a2, _, _, _, rfl, rfl, Evl.sq_of C1.h2, atI_nat a.kd, sz (by simp), ?_⟩
    intro p1 n1
    generalize e1 : upd _ p1 _ = H1
    obtain ⟨x1, s1, o1⟩ := new_of e1 n1
    clear e1
    refine ⟨p1, _, rfl, .inr (Evl.st_of s1), rfl, flat_strs kDown, _, rfl, ?_⟩
    have hnd := tab_nd hr
    rcases down_case hE' with ⟨rfl, hk⟩ | ⟨m', c', rfl, hc, hE2, hk⟩
    · rw [hnd] at hk
      exact itF (in_strs hk) ⟨_, rfl, q H1 (xH.trans x1)⟩
    · rw [hnd] at hk hc
      rw [← (W.sv n' r hr).2.2] at hc
      have hlt : c' < rows.length := by
        have := W.wf.dn n' hn' c' (by rw [hnd, ← (W.sv n' r hr).2.2]; exact List.mem_of_getElem? hc)
        exact this.2.1
      refine itT (in_strs hk) ⟨fun σ' H' => σ' = [some (.ref A.p), some (.int (c' : Int))] ∧ Ex H H', fun σ' H' ⟨e1, e2⟩ => ⟨m', Nat.lt_succ_self _, c', e1, e2, hlt, hE2⟩, ?_⟩
      have C2 := C1.ex x1
      refine ⟨_, rfl, A.p, _, _, _, _, rfl, C2.ob, c_Code T, na_Code_children T, fl_Code_children _ _ _ _ _, _, rfl, A.a5, _, _, _, rfl, rfl, Evl.sq_of C2.h5, atI_nat a.cs, c, _, _, _, rfl, rfl, Evl.sq_of (x1 _ _ a.ch), atI_nat (ints_at hc), rfl, xH.trans x1⟩
end

end Fc

set_option maxRecDepth 100000
set_option maxHeartbeats 4000000
namespace Fc
open PySem PySem.Spec PyProof.Rows L2 FcR
open Evl (Ex)
def fl_Walker (v0 v1 v2 v3 : V) : List (Str × V) := [("source", v0), ("pendings", v1), ("spot", v2), ("end", v3)]
theorem fl_Walker_source (v0 v1 v2 v3 : V) : (fl_Walker v0 v1 v2 v3).lookup ("source" : Str) = some v0 := by kernel_rfl
theorem fp_Walker_source (v0 v1 v2 v3 y : V) : putF "source" y (fl_Walker v0 v1 v2 v3) = fl_Walker y v1 v2 v3 := by kernel_rfl
theorem fl_Walker_pendings (v0 v1 v2 v3 : V) : (fl_Walker v0 v1 v2 v3).lookup ("pendings" : Str) = some v1 := by kernel_rfl
theorem fp_Walker_pendings (v0 v1 v2 v3 y : V) : putF "pendings" y (fl_Walker v0 v1 v2 v3) = fl_Walker v0 y v2 v3 := by kernel_rfl
theorem fl_Walker_spot (v0 v1 v2 v3 : V) : (fl_Walker v0 v1 v2 v3).lookup ("spot" : Str) = some v2 := by kernel_rfl
theorem fp_Walker_spot (v0 v1 v2 v3 y : V) : putF "spot" y (fl_Walker v0 v1 v2 v3) = fl_Walker v0 v1 y v3 := by kernel_rfl
theorem fl_Walker_end (v0 v1 v2 v3 : V) : (fl_Walker v0 v1 v2 v3).lookup ("end" : Str) = some v3 := by kernel_rfl
theorem fp_Walker_end (v0 v1 v2 v3 y : V) : putF "end" y (fl_Walker v0 v1 v2 v3) = fl_Walker v0 v1 v2 y := by kernel_rfl
theorem fm_Walker_is_waiting (v0 v1 v2 v3 : V) : (fl_Walker v0 v1 v2 v3).lookup ("is_waiting" : Str) = none := by kernel_rfl
theorem fm_Walker_leave (v0 v1 v2 v3 : V) : (fl_Walker v0 v1 v2 v3).lookup ("leave" : Str) = none := by kernel_rfl
theorem fm_Walker_do_place (v0 v1 v2 v3 : V) : (fl_Walker v0 v1 v2 v3).lookup ("do_place" : Str) = none := by kernel_rfl
theorem fm_Walker_go_on (v0 v1 v2 v3 : V) : (fl_Walker v0 v1 v2 v3).lookup ("go_on" : Str) = none := by kernel_rfl
theorem fm_Walker_answer (v0 v1 v2 v3 : V) : (fl_Walker v0 v1 v2 v3).lookup ("answer" : Str) = none := by kernel_rfl
theorem fm_Walker_moment (v0 v1 v2 v3 : V) : (fl_Walker v0 v1 v2 v3).lookup ("moment" : Str) = none := by kernel_rfl
theorem fi_Walker_0 (v0 : V) : putF "source" v0 ([] : List (Str × V)) = ([(("source" : Str), v0)] : List (Str × V)) := by kernel_rfl
theorem fi_Walker_1 (v0 v1 : V) : putF "pendings" v1 ([(("source" : Str), v0)] : List (Str × V)) = ([(("source" : Str), v0), (("pendings" : Str), v1)] : List (Str × V)) := by kernel_rfl
theorem fi_Walker_2 (v0 v1 v2 : V) : putF "spot" v2 ([(("source" : Str), v0), (("pendings" : Str), v1)] : List (Str × V)) = ([(("source" : Str), v0), (("pendings" : Str), v1), (("spot" : Str), v2)] : List (Str × V)) := by kernel_rfl
theorem fi_Walker_3 (v0 v1 v2 v3 : V) : putF "end" v3 ([(("source" : Str), v0), (("pendings" : Str), v1), (("spot" : Str), v2)] : List (Str × V)) = ([(("source" : Str), v0), (("pendings" : Str), v1), (("spot" : Str), v2), (("end" : Str), v3)] : List (Str × V)) := by kernel_rfl
def fl_Run (v0 v1 v2 : V) : List (Str × V) := [("visited", v0), ("used", v1), ("end", v2)]
theorem fl_Run_visited (v0 v1 v2 : V) : (fl_Run v0 v1 v2).lookup ("visited" : Str) = some v0 := by kernel_rfl
theorem fp_Run_visited (v0 v1 v2 y : V) : putF "visited" y (fl_Run v0 v1 v2) = fl_Run y v1 v2 := by kernel_rfl
theorem fl_Run_used (v0 v1 v2 : V) : (fl_Run v0 v1 v2).lookup ("used" : Str) = some v1 := by kernel_rfl
theorem fp_Run_used (v0 v1 v2 y : V) : putF "used" y (fl_Run v0 v1 v2) = fl_Run v0 y v2 := by kernel_rfl
theorem fl_Run_end (v0 v1 v2 : V) : (fl_Run v0 v1 v2).lookup ("end" : Str) = some v2 := by kernel_rfl
theorem fp_Run_end (v0 v1 v2 y : V) : putF "end" y (fl_Run v0 v1 v2) = fl_Run v0 v1 y := by kernel_rfl
theorem fm_Run_facts (v0 v1 v2 : V) : (fl_Run v0 v1 v2).lookup ("facts" : Str) = none := by kernel_rfl
theorem fi_Run_0 (v0 : V) : putF "visited" v0 ([] : List (Str × V)) = ([(("visited" : Str), v0)] : List (Str × V)) := by kernel_rfl
theorem fi_Run_1 (v0 v1 : V) : putF "used" v1 ([(("visited" : Str), v0)] : List (Str × V)) = ([(("visited" : Str), v0), (("used" : Str), v1)] : List (Str × V)) := by kernel_rfl
theorem fi_Run_2 (v0 v1 v2 : V) : putF "end" v2 ([(("visited" : Str), v0), (("used" : Str), v1)] : List (Str × V)) = ([(("visited" : Str), v0), (("used" : Str), v1), (("end" : Str), v2)] : List (Str × V)) := by kernel_rfl

end Fc

set_option maxRecDepth 100000
set_option maxHeartbeats 4000000
namespace Fc
open PySem PySem.Spec PyProof.Rows L2 FcR
open Evl (Ex)
open FcM (Way Node Tab Pd)
/-! ### ways as data -/
def wayL : Way → List PyData
  | .nrm => [.str "normal"]
  | .ret => [.str "return"]
  | .rai => [.str "raise"]
  | .brk k => [.str "break", .int (k : Int)]
  | .cnt k => [.str "continue", .int (k : Int)]
def wayD (w : Way) : PyData := .tuple (wayL w)
theorem beq_dec (a b : Nat) : ((a : Int) == (b : Int)) = decide (a = b) := by
  by_cases h : a = b
  · rw [h, decide_eq_true rfl]; simp
  · rw [decide_eq_false h]
    simp
    omega
theorem eqv_way (w u : Way) : PyData.eqv (wayD w) (wayD u) = decide (w = u) := by
  cases w <;> cases u <;> first
    | rfl
    | (simp [wayD, wayL, PyData.eqv, PyData.eqvAll]; done)
    | (simp [wayD, wayL, PyData.eqv, PyData.eqvAll]; exact beq_dec _ _)
    | (simp [wayD, wayL, PyData.eqv, PyData.eqvAll]; decide +kernel)
theorem can_way (w : Way) : PyData.canLay0 (wayD w) = true := by
  cases w <;> first | (decide +kernel) | kernel_rfl
theorem dep_way (w : Way) : (wayD w).depth ≤ 2 := by
  cases w <;> simp [wayD, wayL, PyData.depth, PyData.depthAll]
def endS : Way → Str
  | .nrm => "end"
  | .ret => "return"
  | _ => "raise"
/-- a jump's number is not 0 -/
def posW : Way → Prop
  | .brk k => 1 ≤ k
  | .cnt k => 1 ≤ k
  | _ => True
theorem pos_dec {w : Way} (h : posW w) (ha : FcM.again w = false) : posW (FcM.decW w) := by
  cases w with
  | brk k =>
    show posW (if k = 1 then .nrm else .brk (k - 1))
    by_cases hk : k = 1
    · rw [if_pos hk]; trivial
    · rw [if_neg hk]
      have h1 : 1 ≤ k := h
      show 1 ≤ k - 1
      omega
  | cnt k =>
    have h1 : 1 ≤ k := h
    have hk : k ≠ 1 := fun z => by subst z; simp [FcM.again] at ha
    show 1 ≤ k - 1
    omega
  | nrm => trivial
  | ret => trivial
  | rai => trivial
/-- pending ways: pairs at ts -/
inductive PdAt (K : PySem.W.Frag) (F : Hp) : List Addr → Pd → Prop
  | nil : PdAt K F [] []
  | cons {t : Addr} {ts : List Addr} {n : Nat} {w : Way} {P : Pd} {v : V} (h : F t = some (.tup [.int (n : Int), v])) (hd : Dp K F v (wayD w)) (hw : posW w) (r : PdAt K F ts P) : PdAt K F (t :: ts) ((n, w) :: P)
theorem PdAt.ex {K : PySem.W.Frag} {F F' : Hp} (e : Ex F F') : ∀ {ts : List Addr} {P : Pd}, PdAt K F ts P → PdAt K F' ts P
  | _, _, .nil => .nil
  | _, _, .cons h hd hw r => .cons (e _ _ h) (dp_ex e hd) hw (PdAt.ex e r)
theorem PdAt.push {K : PySem.W.Frag} {F : Hp} {t : Addr} {n : Nat} {w : Way} {v : V} (h : F t = some (.tup [.int (n : Int), v])) (hd : Dp K F v (wayD w)) (hw : posW w) : ∀ {ts : List Addr} {P : Pd}, PdAt K F ts P → PdAt K F (ts ++ [t]) (P ++ [(n, w)])
  | _, _, .nil => .cons h hd hw .nil
  | _, _, .cons h' hd' hw' r => .cons h' hd' hw' (PdAt.push h hd hw r)
theorem PdAt.pop {K : PySem.W.Frag} {F : Hp} : ∀ {P : Pd} {x : Nat × Way} {ts : List Addr}, PdAt K F ts (P ++ [x]) → ∃ ts' t v, ts = ts' ++ [t] ∧ PdAt K F ts' P ∧ F t = some (.tup [.int (x.1 : Int), v]) ∧ Dp K F v (wayD x.2) ∧ posW x.2
  | [], _, _, .cons h hd hw .nil => ⟨[], _, _, rfl, .nil, h, hd, hw⟩
  | _ :: P, x, _, .cons h hd hw r => by
    obtain ⟨ts', t, v, rfl, r', h1, h2, h3⟩ := PdAt.pop (P := P) (x := x) r
    exact ⟨_ :: ts', t, v, rfl, .cons h hd hw r', h1, h2, h3⟩
theorem PdAt.len {K : PySem.W.Frag} {F : Hp} : ∀ {ts : List Addr} {P : Pd}, PdAt K F ts P → ts.length = P.length
  | _, _, .nil => rfl
  | _, _, .cons _ _ _ r => congrArg Nat.succ (PdAt.len r)
/-- a walker at q, its pending ways at pp -/
def endV : Nat ⊕ Way → V
  | .inl _ => .non
  | .inr w => .str (endS w)
structure WS (K : PySem.W.Frag) (F H : Hp) (A : CAd) (q dx pp : Addr) (s : Nat) (ts : List Addr) (r : Nat ⊕ Way) (P : Pd) : Prop where
  ob : H q = some (.ins (He.ga K "Walker") dx (fl_Walker (.ref A.p) (.ref pp) (.int (s : Int)) (endV r)))
  sp : ∀ n, r = .inl n → n = s
  pl : H pp = some (.lst (ts.map V.ref))
  pa : PdAt K F ts P
  fq : F q = none
  fp : F pp = none
  ne : q ≠ pp
theorem WS.ext {K : PySem.W.Frag} {F H F2 H2 : Hp} {A : CAd} {q dx pp : Addr} {s : Nat} {ts : List Addr} {r : Nat ⊕ Way} {P : Pd} (x : WS K F H A q dx pp s ts r P) (e1 : Ex F F2) (e3 : Ex H H2) (e4 : ∀ b, H b ≠ none → F b = none → F2 b = none) : WS K F2 H2 A q dx pp s ts r P :=
  ⟨e3 _ _ x.ob, x.sp, e3 _ _ x.pl, x.pa.ex e1, e4 q (by rw [x.ob]; exact fun z => nomatch z) x.fq, e4 pp (by rw [x.pl]; exact fun z => nomatch z) x.fp, x.ne⟩
theorem WS.new {K : PySem.W.Frag} {F H H2 : Hp} {A : CAd} {q dx pp : Addr} {s : Nat} {ts : List Addr} {r : Nat ⊕ Way} {P : Pd} (x : WS K F H A q dx pp s ts r P) (e3 : Ex H H2) : WS K F H2 A q dx pp s ts r P := x.ext (Evl.Ex.refl _) e3 fun _ _ e => e
/-- what a walker's own methods may change -/
abbrev GrW (q pp : Addr) (F H F' H' : Hp) : Prop := Gr (fun b => b = q ∨ b = pp) F H F' H'
def sp_way_of (K : PySem.W.Frag) : Sp := fun vs H Q _ => ∃ (F : Hp) (A : CAd) (rows : List Row) (lp : Nat → Nat) (n : Nat) (r : Row), vs = [.ref A.p, .int (n : Int)] ∧ CodeH K F F A rows ∧ TW rows lp ∧ Ex F H ∧ rows[n]? = some r ∧ FcM.quiet (ndOf r) ∧
  ∀ (v : V) (F' H' : Hp), Gr (fun _ => False) F H F' H' → Dp K F' v (wayD (FcM.wayN (ndOf r))) → Q v H'
section
variable {P : Program} {w : World} {h : Heap} {K : PySem.W.Frag} {mg : Str → Option Value} {base : Heap}
abbrev N_way_of : List Str := ["code", "place", "kind"]
theorem sc_way_of : FnScope N_way_of ["code", "place"] (defScope sd_way_of) := ⟨rfl, rfl, rfl, by decide +kernel, rfl, by decide +kernel, by decide +kernel⟩
theorem ok_way_of (T : Tx w h K mg) : Ok P w K mg base 1 ("way_of", none) ["code", "place"] (sp_way_of K) := by
  obtain ⟨fd, F⟩ := F_way_of T
  refine ⟨fd, ?_, F.bindsN (fun _ _ _ _ _ _ us hl => match us, hl with | [_, _], _ => rfl), F.kp⟩
  refine F.ok sc_way_of (fun vs H Q E h => ?_) (fun cdv A outer s H vs Q E hr h => ?_)
  · obtain ⟨F, A, rows, lp, n, r, rfl, C, W, xF, hr, hq, q⟩ := h
    rfl
  · obtain ⟨F, A, rows, lp, n, r, rfl, C, W, xF, hr, hq, q⟩ := h
    refine ⟨_, PSs.nox (pss_cons (ps_set (i := 2) sc_way_of.nd rfl (Or.inl rfl) (pe_ix ix_list (pe_fld (pv 0) rfl) (pv 1) (fun _ _ => rfl))) (pss_cons (ps_if (pt_cmpR op_eq (pv 2) pe_str (nomark _)) (pss_one (ps_ret (pe_glob (v := .ref (He.ga K "NORMAL_runs")) rfl (g_NORMAL_runs T) rfl))) pss_nil) (pss_one (ps_ret (pe_ifExp (pt_cmpR op_isN (pe_ix ix_list (pe_fld (pv 0) rfl) (pv 1) (fun _ _ => rfl)) pe_non (nomark _)) (pe_tup (pa_cons (pv 2) pa_nil)) (pe_tup (pa_cons (pv 2) (pa_cons (pe_ix ix_list (pe_fld (pv 0) rfl) (pv 1) (fun _ _ => rfl)) pa_nil)))))))), ?_⟩
    obtain ⟨vs, C1, _⟩ := C.ex (Evl.Ex.refl _) xF
    obtain ⟨c, a⟩ := at_of W C1 hr
    have sv := (W.sv n r hr).1
    refine ⟨_, rfl, A.p, _, _, _, _, rfl, C1.ob, c_Code T, na_Code_kinds T, fl_Code_kinds _ _ _ _ _, _, rfl, A.a2, _, _, _, rfl, rfl, Evl.sq_of C1.h2, atI_nat a.kd, ?_⟩
    have al := a.lb
    obtain ⟨d, par, ch⟩ := r
    cases sv with
    | do_ x => exact ⟨_, rfl, rfl, _, rfl, q _ F H (Gr.refl xF) (.tup (t_NORMAL_runs T F) (.cons (.str _) .nil))⟩
    | call x => exact hq.elim
    | iff x b1 b2 => exact hq.elim
    | whl x b1 => exact hq.elim
    | seq x xs => exact hq.elim
    | tr b1 b2 => exact hq.elim
    | fin b1 b2 => exact hq.elim
    | ret =>
      refine ⟨_, rfl, rfl, _, rfl, itF rfl ?_⟩
      refine ⟨_, rfl, A.p, _, _, _, _, rfl, C1.ob, c_Code T, na_Code_labels T, fl_Code_labels _ _ _ _ _, _, rfl, A.a3, _, _, _, rfl, rfl, Evl.sq_of C1.h3, atI_nat al, rfl, _, rfl, _, rfl, sz (by simp), ?_⟩
      intro p1 n1
      generalize e1 : upd _ p1 _ = H1
      obtain ⟨x1, s1, o1⟩ := new_of e1 n1
      clear e1
      exact q _ (upd F p1 _) H1 (Gr.frz xF n1 s1 o1) (.tup (Evl.st_of upd_same) (.cons (.str _) .nil))
    | rai =>
      refine ⟨_, rfl, rfl, _, rfl, itF rfl ?_⟩
      refine ⟨_, rfl, A.p, _, _, _, _, rfl, C1.ob, c_Code T, na_Code_labels T, fl_Code_labels _ _ _ _ _, _, rfl, A.a3, _, _, _, rfl, rfl, Evl.sq_of C1.h3, atI_nat al, rfl, _, rfl, _, rfl, sz (by simp), ?_⟩
      intro p1 n1
      generalize e1 : upd _ p1 _ = H1
      obtain ⟨x1, s1, o1⟩ := new_of e1 n1
      clear e1
      exact q _ (upd F p1 _) H1 (Gr.frz xF n1 s1 o1) (.tup (Evl.st_of upd_same) (.cons (.str _) .nil))
    | brk n0 h1 h2 =>
      refine ⟨_, rfl, rfl, _, rfl, itF rfl ?_⟩
      refine ⟨_, rfl, A.p, _, _, _, _, rfl, C1.ob, c_Code T, na_Code_labels T, fl_Code_labels _ _ _ _ _, _, rfl, A.a3, _, _, _, rfl, rfl, Evl.sq_of C1.h3, atI_nat al, rfl, _, rfl, _, rfl, _, rfl, A.p, _, _, _, _, rfl, C1.ob, c_Code T, na_Code_labels T, fl_Code_labels _ _ _ _ _, _, rfl, A.a3, _, _, _, rfl, rfl, Evl.sq_of C1.h3, atI_nat al, sz (by simp), ?_⟩
      intro p1 n1
      generalize e1 : upd _ p1 _ = H1
      obtain ⟨x1, s1, o1⟩ := new_of e1 n1
      clear e1
      have ez : ((n0.toNat : Nat) : Int) = n0 := by omega
      refine q _ (upd F p1 _) H1 (Gr.frz xF n1 s1 o1) (.tup (Evl.st_of upd_same) (.cons (.str _) (.cons ?_ .nil)))
      show Dp K _ (.int n0) (.int ((n0.toNat : Nat) : Int))
      rw [ez]
      exact .int _
    | cnt n0 h1 h2 =>
      refine ⟨_, rfl, rfl, _, rfl, itF rfl ?_⟩
      refine ⟨_, rfl, A.p, _, _, _, _, rfl, C1.ob, c_Code T, na_Code_labels T, fl_Code_labels _ _ _ _ _, _, rfl, A.a3, _, _, _, rfl, rfl, Evl.sq_of C1.h3, atI_nat al, rfl, _, rfl, _, rfl, _, rfl, A.p, _, _, _, _, rfl, C1.ob, c_Code T, na_Code_labels T, fl_Code_labels _ _ _ _ _, _, rfl, A.a3, _, _, _, rfl, rfl, Evl.sq_of C1.h3, atI_nat al, sz (by simp), ?_⟩
      intro p1 n1
      generalize e1 : upd _ p1 _ = H1
      obtain ⟨x1, s1, o1⟩ := new_of e1 n1
      clear e1
      have ez : ((n0.toNat : Nat) : Int) = n0 := by omega
      refine q _ (upd F p1 _) H1 (Gr.frz xF n1 s1 o1) (.tup (Evl.st_of upd_same) (.cons (.str _) (.cons ?_ .nil)))
      show Dp K _ (.int n0) (.int ((n0.toNat : Nat) : Int))
      rw [ez]
      exact .int _
end

end Fc

set_option maxRecDepth 100000
set_option maxHeartbeats 4000000
namespace Fc
open PySem PySem.Spec PyProof.Rows L2 FcR
open Evl (Ex)
open FcM (Way Node Tab Pd)
def sp_leave (K : PySem.W.Frag) : Sp := fun vs H Q _ => ∃ (F : Hp) (A : CAd) (rows : List Row) (lp : Nat → Nat) (q dx pp : Addr) (s : Nat) (ts : List Addr) (n : Nat) (w : Way) (v : V) (P : Pd) (r : Nat ⊕ Way) (P' : Pd), vs = [.ref q, .int (n : Int), v] ∧
  CodeH K F F A rows ∧ TW rows lp ∧ Ex F H ∧ n < rows.length ∧ Dp K F v (wayD w) ∧ posW w ∧ WS K F H A q dx pp s ts (.inl s) P ∧ FcM.Lv (tabOf rows) n w P r P' ∧ (∀ w', r = .inr w' → FcM.WOk 0 w') ∧ P.length ≤ 1000 ∧
  ∀ (F' H' : Hp) (s' : Nat) (ts' : List Addr), GrW q pp F H F' H' → WS K F' H' A q dx pp s' ts' r P' → Q .non H'
theorem nrm_dp {w : World} {h : Heap} {K : PySem.W.Frag} {mg : Str → Option Value} (T : Tx w h K mg) (F : Hp) : Dp K F (.ref (He.ga K "NORMAL_runs")) (wayD .nrm) := .tup (t_NORMAL_runs T F) (.cons (.str _) .nil)
theorem rai_dp {w : World} {h : Heap} {K : PySem.W.Frag} {mg : Str → Option Value} (T : Tx w h K mg) (F : Hp) : Dp K F (.ref (He.ga K "RAISE_runs")) (wayD .rai) := .tup (t_RAISE_runs T F) (.cons (.str _) .nil)
theorem min_way (w u : Way) : min (wayD w).depth (wayD u).depth ≤ 150 := by
  have := dep_way w
  omega
theorem int_ne {a b : Nat} (h : a ≠ b) : (!decide (V.int (a : Int) = V.int (b : Int))) = true := by
  rw [decide_eq_false (fun z => h (by have := V.int.inj z; omega))] <;> rfl
theorem int_eq {a b : Nat} (h : a = b) : (!decide (V.int (a : Int) = V.int (b : Int))) = false := by
  rw [decide_eq_true (by rw [h])] <;> rfl
theorem fin_spot {K : PySem.W.Frag} {F H F1 H' H2 : Hp} {A : CAd} {q dx pp : Addr} {s : Nat} {ts1 : List Addr} {P1 : Pd} (gr : GrW q pp F H F1 H') (ws : WS K F1 H' A q dx pp s ts1 (.inl s) P1) (x2 : Ex H' H2) (e : Nat) :
    GrW q pp F H F1 (upd H2 q (.ins (He.ga K "Walker") dx (fl_Walker (.ref A.p) (.ref pp) (.int (e : Int)) .non))) ∧ WS K F1 (upd H2 q (.ins (He.ga K "Walker") dx (fl_Walker (.ref A.p) (.ref pp) (.int (e : Int)) .non))) A q dx pp e ts1 (.inl e) P1 := by
  refine ⟨gr.trans ((Gr.new gr.fh x2).trans (Gr.set (gr.fh.trans x2) (.inl rfl) ws.fq (fun b hb => upd_ne hb))), upd_same, fun n h => (Sum.inl.inj h).symm, ?_, ws.pa, ws.fq, ws.fp, ws.ne⟩
  rw [upd_ne ws.ne.symm]
  exact x2 _ _ ws.pl
theorem idx_at {l1 l2 : List Nat} {n m : Nat} : (intsV (l1 ++ n :: m :: l2))[l1.length]? = some (.int (n : Int)) ∧ atI (intsV (l1 ++ n :: m :: l2)) ((l1.length : Int) + 1) = some (.int (m : Int)) := by
  refine ⟨ints_at (by simp), ?_⟩
  have e : ((l1.length : Int) + 1) = ((l1.length + 1 : Nat) : Int) := by omega
  rw [e]
  refine atI_nat (ints_at ?_)
  rw [List.getElem?_append_right (by omega)]
  simp
theorem flat_ints (l : List Nat) : (intsV l).all flatV = true := by
  unfold intsV
  rw [List.all_map]
  exact List.all_eq_true.mpr fun _ _ => rfl
theorem idx_first {l1 l2 : List Nat} {n : Nat} (nd : (l1 ++ n :: l2).Nodup) (j : Nat) (z : V) (hj : j < l1.length) (h : (intsV (l1 ++ n :: l2))[j]? = some z) : eqV z (.int (n : Int)) = false := by
  unfold intsV at h
  rw [List.getElem?_map, List.getElem?_append_left hj, List.getElem?_eq_getElem hj] at h
  cases h
  have hne : l1[j] ≠ n := fun e => by
    have z := (List.nodup_append.mp nd).2.2 l1[j] (List.getElem_mem hj) n List.mem_cons_self
    exact z e
  have : ¬ ((l1[j] : Nat) : Int) = (n : Int) := by omega
  simp [eqV, this]
theorem last_at {l : List Nat} {n : Nat} (h : l.getLast? = some n) : atI (intsV l) (-1) = some (.int (n : Int)) := by
  obtain ⟨l', rfl⟩ := List.getLast?_eq_some_iff.mp h
  unfold intsV
  rw [List.map_append]
  exact atI_last _ _
theorem any_again (w : Way) : ([wayD .nrm, wayD (.cnt 1)].any fun z => PyData.eqv z (wayD w)) = FcM.again w := by
  show (PyData.eqv (wayD .nrm) (wayD w) || (PyData.eqv (wayD (.cnt 1)) (wayD w) || false)) = _
  rw [eqv_way, eqv_way, Bool.or_false]
  unfold FcM.again
  congr 1
  · exact decide_eq_decide.mpr ⟨Eq.symm, Eq.symm⟩
  · exact decide_eq_decide.mpr ⟨Eq.symm, Eq.symm⟩
theorem can_two : PyData.canLayAll0 [wayD .nrm, wayD (.cnt 1)] = true := by kernel_rfl
theorem min_two (w : Way) : min (PyData.depthAll [wayD .nrm, wayD (.cnt 1)]) (wayD w).depth ≤ 150 := by
  have := dep_way w
  omega
theorem int_is {a b : Nat} (h : a = b) : decide (V.int (a : Int) = V.int (b : Int)) = true := decide_eq_true (by rw [h])
theorem int_not {a b : Nat} (h : a ≠ b) : decide (V.int (a : Int) = V.int (b : Int)) = false := decide_eq_false (fun z => h (by have := V.int.inj z; omega))
section
variable {P : Program} {w : World} {h : Heap} {K : PySem.W.Frag} {mg : Str → Option Value} {base : Heap}
abbrev N_Walker_leave : List Str := ["self", "number", "way", "parent", "kind", "parts"]
theorem sc_Walker_leave : FnScope N_Walker_leave ["self", "number", "way"] (defScope sd_Walker_leave) := ⟨rfl, rfl, rfl, by decide +kernel, rfl, by decide +kernel, by decide +kernel⟩
theorem ok_Walker_leave (T : Tx w h K mg) : Ok P w K mg base 2 ("Walker", some "leave") ["self", "number", "way"] (sp_leave K) := by
  obtain ⟨fd, F⟩ := F_Walker_leave T
  refine ⟨fd, ?_, F.bindsN (fun _ _ _ _ _ _ us hl => match us, hl with | [_, _, _], _ => rfl), F.kp⟩
  obtain ⟨fd_Code_entry_of, G_Code_entry_of, bi_Code_entry_of, kp_Code_entry_of⟩ := ok_Code_entry_of (P := P) (base := base) T
  obtain ⟨es, nE, D⟩ := d_ENDS_runs T
  refine F.ok sc_Walker_leave (fun vs H Q E h => ?_) (fun cdv A outer s H vs Q E hr h => ?_)
  · obtain ⟨F, A, rows, lp, q, dx, pp, s, ts, n, w, v, P0, r, P', rfl, C, W, xF, hn, hv, hpw, ws, lv, hend, hP, Qq⟩ := h
    rfl
  · obtain ⟨F, A, rows, lp, q, dx, pp, s, ts, n, w, v, P0, r, P', rfl, C, W, xF, hn, hv, hpw, ws, lv, hend, hP, Qq⟩ := h
    refine ⟨_, PSs.nox (pss_cons (ps_while PassesOwn.never (pt_cmpR op_notN (pe_ix ix_list (pe_fld (pe_fld (pv 0) rfl) rfl) (pv 1) (fun _ _ => rfl)) pe_non (nomark _)) (pss_cons (ps_set (i := 3) sc_Walker_leave.nd rfl (Or.inl rfl) (pe_ix ix_list (pe_fld (pe_fld (pv 0) rfl) rfl) (pv 1) (fun _ _ => rfl))) (pss_cons (ps_par rfl sc_Walker_leave.nd (i := 4) (j := 5) rfl rfl (by decide) rfl rfl (pa_cons (pe_ix ix_list (pe_fld (pe_fld (pv 0) rfl) rfl) (pv 3) (fun _ _ => rfl)) (pa_cons (pe_ix ix_list (pe_fld (pe_fld (pv 0) rfl) rfl) (pv 3) (fun _ _ => rfl)) pa_nil)) (by rfl)) (pss_cons (ps_if (PW.pt (pw_and (pt_cmpR op_eq (pv 4) pe_str (nomark _)) (pw_and (pt_cmpR (op_eqM hr) (pv 2) (pe_glob (v := .ref (He.ga K "NORMAL_runs")) rfl (g_NORMAL_runs T) rfl) (nomark _)) (pw_and1 (pt_cmpR op_ne (pv 1) (pe_ix ix_list (pv 5) (pe_un un_neg pe_int) (fun _ _ => rfl)) (nomark _)))))) (pss_cons (ps_fld (pv 0) (pe_meth (pe_fld (pv 0) rfl) (c_Code T) (me_Code_entry_of T) G_Code_entry_of (hr.mono (by decide)) bi_Code_entry_of .nil passF (pa_cons (pe_ix ix_list (pv 5) (pe_op op_add (pe_bm PySem.F.plainAttrs_list PySem.F.slot_list_index PySem.F.type_list_index mt_index (pv 5) (pa_cons (pv 1) pa_nil)) pe_int) (fun _ _ => rfl)) pa_nil)) rfl) (pss_one ps_retN)) pss_nil) (pss_cons (ps_if (PW.pt (pw_and (pt_cmpR op_eq (pv 4) pe_str (nomark _)) (pw_and1 (pt_cmpR (op_inT hr) (pv 2) (pe_tup (pa_cons (pe_glob (v := .ref (He.ga K "NORMAL_runs")) rfl (g_NORMAL_runs T) rfl) (pa_cons (pe_tup (pa_cons pe_str (pa_cons pe_int pa_nil))) pa_nil))) (by rfl))))) (pss_cons (ps_fld (pv 0) (pv 3) rfl) (pss_one ps_retN)) pss_nil) (pss_cons (ps_if (PW.pt (pw_and (pt_cmpR op_eq (pv 4) pe_str (nomark _)) (pw_and (pt_cmpR (op_eqM hr) (pv 2) (pe_glob (v := .ref (He.ga K "RAISE_runs")) rfl (g_RAISE_runs T) rfl) (nomark _)) (pw_and1 (pt_cmpR op_eq (pv 1) (pe_ix ix_list (pv 5) pe_int (fun _ _ => rfl)) (nomark _)))))) (pss_cons (ps_fld (pv 0) (pe_meth (pe_fld (pv 0) rfl) (c_Code T) (me_Code_entry_of T) G_Code_entry_of (hr.mono (by decide)) bi_Code_entry_of .nil passF (pa_cons (pe_ix ix_list (pv 5) pe_int (fun _ _ => rfl)) pa_nil)) rfl) (pss_one ps_retN)) pss_nil) (pss_cons (ps_if (PW.pt (pw_and (pt_cmpR op_eq (pv 4) pe_str (nomark _)) (pw_and1 (pt_cmpR op_eq (pv 1) (pe_ix ix_list (pv 5) pe_int (fun _ _ => rfl)) (nomark _))))) (pss_cons (ps_expr (pe_bm PySem.F.plainAttrs_list PySem.F.slot_list_append PySem.F.type_list_append mt_append (pe_fld (pv 0) rfl) (pa_cons (pe_tup (pa_cons (pv 3) (pa_cons (pv 2) pa_nil))) pa_nil))) (pss_cons (ps_fld (pv 0) (pe_meth (pe_fld (pv 0) rfl) (c_Code T) (me_Code_entry_of T) G_Code_entry_of (hr.mono (by decide)) bi_Code_entry_of .nil passF (pa_cons (pe_ix ix_list (pv 5) pe_int (fun _ _ => rfl)) pa_nil)) rfl) (pss_one ps_retN))) pss_nil) (pss_cons (ps_if (PW.pt (pw_and (pt_cmpR op_eq (pv 4) pe_str (nomark _)) (pw_and1 (pt_cmpR (op_eqM hr) (pv 2) (pe_glob (v := .ref (He.ga K "NORMAL_runs")) rfl (g_NORMAL_runs T) rfl) (nomark _))))) (pss_cons (ps_fld (pv 0) (pv 3) rfl) (pss_one ps_retN)) pss_nil) (pss_cons (ps_if (pt_cmpR op_eq (pv 4) pe_str (nomark _)) (pss_one (ps_expr (pe_bm0 PySem.F.plainAttrs_list PySem.F.slot_list_pop PySem.F.type_list_pop mt_pop (pe_fld (pv 0) rfl)))) pss_nil) (pss_cons (ps_if (PW.pt (pw_and (pt_cmpR op_eq (pv 4) pe_str (nomark _)) (pw_and1 (pt_cmpR op_eq (pe_callB call_len_seq rfl (fr_len T) b_len (pa_cons (pv 2) pa_nil)) pe_int (nomark _))))) (pss_one (ps_set (i := 2) sc_Walker_leave.nd rfl (Or.inl rfl) (pe_ifExp (pt_cmpR (op_eqM hr) (pv 2) (pe_tup (pa_cons pe_str (pa_cons pe_int pa_nil))) (nomark _)) (pe_glob (v := .ref (He.ga K "NORMAL_runs")) rfl (g_NORMAL_runs T) rfl) (pe_tup (pa_cons (pe_ix ix_tup (pv 2) pe_int (fun _ _ => rfl)) (pa_cons (pe_op op_sub (pe_ix ix_tup (pv 2) pe_int (fun _ _ => rfl)) pe_int) pa_nil)))))) pss_nil) (pss_one (ps_set (i := 1) sc_Walker_leave.nd rfl (Or.inl rfl) (pv 3))))))))))))) (pss_one (ps_fld (pv 0) (pe_ix ix_kdict (pe_glob (v := .ref (He.ga K "ENDS_runs")) rfl (g_ENDS_runs T) rfl) (pe_ix ix_tup (pv 2) pe_int (fun _ _ => rfl)) (fun _ _ => rfl)) rfl))), ?_⟩
    refine ⟨fun m σ' H' => ∃ (n' : Nat) (w' : Way) (v' : V) (P1 : Pd) (ts1 : List Addr) (F1 : Hp) (o3 o4 o5 : Option V), m = n' ∧ σ' = [some (.ref q), some (.int (n' : Int)), some v', o3, o4, o5] ∧ GrW q pp F H F1 H' ∧ WS K F1 H' A q dx pp s ts1 (.inl s) P1 ∧ Dp K F1 v' (wayD w') ∧ posW w' ∧ FcM.Lv (tabOf rows) n' w' P1 r P' ∧ n' < rows.length ∧ P1.length ≤ 1000,
      ⟨n, n, w, v, P0, ts, F, _, _, _, rfl, rfl, Gr.refl xF, ws, hv, hpw, lv, hn, hP⟩, ?_⟩
    rintro m σ' H' ⟨n', w', v', P1, ts1, F1, o3, o4, o5, rfl, rfl, gr, ws1, hv1, hpw1, lv1, hn1, hP1⟩
    obtain ⟨rw, hr⟩ := row_at hn1
    have xC : Ex F H' := gr.ff.trans gr.fh
    obtain ⟨vs, C1, _⟩ := C.ex (Evl.Ex.refl _) xC
    obtain ⟨c, a⟩ := at_of W C1 hr
    have hpr : (tabOf rows).pr m = rw.par := by
      show rows[m]?.bind Row.par = rw.par
      rw [hr] <;> rfl
    refine ⟨_, rfl, q, _, _, _, _, rfl, ws1.ob, c_Walker T, na_Walker_source T, fl_Walker_source _ _ _ _, A.p, _, _, _, _, rfl, C1.ob, c_Code T, na_Code_parents T, fl_Code_parents _ _ _ _ _, _, rfl, A.a4, _, _, _, rfl, rfl, Evl.sq_of C1.h4, atI_nat a.pr, rfl, _, rfl, ?_⟩
    cases hpar : rw.par with
    | none =>
      rw [hpar] at hpr
      cases lv1 with
      | top h1 =>
        refine itF (by rfl) ?_
        have hok := hend _ rfl
        obtain ⟨va, vx, rfl, vS, vA⟩ := dp_tup hv1
        have vS2 := Evl.ex_t gr.fh vS
        obtain ⟨kw, hkw, hen⟩ : ∃ kw, (wayL w')[0]? = some (.str kw) ∧ (kw, He.Dv.str (endS w')) ∈ ([("normal", .str "end"), ("return", .str "return"), ("raise", .str "raise")] : List (Str × He.Dv)) := by
          cases w' with
          | nrm => exact ⟨_, rfl, by simp [endS]⟩
          | ret => exact ⟨_, rfl, by simp [endS]⟩
          | rai => exact ⟨_, rfl, by simp [endS]⟩
          | brk k =>
            have z : 1 ≤ k ∧ k ≤ 0 := hok
            omega
          | cnt k =>
            have z : 1 ≤ k ∧ k ≤ 0 := hok
            omega
        obtain ⟨y0, hy0, dy0⟩ := dpA_get vA hkw
        obtain rfl := dp_str dy0
        obtain ⟨u, n1, ru⟩ := v_ENDS_runs T hen
        refine ⟨_, rfl, va, _, _, _, rfl, rfl, vS2, atI_nat hy0, _, kw, .str (endS w'), rfl, rfl, ⟨es, nE, u, D.at_, D.lit, n1, ru⟩, ?_⟩
        refine ⟨_, rfl, q, _, dx, _, rfl, ws1.ob, c_Walker T, na_Walker_end T, (by simp [fl_Walker]), ?_⟩
        rw [fp_Walker_end]
        refine Qq F1 _ s ts1 (gr.trans (Gr.set gr.fh (.inl rfl) ws1.fq (fun b hb => upd_ne hb))) ⟨upd_same, fun n h => (by cases h), by rw [upd_ne ws1.ne.symm]; exact ws1.pl, ws1.pa, ws1.fq, ws1.fp, ws1.ne⟩
      | seqN h1 => rw [hpr] at h1; cases h1
      | seqU h1 => rw [hpr] at h1; cases h1
      | whlA h1 => rw [hpr] at h1; cases h1
      | whlU h1 => rw [hpr] at h1; cases h1
      | tryH h1 => rw [hpr] at h1; cases h1
      | tryU h1 => rw [hpr] at h1; cases h1
      | iffU h1 => rw [hpr] at h1; cases h1
      | finB h1 => rw [hpr] at h1; cases h1
      | finE h1 => rw [hpr] at h1; cases h1
      | finO h1 => rw [hpr] at h1; cases h1
    | some p =>
      rw [hpar] at hpr
      obtain ⟨apl, acl, amem⟩ := W.pu m rw p hr hpar
      obtain ⟨rp, hrp⟩ := row_at acl
      obtain ⟨c2, a2⟩ := at_of W C1 hrp
      have apr : (rows.map fun r => parV r.par)[m]? = some (.int (p : Int)) := by rw [a.pr, hpar] <;> rfl
      refine itT (by rfl) ⟨fun σ' H' => ∃ (n' : Nat) (w' : Way) (v' : V) (P1 : Pd) (ts1 : List Addr) (F1 : Hp) (o3 o4 o5 : Option V), n' < m ∧ σ' = [some (.ref q), some (.int (n' : Int)), some v', o3, o4, o5] ∧ GrW q pp F H F1 H' ∧ WS K F1 H' A q dx pp s ts1 (.inl s) P1 ∧ Dp K F1 v' (wayD w') ∧ posW w' ∧ FcM.Lv (tabOf rows) n' w' P1 r P' ∧ n' < rows.length ∧ P1.length ≤ 1000, ?_, ?_⟩
      · rintro σ' H2 ⟨n', w', v', P1, ts1, F1, o3, o4, o5, y1, y2, y3⟩
        exact ⟨n', y1, n', w', v', P1, ts1, F1, o3, o4, o5, rfl, y2, y3⟩
      refine ⟨_, rfl, q, _, _, _, _, rfl, ws1.ob, c_Walker T, na_Walker_source T, fl_Walker_source _ _ _ _, A.p, _, _, _, _, rfl, C1.ob, c_Code T, na_Code_parents T, fl_Code_parents _ _ _ _ _, _, rfl, A.a4, _, _, _, rfl, rfl, Evl.sq_of C1.h4, atI_nat apr, ?_⟩
      refine ⟨_, rfl, q, _, _, _, _, rfl, ws1.ob, c_Walker T, na_Walker_source T, fl_Walker_source _ _ _ _, A.p, _, _, _, _, rfl, C1.ob, c_Code T, na_Code_kinds T, fl_Code_kinds _ _ _ _ _, _, rfl, A.a2, _, _, _, rfl, rfl, Evl.sq_of C1.h2, atI_nat a2.kd, _, rfl, q, _, _, _, _, rfl, ws1.ob, c_Walker T, na_Walker_source T, fl_Walker_source _ _ _ _, A.p, _, _, _, _, rfl, C1.ob, c_Code T, na_Code_children T, fl_Code_children _ _ _ _ _, _, rfl, A.a5, _, _, _, rfl, rfl, Evl.sq_of C1.h5, atI_nat a2.cs, _, _, rfl, ?_⟩
      have hnd := tab_nd hrp
      have hv2 := dp_ex gr.fh hv1
      cases lv1 with
      | top h1 =>
        rw [hpr] at h1
        cases h1
      | @iffU _ _ x y _ _ _ _ h1 hd up =>
        rw [hpr] at h1
        cases h1
        rw [hnd] at hd
        rw [hd]
        refine ⟨_, rfl, rfl, _, rfl, itF rfl ?_⟩
        refine ⟨_, rfl, rfl, _, rfl, itF rfl ?_⟩
        refine ⟨_, rfl, rfl, _, rfl, itF rfl ?_⟩
        refine ⟨_, rfl, rfl, _, rfl, itF rfl ?_⟩
        refine ⟨_, rfl, rfl, _, rfl, itF rfl ?_⟩
        refine ⟨_, rfl, rfl, _, rfl, itF rfl ?_⟩
        refine ⟨_, rfl, rfl, _, rfl, itF rfl ?_⟩
        exact ⟨_, rfl, p, w', v', P1, ts1, F1, _, _, _, apl, rfl, gr, ws1, hv1, hpw1, up, acl, hP1⟩
      | @seqU _ _ _ l _ _ _ h1 hd hw up =>
        rw [hpr] at h1
        cases h1
        rw [hnd] at hd
        rw [hd]
        have hch : rp.ch = l := by rw [(W.sv p rp hrp).2.2, hd] <;> rfl
        refine ⟨_, rfl, rfl, _, rfl, itT rfl ?_⟩
        by_cases hwn : w' = .nrm
        · rcases hw with hw | hw
          · exact absurd hwn hw
          refine ⟨_, rfl, _, _, hv2, nrm_dp T H', can_way _, can_way _, min_way _ _, _, rfl, itT (by rw [eqv_way]; exact decide_eq_true hwn) ?_⟩
          refine ⟨_, rfl, _, rfl, _, rfl, c2, _, _, _, rfl, rfl, Evl.sq_of a2.ch, (by rw [hch]; exact last_at hw), rfl, _, rfl, itF (int_eq rfl) ?_⟩
          refine ⟨_, rfl, rfl, _, rfl, itF rfl ?_⟩
          refine ⟨_, rfl, rfl, _, rfl, itF rfl ?_⟩
          refine ⟨_, rfl, rfl, _, rfl, itF rfl ?_⟩
          refine ⟨_, rfl, rfl, _, rfl, itF rfl ?_⟩
          refine ⟨_, rfl, rfl, _, rfl, itF rfl ?_⟩
          refine ⟨_, rfl, rfl, _, rfl, itF rfl ?_⟩
          exact ⟨_, rfl, p, w', v', P1, ts1, F1, _, _, _, apl, rfl, gr, ws1, hv1, hpw1, up, acl, hP1⟩
        · refine ⟨_, rfl, _, _, hv2, nrm_dp T H', can_way _, can_way _, min_way _ _, _, rfl, itF (by rw [eqv_way]; exact decide_eq_false hwn) ?_⟩
          refine ⟨_, rfl, rfl, _, rfl, itF rfl ?_⟩
          refine ⟨_, rfl, rfl, _, rfl, itF rfl ?_⟩
          refine ⟨_, rfl, rfl, _, rfl, itF rfl ?_⟩
          refine ⟨_, rfl, rfl, _, rfl, itF rfl ?_⟩
          refine ⟨_, rfl, rfl, _, rfl, itF rfl ?_⟩
          refine ⟨_, rfl, rfl, _, rfl, itF rfl ?_⟩
          exact ⟨_, rfl, p, w', v', P1, ts1, F1, _, _, _, apl, rfl, gr, ws1, hv1, hpw1, up, acl, hP1⟩
      | @seqN _ _ mm kk ee l l1 l2 _ h1 hd hl he =>
        rw [hpr] at h1
        cases h1
        rw [hnd] at hd
        rw [hd]
        have hch : rp.ch = l := by rw [(W.sv p rp hrp).2.2, hd] <;> rfl
        have nd : l.Nodup := by
          have z := W.wf.nd p acl
          rw [hnd, hd] at z
          exact z
        obtain ⟨z, hz⟩ : ∃ z, l.getLast? = some z := by
          cases e : l.getLast? with
          | none => rw [List.getLast?_eq_none_iff] at e; rw [e] at hl; simp at hl
          | some z => exact ⟨z, rfl⟩
        have hzn : m ≠ z := by
          rw [hl] at nd hz
          rw [List.getLast?_append, List.getLast?_cons_cons] at hz
          intro e
          have hm : z ∈ mm :: l2 := by
            cases e2 : (mm :: l2).getLast? with
            | none => simp at e2
            | some y =>
              rw [e2] at hz
              cases hz
              exact List.mem_of_getLast? e2
          rw [← e] at hm
          exact (List.nodup_cons.mp (List.nodup_append.mp nd).2.1).1 hm
        refine ⟨_, rfl, rfl, _, rfl, itT rfl ?_⟩
        refine ⟨_, rfl, _, _, hv2, nrm_dp T H', can_way _, can_way _, min_way _ _, _, rfl, itT (by rw [eqv_way]; rfl) ?_⟩
        refine ⟨_, rfl, _, rfl, _, rfl, c2, _, _, _, rfl, rfl, Evl.sq_of a2.ch, (by rw [hch]; exact last_at hz), rfl, _, rfl, itT (int_ne hzn) ?_⟩
        subst hl
        have hmm : mm < rows.length := (W.wf.dn p acl mm (by rw [hnd, hd]; exact List.mem_append_right _ (List.mem_cons_of_mem _ List.mem_cons_self))).2.1
        have sqc := Evl.sq_of (K := K) a2.ch
        rw [hch] at sqc
        refine ⟨_, rfl, q, _, _, _, _, rfl, ws1.ob, c_Walker T, na_Walker_source T, fl_Walker_source _ _ _ _, A.p, _, _, rfl, C1.ob, fm_Code_entry_of _ _ _ _ _, _, rfl, _, rfl, Or.inl ⟨rfl, _, sqc⟩, _, rfl, c2, _, _, l1.length, _, rfl, rfl, sqc, rfl, flat_ints _, idx_at.1, (by simp [eqV]), idx_first nd, _, _, rfl, rfl, c2, _, _, _, rfl, rfl, sqc, idx_at.2, ?_⟩
        refine ⟨F, A, rows, lp, mm, kk, ee, rfl, C, W, xC, hmm, he, fun H2 x2 => ⟨_, rfl, q, _, dx, _, rfl, x2 _ _ ws1.ob, c_Walker T, na_Walker_spot T, (by simp [fl_Walker]), ?_⟩⟩
        rw [fp_Walker_spot]
        obtain ⟨g2, w2⟩ := fin_spot gr ws1 x2 ee
        exact Qq F1 _ ee ts1 g2 w2
      | @whlA _ _ _ _ h1 hd hw =>
        rw [hpr] at h1
        cases h1
        rw [hnd] at hd
        rw [hd]
        refine ⟨_, rfl, rfl, _, rfl, itF rfl ?_⟩
        refine ⟨_, rfl, rfl, _, rfl, itT rfl ?_⟩
        refine ⟨_, rfl, sz (by simp), ?_⟩
        intro p1 n1
        generalize e1 : upd _ p1 _ = H1
        obtain ⟨x1, s1, o1⟩ := new_of e1 n1
        clear e1
        refine ⟨sz (by simp), ?_⟩
        intro p2 n2
        generalize e2 : upd _ p2 _ = H2
        obtain ⟨x2, s2, o2⟩ := new_of e2 n2
        clear e2
        have xx := x1.trans x2
        refine ⟨_, [wayD .nrm, wayD (.cnt 1)], dp_ex xx hv2, .tup (Evl.st_of s2) (.cons (nrm_dp T H2) (.cons (.tup (Evl.st_of (x2 _ _ s1)) (.cons (.str _) (.cons (.int _) .nil))) .nil)), can_way _, can_two, min_two _, _, rfl, itT (by rw [any_again]; exact hw) ?_⟩
        refine ⟨_, rfl, _, rfl, q, _, dx, _, rfl, xx _ _ ws1.ob, c_Walker T, na_Walker_spot T, (by simp [fl_Walker]), ?_⟩
        rw [fp_Walker_spot]
        obtain ⟨g2, w2⟩ := fin_spot gr ws1 xx p
        exact Qq F1 _ p ts1 g2 w2
      | @whlU _ _ _ _ _ _ h1 hd hw up =>
        rw [hpr] at h1
        cases h1
        rw [hnd] at hd
        rw [hd]
        refine ⟨_, rfl, rfl, _, rfl, itF rfl ?_⟩
        refine ⟨_, rfl, rfl, _, rfl, itT rfl ?_⟩
        refine ⟨_, rfl, sz (by simp), ?_⟩
        intro p1 n1
        generalize e1 : upd _ p1 _ = H1
        obtain ⟨x1, s1, o1⟩ := new_of e1 n1
        clear e1
        refine ⟨sz (by simp), ?_⟩
        intro p2 n2
        generalize e2 : upd _ p2 _ = H2
        obtain ⟨x2, s2, o2⟩ := new_of e2 n2
        clear e2
        have xx := x1.trans x2
        refine ⟨_, [wayD .nrm, wayD (.cnt 1)], dp_ex xx hv2, .tup (Evl.st_of s2) (.cons (nrm_dp T H2) (.cons (.tup (Evl.st_of (x2 _ _ s1)) (.cons (.str _) (.cons (.int _) .nil))) .nil)), can_way _, can_two, min_two _, _, rfl, itF (by rw [any_again]; exact hw) ?_⟩
        refine ⟨_, rfl, rfl, _, rfl, itF rfl ?_⟩
        refine ⟨_, rfl, rfl, _, rfl, itF rfl ?_⟩
        refine ⟨_, rfl, rfl, _, rfl, itF rfl ?_⟩
        refine ⟨_, rfl, rfl, _, rfl, itF rfl ?_⟩
        have gr2 : GrW q pp F H F1 H2 := gr.trans (Gr.new gr.fh xx)
        have ws2 := ws1.new xx
        refine ⟨_, rfl, rfl, _, rfl, itT rfl ?_⟩
        obtain ⟨va, vx, rfl, vS, vA⟩ := dp_tup hv1
        have vS2 := Evl.ex_t gr2.fh vS
        have vL := dpA_len vA
        cases w' with
        | nrm => cases hw
        | ret =>
          refine ⟨_, rfl, va, _, rfl, .inr vS2, rfl, _, rfl, itF (by rw [vL] <;> rfl) ?_⟩
          exact ⟨_, rfl, p, .ret, _, P1, ts1, F1, _, _, _, apl, rfl, gr2, ws2, hv1, trivial, up, acl, hP1⟩
        | rai =>
          refine ⟨_, rfl, va, _, rfl, .inr vS2, rfl, _, rfl, itF (by rw [vL] <;> rfl) ?_⟩
          exact ⟨_, rfl, p, .rai, _, P1, ts1, F1, _, _, _, apl, rfl, gr2, ws2, hv1, trivial, up, acl, hP1⟩
        | brk k =>
          refine ⟨_, rfl, va, _, rfl, .inr vS2, rfl, _, rfl, itT (by rw [vL] <;> rfl) ?_⟩
          refine ⟨_, rfl, sz (by simp), ?_⟩
          intro p3 n3
          generalize e3 : upd _ p3 _ = H3
          obtain ⟨x3, s3, o3⟩ := new_of e3 n3
          clear e3
          refine ⟨_, wayD (.brk 1), dp_ex (gr2.fh.trans x3) hv1, .tup (Evl.st_of s3) (.cons (.str _) (.cons (.int _) .nil)), can_way _, can_way _, min_way _ _, _, rfl, ?_⟩
          by_cases hk : k = 1
          · refine itT (by rw [eqv_way]; exact decide_eq_true (by rw [hk])) ?_
            have e : FcM.decW (.brk k) = .nrm := if_pos hk
            rw [e] at up
            exact ⟨_, rfl, p, .nrm, _, P1, ts1, F1, _, _, _, apl, rfl, gr2.trans (Gr.new gr2.fh x3), ws2.new x3, nrm_dp T F1, trivial, up, acl, hP1⟩
          · refine itF (by rw [eqv_way]; exact decide_eq_false (fun z => hk (by cases z; rfl))) ?_
            have e : FcM.decW (.brk k) = .brk (k - 1) := if_neg hk
            rw [e] at up
            obtain ⟨y0, hy0, dy0⟩ := dpA_get vA (i := 0) rfl
            obtain ⟨y1, hy1, dy1⟩ := dpA_get vA (i := 1) rfl
            obtain rfl := dp_str dy0
            obtain rfl := dp_int dy1
            have vS3 := Evl.ex_t x3 vS2
            have k1 : 1 ≤ k := hpw1
            refine ⟨_, rfl, va, _, _, _, rfl, rfl, vS3, atI_nat hy0, _, rfl, va, _, _, _, rfl, rfl, vS3, atI_nat hy1, _, _, rfl, rfl, sz (by simp), ?_⟩
            intro p4 n4
            generalize e4 : upd _ p4 _ = H4
            obtain ⟨x4, s4, o4⟩ := new_of e4 n4
            clear e4
            have ek : (k : Int) - 1 = ((k - 1 : Nat) : Int) := by omega
            replace s4 : H4 p4 = some (.tup [.str "break", .int ((k : Int) - 1)]) := s4
            rw [ek] at s4
            have gr3 := gr2.trans (Gr.new gr2.fh x3)
            have gr4 := gr3.trans (Gr.frz gr3.fh n4 s4 o4)
            refine ⟨_, rfl, p, .brk (k - 1), _, P1, ts1, _, _, _, _, apl, rfl, gr4, (ws2.new x3).ext (exu (Evl.Ex.refl _) (ex_none gr3.fh n4)) x4 (fun b hb hf => by rw [upd_ne (fun z => hb (by rw [z]; exact n4))]; exact hf), .tup (Evl.st_of upd_same) (.cons (.str _) (.cons (.int _) .nil)), (show 1 ≤ k - 1 by omega), up, acl, hP1⟩
        | cnt k =>
          refine ⟨_, rfl, va, _, rfl, .inr vS2, rfl, _, rfl, itT (by rw [vL] <;> rfl) ?_⟩
          refine ⟨_, rfl, sz (by simp), ?_⟩
          intro p3 n3
          generalize e3 : upd _ p3 _ = H3
          obtain ⟨x3, s3, o3⟩ := new_of e3 n3
          clear e3
          refine ⟨_, wayD (.brk 1), dp_ex (gr2.fh.trans x3) hv1, .tup (Evl.st_of s3) (.cons (.str _) (.cons (.int _) .nil)), can_way _, can_way _, min_way _ _, _, rfl, ?_⟩
          refine itF (by rw [eqv_way]; exact decide_eq_false (fun z => by cases z)) ?_
          have hk : k ≠ 1 := fun z => by subst z; simp [FcM.again] at hw
          have e : FcM.decW (.cnt k) = .cnt (k - 1) := rfl
          rw [e] at up
          obtain ⟨y0, hy0, dy0⟩ := dpA_get vA (i := 0) rfl
          obtain ⟨y1, hy1, dy1⟩ := dpA_get vA (i := 1) rfl
          obtain rfl := dp_str dy0
          obtain rfl := dp_int dy1
          have vS3 := Evl.ex_t x3 vS2
          have k1 : 1 ≤ k := hpw1
          refine ⟨_, rfl, va, _, _, _, rfl, rfl, vS3, atI_nat hy0, _, rfl, va, _, _, _, rfl, rfl, vS3, atI_nat hy1, _, _, rfl, rfl, sz (by simp), ?_⟩
          intro p4 n4
          generalize e4 : upd _ p4 _ = H4
          obtain ⟨x4, s4, o4⟩ := new_of e4 n4
          clear e4
          have ek : (k : Int) - 1 = ((k - 1 : Nat) : Int) := by omega
          replace s4 : H4 p4 = some (.tup [.str "continue", .int ((k : Int) - 1)]) := s4
          rw [ek] at s4
          have gr3 := gr2.trans (Gr.new gr2.fh x3)
          have gr4 := gr3.trans (Gr.frz gr3.fh n4 s4 o4)
          refine ⟨_, rfl, p, .cnt (k - 1), _, P1, ts1, _, _, _, _, apl, rfl, gr4, (ws2.new x3).ext (exu (Evl.Ex.refl _) (ex_none gr3.fh n4)) x4 (fun b hb hf => by rw [upd_ne (fun z => hb (by rw [z]; exact n4))]; exact hf), .tup (Evl.st_of upd_same) (.cons (.str _) (.cons (.int _) .nil)), (show 1 ≤ k - 1 by omega), up, acl, hP1⟩
      | @tryH _ _ bb kk ee _ h1 hd he =>
        rw [hpr] at h1
        cases h1
        rw [hnd] at hd
        rw [hd]
        have hch : rp.ch = [m, bb] := by rw [(W.sv p rp hrp).2.2, hd] <;> rfl
        have sqc := Evl.sq_of (K := K) a2.ch
        rw [hch] at sqc
        have hbb : bb < rows.length := (W.wf.dn p acl bb (by rw [hnd, hd]; simp [Node.ch])).2.1
        refine ⟨_, rfl, rfl, _, rfl, itF rfl ?_⟩
        refine ⟨_, rfl, rfl, _, rfl, itF rfl ?_⟩
        refine ⟨_, rfl, rfl, _, rfl, itT rfl ?_⟩
        refine ⟨_, rfl, _, _, hv2, rai_dp T H', can_way _, can_way _, min_way _ _, _, rfl, itT (by rw [eqv_way]; rfl) ?_⟩
        refine ⟨_, rfl, _, rfl, c2, _, _, _, rfl, rfl, sqc, at0, rfl, _, rfl, itT (int_is rfl) ?_⟩
        refine ⟨_, rfl, q, _, _, _, _, rfl, ws1.ob, c_Walker T, na_Walker_source T, fl_Walker_source _ _ _ _, A.p, _, _, rfl, C1.ob, fm_Code_entry_of _ _ _ _ _, _, rfl, c2, _, _, _, rfl, rfl, sqc, at1, ?_⟩
        refine ⟨F, A, rows, lp, bb, kk, ee, rfl, C, W, xC, hbb, he, fun H9 x9 => ⟨_, rfl, q, _, dx, _, rfl, x9 _ _ ws1.ob, c_Walker T, na_Walker_spot T, (by simp [fl_Walker]), ?_⟩⟩
        rw [fp_Walker_spot]
        obtain ⟨g2, w2⟩ := fin_spot gr ws1 x9 ee
        exact Qq F1 _ ee ts1 g2 w2
      | @tryU _ _ aa bb _ _ _ _ h1 hd hw up =>
        rw [hpr] at h1
        cases h1
        rw [hnd] at hd
        rw [hd]
        have hch : rp.ch = [aa, bb] := by rw [(W.sv p rp hrp).2.2, hd] <;> rfl
        have sqc := Evl.sq_of (K := K) a2.ch
        rw [hch] at sqc
        refine ⟨_, rfl, rfl, _, rfl, itF rfl ?_⟩
        refine ⟨_, rfl, rfl, _, rfl, itF rfl ?_⟩
        refine ⟨_, rfl, rfl, _, rfl, itT rfl ?_⟩
        by_cases hwn : w' = .rai
        · rcases hw with hw | hw
          · exact absurd hwn hw
          refine ⟨_, rfl, _, _, hv2, rai_dp T H', can_way _, can_way _, min_way _ _, _, rfl, itT (by rw [eqv_way]; exact decide_eq_true hwn) ?_⟩
          refine ⟨_, rfl, _, rfl, c2, _, _, _, rfl, rfl, sqc, at0, rfl, _, rfl, itF (int_not hw) ?_⟩
          refine ⟨_, rfl, rfl, _, rfl, itF rfl ?_⟩
          refine ⟨_, rfl, rfl, _, rfl, itF rfl ?_⟩
          refine ⟨_, rfl, rfl, _, rfl, itF rfl ?_⟩
          refine ⟨_, rfl, rfl, _, rfl, itF rfl ?_⟩
          exact ⟨_, rfl, p, w', v', P1, ts1, F1, _, _, _, apl, rfl, gr, ws1, hv1, hpw1, up, acl, hP1⟩
        · refine ⟨_, rfl, _, _, hv2, rai_dp T H', can_way _, can_way _, min_way _ _, _, rfl, itF (by rw [eqv_way]; exact decide_eq_false hwn) ?_⟩
          refine ⟨_, rfl, rfl, _, rfl, itF rfl ?_⟩
          refine ⟨_, rfl, rfl, _, rfl, itF rfl ?_⟩
          refine ⟨_, rfl, rfl, _, rfl, itF rfl ?_⟩
          refine ⟨_, rfl, rfl, _, rfl, itF rfl ?_⟩
          exact ⟨_, rfl, p, w', v', P1, ts1, F1, _, _, _, apl, rfl, gr, ws1, hv1, hpw1, up, acl, hP1⟩
      | @finB _ _ bb kk ee _ _ h1 hd he =>
        rw [hpr] at h1
        cases h1
        rw [hnd] at hd
        rw [hd]
        have hch : rp.ch = [m, bb] := by rw [(W.sv p rp hrp).2.2, hd] <;> rfl
        have sqc := Evl.sq_of (K := K) a2.ch
        rw [hch] at sqc
        have hbb : bb < rows.length := (W.wf.dn p acl bb (by rw [hnd, hd]; simp [Node.ch])).2.1
        refine ⟨_, rfl, rfl, _, rfl, itF rfl ?_⟩
        refine ⟨_, rfl, rfl, _, rfl, itF rfl ?_⟩
        refine ⟨_, rfl, rfl, _, rfl, itF rfl ?_⟩
        refine ⟨_, rfl, rfl, _, rfl, itT rfl ?_⟩
        refine ⟨_, rfl, _, rfl, c2, _, _, _, rfl, rfl, sqc, at0, rfl, _, rfl, itT (int_is rfl) ?_⟩
        refine ⟨_, rfl, q, _, _, _, _, rfl, ws1.ob, c_Walker T, na_Walker_pendings T, fl_Walker_pendings _ _ _ _, Or.inl ⟨rfl, _, Evl.sq_of ws1.pl⟩, _, rfl, _, rfl, sz (by simp), ?_⟩
        intro p1 n1
        generalize e1 : upd _ p1 _ = H1
        obtain ⟨x1, s1, o1⟩ := new_of e1 n1
        clear e1
        refine ⟨pp, _, _, rfl, rfl, x1 _ _ ws1.pl, szl (by rw [List.length_map, ws1.pa.len]; omega), ?_⟩
        generalize e2 : upd _ pp _ = H2
        obtain ⟨s2, o2⟩ := set_of e2
        clear e2
        have gr1 := gr.trans (Gr.frz gr.fh n1 s1 o1)
        have f1n : F1 p1 = none := ex_none gr.fh n1
        have ppn : pp ≠ p1 := fun z => by rw [← z, ws1.pl] at n1; cases n1
        have fpp : upd F1 p1 (.tup [.int (p : Int), v']) pp = none := by rw [upd_ne ppn]; exact ws1.fp
        have gr2 : GrW q pp F H (upd F1 p1 (.tup [.int (p : Int), v'])) H2 := gr1.trans (Gr.set gr1.fh (.inr rfl) fpp o2)
        have qn : q ≠ p1 := fun z => by rw [← z, ws1.ob] at n1; cases n1
        have ws2 : WS K (upd F1 p1 (.tup [.int (p : Int), v'])) H2 A q dx pp s (ts1 ++ [p1]) (.inl s) (P1 ++ [(p, w')]) :=
          ⟨by rw [o2 q ws1.ne]; exact x1 _ _ ws1.ob, ws1.sp, by rw [s2, List.map_append] <;> rfl, (ws1.pa.ex (exu (Evl.Ex.refl _) f1n)).push upd_same (dp_ex (exu (Evl.Ex.refl _) f1n) hv1) hpw1, by rw [upd_ne qn]; exact ws1.fq, fpp, ws1.ne⟩
        have xC2 : Ex F H2 := gr2.ff.trans gr2.fh
        obtain ⟨vs2, C2, _⟩ := C.ex (Evl.Ex.refl _) xC2
        obtain ⟨c3, a3⟩ := at_of W C2 hrp
        have ec : c3 = c2 := by
          have z := a3.cs.symm.trans a2.cs
          cases z
          rfl
        subst ec
        have sqc2 := Evl.sq_of (K := K) a3.ch
        rw [hch] at sqc2
        refine ⟨_, rfl, q, _, _, _, _, rfl, ws2.ob, c_Walker T, na_Walker_source T, fl_Walker_source _ _ _ _, A.p, _, _, rfl, C2.ob, fm_Code_entry_of _ _ _ _ _, _, rfl, c3, _, _, _, rfl, rfl, sqc2, at1, ?_⟩
        refine ⟨F, A, rows, lp, bb, kk, ee, rfl, C, W, xC2, hbb, he, fun H9 x9 => ⟨_, rfl, q, _, dx, _, rfl, x9 _ _ ws2.ob, c_Walker T, na_Walker_spot T, (by simp [fl_Walker]), ?_⟩⟩
        rw [fp_Walker_spot]
        obtain ⟨g3, w3⟩ := fin_spot gr2 ws2 x9 ee
        exact Qq _ _ ee _ g3 w3
      | @finE _ _ aa _ h1 hd hna =>
        rw [hpr] at h1
        cases h1
        rw [hnd] at hd
        rw [hd]
        have hch : rp.ch = [aa, m] := by rw [(W.sv p rp hrp).2.2, hd] <;> rfl
        have sqc := Evl.sq_of (K := K) a2.ch
        rw [hch] at sqc
        refine ⟨_, rfl, rfl, _, rfl, itF rfl ?_⟩
        refine ⟨_, rfl, rfl, _, rfl, itF rfl ?_⟩
        refine ⟨_, rfl, rfl, _, rfl, itF rfl ?_⟩
        refine ⟨_, rfl, rfl, _, rfl, itT rfl ?_⟩
        refine ⟨_, rfl, _, rfl, c2, _, _, _, rfl, rfl, sqc, at0, rfl, _, rfl, itF (int_not hna) ?_⟩
        refine ⟨_, rfl, rfl, _, rfl, itT rfl ?_⟩
        refine ⟨_, rfl, _, _, hv2, nrm_dp T H', can_way _, can_way _, min_way _ _, _, rfl, itT (by rw [eqv_way]; rfl) ?_⟩
        refine ⟨_, rfl, _, rfl, q, _, dx, _, rfl, ws1.ob, c_Walker T, na_Walker_spot T, (by simp [fl_Walker]), ?_⟩
        rw [fp_Walker_spot]
        obtain ⟨g2, w2⟩ := fin_spot gr ws1 (Evl.Ex.refl _) p
        exact Qq F1 _ p ts1 g2 w2
      | @finO _ _ aa _ P2 _ xw _ h1 hd hna hw up =>
        rw [hpr] at h1
        cases h1
        rw [hnd] at hd
        rw [hd]
        have hch : rp.ch = [aa, m] := by rw [(W.sv p rp hrp).2.2, hd] <;> rfl
        have sqc := Evl.sq_of (K := K) a2.ch
        rw [hch] at sqc
        refine ⟨_, rfl, rfl, _, rfl, itF rfl ?_⟩
        refine ⟨_, rfl, rfl, _, rfl, itF rfl ?_⟩
        refine ⟨_, rfl, rfl, _, rfl, itF rfl ?_⟩
        refine ⟨_, rfl, rfl, _, rfl, itT rfl ?_⟩
        refine ⟨_, rfl, _, rfl, c2, _, _, _, rfl, rfl, sqc, at0, rfl, _, rfl, itF (int_not hna) ?_⟩
        refine ⟨_, rfl, rfl, _, rfl, itT rfl ?_⟩
        refine ⟨_, rfl, _, _, hv2, nrm_dp T H', can_way _, can_way _, min_way _ _, _, rfl, itF (by rw [eqv_way]; exact decide_eq_false hw) ?_⟩
        refine ⟨_, rfl, rfl, _, rfl, itT rfl ?_⟩
        obtain ⟨ts2, tx, vx, rfl, pa2, ht, hdx, hpx⟩ := ws1.pa.pop
        refine ⟨_, rfl, q, _, _, _, _, rfl, ws1.ob, c_Walker T, na_Walker_pendings T, fl_Walker_pendings _ _ _ _, Or.inl ⟨rfl, _, Evl.sq_of ws1.pl⟩, pp, _, .ref tx, rfl, rfl, ws1.pl, (by simp), ?_⟩
        generalize e1 : upd _ pp _ = H1
        obtain ⟨s1, o1⟩ := set_of e1
        clear e1
        have gr1 : GrW q pp F H F1 H1 := gr.trans (Gr.set gr.fh (.inr rfl) ws1.fp o1)
        have ws2 : WS K F1 H1 A q dx pp s ts2 (.inl s) P2 := ⟨by rw [o1 q ws1.ne]; exact ws1.ob, ws1.sp, by rw [s1]; simp, pa2, ws1.fq, ws1.fp, ws1.ne⟩
        refine ⟨_, rfl, rfl, _, rfl, itF rfl ?_⟩
        exact ⟨_, rfl, p, w', v', P2, ts2, F1, _, _, _, apl, rfl, gr1, ws2, hv1, hpw1, up, acl, (by simp at hP1; omega)⟩
end

end Fc

set_option maxRecDepth 100000
set_option maxHeartbeats 4000000
namespace Fc
open PySem PySem.Spec PyProof.Rows L2 FcR
open Evl (Ex)
open FcM (Way Node Tab Pd)
def kAsk : List Str := ["call", "if", "while"]
theorem ask_kind (d : Node) : decide (kindN d ∈ kAsk) = FcM.asks d := by
  cases d <;> first | rfl | (show decide (_ ∈ kAsk) = _; decide +kernel)
def sp_wait (K : PySem.W.Frag) : Sp := fun vs H Q _ => ∃ (F : Hp) (A : CAd) (rows : List Row) (lp : Nat → Nat) (q dx pp : Addr) (s : Nat) (ts : List Addr) (P : Pd) (r : Nat ⊕ Way), vs = [.ref q] ∧
  CodeH K F F A rows ∧ TW rows lp ∧ Ex F H ∧ s < rows.length ∧ WS K F H A q dx pp s ts r P ∧ Q (.bl (match r with | .inl n => FcM.asks ((tabOf rows).nd n) | .inr _ => false)) H
def sp_Walker___init__ (K : PySem.W.Frag) : Sp := fun vs H Q _ => ∃ (F : Hp) (A : CAd) (rows : List Row) (lp : Nat → Nat) (q dx : Addr) (k e : Nat), vs = [.ref q, .ref A.p] ∧ H q = some (.ins (He.ga K "Walker") dx []) ∧
  CodeH K F F A rows ∧ TW rows lp ∧ Ex F H ∧ F q = none ∧ FcM.Ent (tabOf rows) k 0 e ∧ ∀ (H' : Hp) (pp : Addr), Gr (fun b => b = q) F H F H' → H pp = none → WS K F H' A q dx pp e [] (.inl e) [] → Q .non H'
def bV (x : Bool) : V := .int (if x then 1 else 0)
def sp_do (K : PySem.W.Frag) : Sp := fun vs H Q _ => ∃ (F : Hp) (A : CAd) (rows : List Row) (lp : Nat → Nat) (q dx pp : Addr) (s : Nat) (ts : List Addr) (x : Bool) (P : Pd) (r : Nat ⊕ Way) (P' : Pd), vs = [.ref q, bV x] ∧
  CodeH K F F A rows ∧ TW rows lp ∧ Ex F H ∧ s < rows.length ∧ WS K F H A q dx pp s ts (.inl s) P ∧ FcM.Dp1 (tabOf rows) s x P r P' ∧ (∀ w', r = .inr w' → FcM.WOk 0 w') ∧ P.length ≤ 1000 ∧
  ∀ (F' H' : Hp) (s' : Nat) (ts' : List Addr), GrW q pp F H F' H' → WS K F' H' A q dx pp s' ts' r P' → Q .non H'
theorem pos_quiet {r : Row} {l : Nat} (h : SV (l : Int) r.d) : posW (FcM.wayN (ndOf r)) := by
  cases e : ndOf r with
  | brk k => exact (nd_brk h e).1
  | cnt k => exact (nd_cnt h e).1
  | _ => exact trivial
section
variable {P : Program} {w : World} {h : Heap} {K : PySem.W.Frag} {mg : Str → Option Value} {base : Heap}
abbrev N_Walker_is_waiting : List Str := ["self"]
theorem sc_Walker_is_waiting : FnScope N_Walker_is_waiting ["self"] (defScope sd_Walker_is_waiting) := ⟨rfl, rfl, rfl, by decide +kernel, rfl, by decide +kernel, by decide +kernel⟩
theorem ok_Walker_is_waiting (T : Tx w h K mg) : Ok P w K mg base 1 ("Walker", some "is_waiting") ["self"] (sp_wait K) := by
  obtain ⟨fd, F⟩ := F_Walker_is_waiting T
  refine ⟨fd, ?_, F.bindsN (fun _ _ _ _ _ _ us hl => match us, hl with | [_], _ => rfl), F.kp⟩
  refine F.ok sc_Walker_is_waiting (fun vs H Q E h => ?_) (fun cdv A outer s H vs Q E hr h => ?_)
  · obtain ⟨F, A, rows, lp, q, dx, pp, s, ts, P0, r, rfl, C, W, xF, hs, ws, Qq⟩ := h
    rfl
  · obtain ⟨F, A, rows, lp, q, dx, pp, s, ts, P0, r, rfl, C, W, xF, hs, ws, Qq⟩ := h
    refine ⟨_, PSs.nox (pss_one (ps_ret (pe_and (pe_cmpR op_isN (pe_fld (pv 0) rfl) pe_non (nomark _)) (pe_one (pe_cmpR op_in_seq (pe_ix ix_list (pe_fld (pe_fld (pv 0) rfl) rfl) (pe_fld (pv 0) rfl) (fun _ _ => rfl)) (pe_glob (v := .ref (He.ga K "ASKING_code")) rfl (g_ASKING_code T) rfl) (by rfl)))))), ?_⟩
    obtain ⟨vs, C1, _⟩ := C.ex (Evl.Ex.refl _) xF
    obtain ⟨rw, hr⟩ := row_at hs
    obtain ⟨c, a⟩ := at_of W C1 hr
    have hnd := tab_nd hr
    cases r with
    | inl n =>
      have e := ws.sp n rfl
      subst e
      refine ⟨_, rfl, q, _, _, _, _, rfl, ws.ob, c_Walker T, na_Walker_end T, fl_Walker_end _ _ _ _, rfl, _, rfl, itT rfl ?_⟩
      refine ⟨_, rfl, q, _, _, _, _, rfl, ws.ob, c_Walker T, na_Walker_source T, fl_Walker_source _ _ _ _, A.p, _, _, _, _, rfl, C1.ob, c_Code T, na_Code_kinds T, fl_Code_kinds _ _ _ _ _, _, rfl, q, _, _, _, _, rfl, ws.ob, c_Walker T, na_Walker_spot T, fl_Walker_spot _ _ _ _, A.a2, _, _, _, rfl, rfl, Evl.sq_of C1.h2, atI_nat a.kd, He.ga K "ASKING_code", _, rfl, .inr (t_ASKING_code T _), rfl, flat_strs kAsk, ?_⟩
      replace Qq : Q (.bl (FcM.asks ((tabOf rows).nd n))) H := Qq
      rw [hnd, ← ask_kind, ← inV_strs] at Qq
      exact Qq
    | inr w' =>
      exact ⟨_, rfl, q, _, _, _, _, rfl, ws.ob, c_Walker T, na_Walker_end T, fl_Walker_end _ _ _ _, rfl, _, rfl, itF rfl Qq⟩
abbrev N_Walker___init__ : List Str := ["self", "code"]
theorem sc_Walker___init__ : FnScope N_Walker___init__ ["self", "code"] (defScope sd_Walker___init__) := ⟨rfl, rfl, rfl, by decide +kernel, rfl, by decide +kernel, by decide +kernel⟩
theorem ok_Walker___init__ (T : Tx w h K mg) : Ok P w K mg base 2 ("Walker", some "__init__") ["self", "code"] (sp_Walker___init__ K) := by
  obtain ⟨fd, F⟩ := F_Walker___init__ T
  refine ⟨fd, ?_, F.bindsN (fun _ _ _ _ _ _ us hl => match us, hl with | [_, _], _ => rfl), F.kp⟩
  obtain ⟨fd_Code_entry_of, G_Code_entry_of, bi_Code_entry_of, kp_Code_entry_of⟩ := ok_Code_entry_of (P := P) (base := base) T
  refine F.ok sc_Walker___init__ (fun vs H Q E h => ?_) (fun cdv A outer s H vs Q E hr h => ?_)
  · obtain ⟨F, A, rows, lp, q, dx, k, e, rfl, hq, C, W, xF, hf, he, Qq⟩ := h
    rfl
  · obtain ⟨F, A, rows, lp, q, dx, k, e, rfl, hq, C, W, xF, hf, he, Qq⟩ := h
    refine ⟨_, PSs.nox (pss_cons (ps_fld (pv 0) (pv 1) rfl) (pss_cons (ps_fld (pv 0) (pe_lst pa_nil) rfl) (pss_cons (ps_fld (pv 0) (pe_meth (pv 1) (c_Code T) (me_Code_entry_of T) G_Code_entry_of (hr.mono (by decide)) bi_Code_entry_of .nil passF (pa_cons pe_int pa_nil)) rfl) (pss_one (ps_fld (pv 0) pe_non rfl))))), ?_⟩
    refine ⟨_, rfl, _, rfl, q, _, dx, _, rfl, hq, c_Walker T, na_Walker_source T, (by simp), ?_⟩
    rw [fi_Walker_0]
    generalize e1 : upd _ q _ = H1
    obtain ⟨s1, o1⟩ := set_of e1
    clear e1
    refine ⟨sz (by simp), ?_⟩
    intro p2 n2
    generalize e2 : upd _ p2 _ = H2
    obtain ⟨x2, s2, o2⟩ := new_of e2 n2
    clear e2
    refine ⟨_, rfl, q, _, dx, _, rfl, x2 _ _ s1, c_Walker T, na_Walker_pendings T, (by simp), ?_⟩
    rw [fi_Walker_1]
    generalize e3 : upd _ q _ = H3
    obtain ⟨s3, o3⟩ := set_of e3
    clear e3
    have hp2 : p2 ≠ q := fun z => by rw [z, s1] at n2; cases n2
    have xF1 : Ex F H1 := set_ex xF hf o1
    have xF3 : Ex F H3 := set_ex (xF1.trans x2) hf o3
    obtain ⟨vs, C3, _⟩ := C.ex (Evl.Ex.refl _) xF3
    refine ⟨_, rfl, A.p, _, _, rfl, C3.ob, fm_Code_entry_of _ _ _ _ _, ?_⟩
    refine ⟨F, A, rows, lp, 0, k, e, rfl, C, W, xF3, W.wf.ne, he, fun H4 x4 => ⟨_, rfl, q, _, dx, _, rfl, x4 _ _ s3, c_Walker T, na_Walker_spot T, (by simp), ?_⟩⟩
    rw [fi_Walker_2]
    generalize e5 : upd _ q _ = H5
    obtain ⟨s5, o5⟩ := set_of e5
    clear e5
    refine ⟨_, rfl, q, _, dx, _, rfl, s5, c_Walker T, na_Walker_end T, (by simp), ?_⟩
    rw [fi_Walker_3]
    generalize e6 : upd _ q _ = H6
    obtain ⟨s6, o6⟩ := set_of e6
    clear e6
    have s6' : H6 q = some (.ins (He.ga K "Walker") dx (fl_Walker (.ref A.p) (.ref p2) (.int (e : Int)) .non)) := s6
    have g1 : Gr (fun b => b = q) F H F H1 := Gr.set xF rfl hf o1
    have g3 : Gr (fun b => b = q) F H F H3 := (g1.trans (Gr.new xF1 x2)).trans (Gr.set (xF1.trans x2) rfl hf o3)
    have g5 : Gr (fun b => b = q) F H F H5 := (g3.trans (Gr.new xF3 x4)).trans (Gr.set (xF3.trans x4) rfl hf o5)
    have g6 : Gr (fun b => b = q) F H F H6 := g5.trans (Gr.set g5.fh rfl hf o6)
    refine Qq H6 p2 g6 (by rw [← o1 p2 hp2]; exact n2) ⟨s6', fun n h => (Sum.inl.inj h).symm, ?_, .nil, hf, ?_, hp2.symm⟩
    · rw [o6 p2 hp2, o5 p2 hp2]
      refine x4 _ _ ?_
      rw [o3 p2 hp2]
      exact s2
    · exact ex_none xF1 n2
abbrev N_Walker_do_place : List Str := ["self", "answer", "place", "kind"]
theorem sc_Walker_do_place : FnScope N_Walker_do_place ["self", "answer"] (defScope sd_Walker_do_place) := ⟨rfl, rfl, rfl, by decide +kernel, rfl, by decide +kernel, by decide +kernel⟩
theorem ok_Walker_do_place (T : Tx w h K mg) : Ok P w K mg base 3 ("Walker", some "do_place") ["self", "answer"] (sp_do K) := by
  obtain ⟨fd, F⟩ := F_Walker_do_place T
  refine ⟨fd, ?_, F.bindsN (fun _ _ _ _ _ _ us hl => match us, hl with | [_, _], _ => rfl), F.kp⟩
  obtain ⟨fd_way_of, G_way_of, bi_way_of, kp_way_of⟩ := ok_way_of (P := P) (base := base) T
  obtain ⟨fd_Code_entry_of, G_Code_entry_of, bi_Code_entry_of, kp_Code_entry_of⟩ := ok_Code_entry_of (P := P) (base := base) T
  obtain ⟨fd_Walker_leave, G_Walker_leave, bi_Walker_leave, kp_Walker_leave⟩ := ok_Walker_leave (P := P) (base := base) T
  refine F.ok sc_Walker_do_place (fun vs H Q E h => ?_) (fun cdv A outer s H vs Q E hr h => ?_)
  · obtain ⟨F, A, rows, lp, q, dx, pp, s, ts, x, P0, r, P', rfl, C, W, xF, hs, ws, dp, hend, hP, Qq⟩ := h
    rfl
  · obtain ⟨F, A, rows, lp, q, dx, pp, s, ts, x, P0, r, P', rfl, C, W, xF, hs, ws, dp, hend, hP, Qq⟩ := h
    refine ⟨_, PSs.nox (pss_cons (ps_par rfl sc_Walker_do_place.nd (i := 2) (j := 3) rfl rfl (by decide) rfl rfl (pa_cons (pe_fld (pv 0) rfl) (pa_cons (pe_ix ix_list (pe_fld (pe_fld (pv 0) rfl) rfl) (pe_fld (pv 0) rfl) (fun _ _ => rfl)) pa_nil)) (by rfl)) (pss_one (ps_if (PW.pt (pw_or (pt_cmpR op_eq (pv 3) pe_str (nomark _)) (pw_or1 (PW.pt (pw_and (pt_cmpR op_eq (pv 3) pe_str (nomark _)) (pw_and1 (pt_cmpR op_eq (pv 1) pe_int (nomark _)))))))) (pss_one (ps_fld (pv 0) (pe_meth (pe_fld (pv 0) rfl) (c_Code T) (me_Code_entry_of T) G_Code_entry_of (hr.mono (by decide)) bi_Code_entry_of .nil passF (pa_cons (pe_ix ix_list (pe_ix ix_list (pe_fld (pe_fld (pv 0) rfl) rfl) (pv 2) (fun _ _ => rfl)) (pe_ifExp (pt_cmpR op_eq (pv 3) pe_str (nomark _)) (pv 1) pe_int) (fun _ _ => rfl)) pa_nil)) rfl)) (pss_one (ps_if (pt_cmpR op_eq (pv 3) pe_str (nomark _)) (pss_one (ps_expr (pe_meth (pv 0) (c_Walker T) (me_Walker_leave T) G_Walker_leave (hr.mono (by decide)) bi_Walker_leave .nil passF (pa_cons (pv 2) (pa_cons (pe_glob (v := .ref (He.ga K "NORMAL_runs")) rfl (g_NORMAL_runs T) rfl) pa_nil))))) (pss_one (ps_if (pt_cmpR op_eq (pv 3) pe_str (nomark _)) (pss_one (ps_expr (pe_meth (pv 0) (c_Walker T) (me_Walker_leave T) G_Walker_leave (hr.mono (by decide)) bi_Walker_leave .nil passF (pa_cons (pv 2) (pa_cons (pe_ifExp (pt_cmpR op_eq (pv 1) pe_int (nomark _)) (pe_glob (v := .ref (He.ga K "RAISE_runs")) rfl (g_RAISE_runs T) rfl) (pe_glob (v := .ref (He.ga K "NORMAL_runs")) rfl (g_NORMAL_runs T) rfl)) pa_nil))))) (pss_one (ps_if (pt_cmpR op_eq (pv 3) pe_str (nomark _)) (pss_one (ps_expr (pe_meth (pv 0) (c_Walker T) (me_Walker_leave T) G_Walker_leave (hr.mono (by decide)) bi_Walker_leave .nil passF (pa_cons (pv 2) (pa_cons (pe_ix ix_tup (pe_bm0 PySem.F.plainAttrs_list PySem.F.slot_list_pop PySem.F.type_list_pop mt_pop (pe_fld (pv 0) rfl)) pe_int (fun _ _ => rfl)) pa_nil))))) (pss_one (ps_expr (pe_meth (pv 0) (c_Walker T) (me_Walker_leave T) G_Walker_leave (hr.mono (by decide)) bi_Walker_leave .nil passF (pa_cons (pv 2) (pa_cons (pe_call G_way_of (hr.mono (by decide)) rfl (g_way_of T) kp_way_of bi_way_of .nil passF (pa_cons (pe_fld (pv 0) rfl) (pa_cons (pv 2) pa_nil))) pa_nil)))))))))))))), ?_⟩
    obtain ⟨vs, C1, _⟩ := C.ex (Evl.Ex.refl _) xF
    obtain ⟨rw, hr⟩ := row_at hs
    obtain ⟨c, a⟩ := at_of W C1 hr
    have hnd := tab_nd hr
    have hsv := (W.sv s rw hr).1
    refine ⟨_, rfl, q, _, _, _, _, rfl, ws.ob, c_Walker T, na_Walker_spot T, fl_Walker_spot _ _ _ _, _, rfl, q, _, _, _, _, rfl, ws.ob, c_Walker T, na_Walker_source T, fl_Walker_source _ _ _ _, A.p, _, _, _, _, rfl, C1.ob, c_Code T, na_Code_kinds T, fl_Code_kinds _ _ _ _ _, _, rfl, q, _, _, _, _, rfl, ws.ob, c_Walker T, na_Walker_spot T, fl_Walker_spot _ _ _ _, A.a2, _, _, _, rfl, rfl, Evl.sq_of C1.h2, atI_nat a.kd, _, _, rfl, ?_⟩
    cases dp with
    | @iff aa bb kk ee _ hd he =>
        rw [hnd] at hd
        rw [hd]
        have hch : rw.ch = [aa, bb] := by rw [(W.sv s rw hr).2.2, hd] <;> rfl
        have sqc := Evl.sq_of (K := K) a.ch
        rw [hch] at sqc
        have hcc : (if x then bb else aa) < rows.length := (W.wf.dn s hs _ (by rw [hnd, hd]; cases x <;> simp [Node.ch])).2.1
        have hat : atI (intsV [aa, bb]) (if x then 1 else 0) = some (.int ((if x then bb else aa : Nat) : Int)) := by cases x <;> rfl
        refine ⟨_, rfl, rfl, _, rfl, itT rfl ?_⟩
        refine ⟨_, rfl, q, _, _, _, _, rfl, ws.ob, c_Walker T, na_Walker_source T, fl_Walker_source _ _ _ _, A.p, _, _, rfl, C1.ob, fm_Code_entry_of _ _ _ _ _, _, rfl, q, _, _, _, _, rfl, ws.ob, c_Walker T, na_Walker_source T, fl_Walker_source _ _ _ _, A.p, _, _, _, _, rfl, C1.ob, c_Code T, na_Code_children T, fl_Code_children _ _ _ _ _, _, rfl, A.a5, _, _, _, rfl, rfl, Evl.sq_of C1.h5, atI_nat a.cs, ?_⟩
        refine ⟨_, rfl, rfl, _, rfl, itT rfl ⟨_, rfl, c, _, _, _, rfl, rfl, sqc, hat, ?_⟩⟩
        refine ⟨F, A, rows, lp, _, kk, ee, rfl, C, W, xF, hcc, he, fun H9 x9 => ⟨_, rfl, q, _, dx, _, rfl, x9 _ _ ws.ob, c_Walker T, na_Walker_spot T, (by simp [fl_Walker]), ?_⟩⟩
        rw [fp_Walker_spot]
        obtain ⟨g2, w2⟩ := fin_spot (Gr.refl xF) ws x9 ee
        exact Qq F _ ee ts g2 w2
    | @whlT aa kk ee _ hd hx he =>
        rw [hnd] at hd
        rw [hd]
        subst hx
        have hch : rw.ch = [aa] := by rw [(W.sv s rw hr).2.2, hd] <;> rfl
        have sqc := Evl.sq_of (K := K) a.ch
        rw [hch] at sqc
        have hcc : aa < rows.length := (W.wf.dn s hs _ (by rw [hnd, hd]; simp [Node.ch])).2.1
        refine ⟨_, rfl, rfl, _, rfl, itF rfl ?_⟩
        refine ⟨_, rfl, rfl, _, rfl, itT rfl ?_⟩
        refine ⟨_, rfl, rfl, _, rfl, itT rfl ?_⟩
        refine ⟨_, rfl, q, _, _, _, _, rfl, ws.ob, c_Walker T, na_Walker_source T, fl_Walker_source _ _ _ _, A.p, _, _, rfl, C1.ob, fm_Code_entry_of _ _ _ _ _, _, rfl, q, _, _, _, _, rfl, ws.ob, c_Walker T, na_Walker_source T, fl_Walker_source _ _ _ _, A.p, _, _, _, _, rfl, C1.ob, c_Code T, na_Code_children T, fl_Code_children _ _ _ _ _, _, rfl, A.a5, _, _, _, rfl, rfl, Evl.sq_of C1.h5, atI_nat a.cs, ?_⟩
        refine ⟨_, rfl, rfl, _, rfl, itF rfl ⟨c, _, _, _, rfl, rfl, sqc, at0, ?_⟩⟩
        refine ⟨F, A, rows, lp, _, kk, ee, rfl, C, W, xF, hcc, he, fun H9 x9 => ⟨_, rfl, q, _, dx, _, rfl, x9 _ _ ws.ob, c_Walker T, na_Walker_spot T, (by simp [fl_Walker]), ?_⟩⟩
        rw [fp_Walker_spot]
        obtain ⟨g2, w2⟩ := fin_spot (Gr.refl xF) ws x9 ee
        exact Qq F _ ee ts g2 w2
    | @whlF aa _ _ _ hd hx lv =>
        rw [hnd] at hd
        rw [hd]
        subst hx
        refine ⟨_, rfl, rfl, _, rfl, itF rfl ?_⟩
        refine ⟨_, rfl, rfl, _, rfl, itT rfl ?_⟩
        refine ⟨_, rfl, rfl, _, rfl, itF rfl ?_⟩
        refine ⟨_, rfl, rfl, _, rfl, itT rfl ?_⟩
        refine ⟨_, rfl, q, _, _, rfl, ws.ob, fm_Walker_leave _ _ _ _, _, rfl, ?_⟩
        exact ⟨F, A, rows, lp, q, dx, pp, s, ts, s, .nrm, _, P0, r, P', rfl, C, W, xF, hs, nrm_dp T F, trivial, ws, lv, hend, hP, Qq⟩
    | @call _ _ _ hd lv =>
        rw [hnd] at hd
        rw [hd]
        refine ⟨_, rfl, rfl, _, rfl, itF rfl ?_⟩
        refine ⟨_, rfl, rfl, _, rfl, itF rfl ?_⟩
        refine ⟨_, rfl, rfl, _, rfl, itF rfl ?_⟩
        refine ⟨_, rfl, rfl, _, rfl, itT rfl ?_⟩
        refine ⟨_, rfl, q, _, _, rfl, ws.ob, fm_Walker_leave _ _ _ _, _, rfl, ?_⟩
        cases x with
        | true =>
          refine ⟨_, rfl, rfl, _, rfl, itT rfl ?_⟩
          exact ⟨F, A, rows, lp, q, dx, pp, s, ts, s, .rai, _, P0, r, P', rfl, C, W, xF, hs, rai_dp T F, trivial, ws, lv, hend, hP, Qq⟩
        | false =>
          refine ⟨_, rfl, rfl, _, rfl, itF rfl ?_⟩
          exact ⟨F, A, rows, lp, q, dx, pp, s, ts, s, .nrm, _, P0, r, P', rfl, C, W, xF, hs, nrm_dp T F, trivial, ws, lv, hend, hP, Qq⟩
    | @fin aa bb qq ww _ _ _ hd lv =>
        rw [hnd] at hd
        rw [hd]
        refine ⟨_, rfl, rfl, _, rfl, itF rfl ?_⟩
        refine ⟨_, rfl, rfl, _, rfl, itF rfl ?_⟩
        refine ⟨_, rfl, rfl, _, rfl, itF rfl ?_⟩
        refine ⟨_, rfl, rfl, _, rfl, itF rfl ?_⟩
        refine ⟨_, rfl, rfl, _, rfl, itT rfl ?_⟩
        refine ⟨_, rfl, q, _, _, rfl, ws.ob, fm_Walker_leave _ _ _ _, _, rfl, ?_⟩
        obtain ⟨ts2, tx, vx, rfl, pa2, ht, hdx, hpx⟩ := ws.pa.pop
        refine ⟨_, rfl, q, _, _, _, _, rfl, ws.ob, c_Walker T, na_Walker_pendings T, fl_Walker_pendings _ _ _ _, Or.inl ⟨rfl, _, Evl.sq_of ws.pl⟩, pp, _, .ref tx, rfl, rfl, ws.pl, (by simp), ?_⟩
        generalize e1 : upd _ pp _ = H1
        obtain ⟨s1, o1⟩ := set_of e1
        clear e1
        have gr1 : GrW q pp F H F H1 := Gr.set xF (.inr rfl) ws.fp o1
        have ws2 : WS K F H1 A q dx pp s ts2 (.inl s) _ := ⟨by rw [o1 q ws.ne]; exact ws.ob, ws.sp, by rw [s1]; simp, pa2, ws.fq, ws.fp, ws.ne⟩
        refine ⟨tx, _, _, _, rfl, rfl, Evl.st_of (gr1.fh _ _ ht), at1, ?_⟩
        exact ⟨F, A, rows, lp, q, dx, pp, s, ts2, s, ww, _, _, r, P', rfl, C, W, gr1.fh, hs, hdx, hpx, ws2, lv, hend, (by simp at hP; omega), fun F' H' s' ts' g w => Qq F' H' s' ts' (gr1.trans g) w⟩
    | @quiet _ _ _ hq lv =>
        rw [hnd] at hq lv
        have kn : kindN (ndOf rw) ≠ "if" ∧ kindN (ndOf rw) ≠ "while" ∧ kindN (ndOf rw) ≠ "call" ∧ kindN (ndOf rw) ≠ "final" := by
          cases e : ndOf rw <;> rw [e] at hq <;> first | exact hq.elim | exact ⟨(by decide +kernel), (by decide +kernel), (by decide +kernel), (by decide +kernel)⟩ | exact ⟨(show ("break" : Str) ≠ _ by decide +kernel), (show ("break" : Str) ≠ _ by decide +kernel), (show ("break" : Str) ≠ _ by decide +kernel), (show ("break" : Str) ≠ _ by decide +kernel)⟩ | exact ⟨(show ("continue" : Str) ≠ _ by decide +kernel), (show ("continue" : Str) ≠ _ by decide +kernel), (show ("continue" : Str) ≠ _ by decide +kernel), (show ("continue" : Str) ≠ _ by decide +kernel)⟩
        have nk : ∀ {k : Str}, kindN (ndOf rw) ≠ k → decide (V.str (kindN (ndOf rw)) = V.str k) = false := fun h => decide_eq_false fun z => h (V.str.inj z)
        refine ⟨_, rfl, rfl, _, rfl, itF (nk kn.1) ?_⟩
        refine ⟨_, rfl, rfl, _, rfl, itF (nk kn.2.1) ?_⟩
        refine ⟨_, rfl, rfl, _, rfl, itF (nk kn.2.1) ?_⟩
        refine ⟨_, rfl, rfl, _, rfl, itF (nk kn.2.2.1) ?_⟩
        refine ⟨_, rfl, rfl, _, rfl, itF (nk kn.2.2.2) ?_⟩
        refine ⟨_, rfl, q, _, _, rfl, ws.ob, fm_Walker_leave _ _ _ _, _, rfl, ?_⟩
        refine ⟨_, rfl, q, _, _, _, _, rfl, ws.ob, c_Walker T, na_Walker_source T, fl_Walker_source _ _ _ _, _, rfl, ?_⟩
        refine ⟨F, A, rows, lp, s, rw, rfl, C, W, xF, hr, hq, fun v F' H' g hv => ?_⟩
        have gw : GrW q pp F H F' H' := ⟨g.ff, g.fh, fun b h1 h2 _ => g.nw b h1 h2 (fun z => z), fun b o e _ => g.kp b o e (fun z => z)⟩
        have ws2 := ws.ext g.ff (fun b o e => g.kp b o e (fun z => z)) (fun b h1 h2 => g.nw b h1 h2 (fun z => z))
        exact ⟨F', A, rows, lp, q, dx, pp, s, ts, s, _, v, P0, r, P', rfl, C.ex g.ff g.ff, W, g.fh, hs, hv, pos_quiet hsv, ws2, lv, hend, hP, fun F2 H2 s' ts' g2 w2 => Qq F2 H2 s' ts' (gw.trans g2) w2⟩
end

end Fc

set_option maxRecDepth 100000
set_option maxHeartbeats 4000000
namespace Fc
open PySem PySem.Spec PyProof.Rows L2 FcR
open Evl (Ex)
open FcM (Way Node Tab Pd)
/-- a walker in a run that comes to cf -/
structure Rn (K : PySem.W.Frag) (F H : Hp) (A : CAd) (rows : List Row) (lp : Nat → Nat) (q dx pp : Addr) (bits : List Bool) (cf : FcM.Cfg) (N : Nat) (s : Nat) (ts : List Addr) (r : Nat ⊕ Way) (P : Pd) (u : Nat) (v : List Nat) : Prop where
  c : CodeH K F F A rows
  w : TW rows lp
  x : Ex F H
  sl : ∀ n, r = .inl n → n < rows.length
  ws : WS K F H A q dx pp s ts r P
  re : FcM.Re (tabOf rows) bits 1000 N ⟨r, P, u, v⟩ cf
  nv : cf.vs.length ≤ 90000
  en : ∀ w, cf.at_ = .inr w → FcM.WOk 0 w
theorem Rn.endOk {K : PySem.W.Frag} {F H : Hp} {A : CAd} {rows : List Row} {lp : Nat → Nat} {q dx pp : Addr} {bits : List Bool} {cf : FcM.Cfg} {N s : Nat} {ts : List Addr} {r : Nat ⊕ Way} {P : Pd} {u : Nat} {v : List Nat} (R : Rn K F H A rows lp q dx pp bits cf N s ts r P u v)
    {M : Nat} {r' : Nat ⊕ Way} {P' : Pd} {u' : Nat} {v' : List Nat} (h : FcM.Re (tabOf rows) bits 1000 M ⟨r', P', u', v'⟩ cf) : ∀ w', r' = .inr w' → FcM.WOk 0 w' := fun w' e => by
  subst e
  have z := h.ended
  exact R.en w' (by rw [z])
def sp_go_on (K : PySem.W.Frag) : Sp := fun vs H Q _ => ∃ (F : Hp) (A : CAd) (rows : List Row) (lp : Nat → Nat) (q dx pp : Addr) (bits : List Bool) (cf : FcM.Cfg) (N : Nat) (s : Nat) (ts : List Addr) (r : Nat ⊕ Way) (P : Pd) (u : Nat) (v : List Nat), vs = [.ref q] ∧ Rn K F H A rows lp q dx pp bits cf N s ts r P u v ∧
  ∀ (F' H' : Hp) (s' : Nat) (ts' : List Addr) (r' : Nat ⊕ Way) (P' : Pd) (N' : Nat) (ds : List Nat) (p : Addr), GrW q pp F H F' H' → Rn K F' H' A rows lp q dx pp bits cf N' s' ts' r' P' u (v ++ ds) → N' ≤ N → (∀ n, r' = .inl n → FcM.asks ((tabOf rows).nd n) = true) → H p = none → F' p = none → H' p = some (.lst (intsV ds)) → Q (.ref p) H'
section
variable {P : Program} {w : World} {h : Heap} {K : PySem.W.Frag} {mg : Str → Option Value} {base : Heap}
abbrev N_Walker_go_on : List Str := ["self", "done"]
theorem sc_Walker_go_on : FnScope N_Walker_go_on ["self"] (defScope sd_Walker_go_on) := ⟨rfl, rfl, rfl, by decide +kernel, rfl, by decide +kernel, by decide +kernel⟩
theorem ok_Walker_go_on (T : Tx w h K mg) : Ok P w K mg base 4 ("Walker", some "go_on") ["self"] (sp_go_on K) := by
  obtain ⟨fd, F⟩ := F_Walker_go_on T
  refine ⟨fd, ?_, F.bindsN (fun _ _ _ _ _ _ us hl => match us, hl with | [_], _ => rfl), F.kp⟩
  obtain ⟨fd_Walker_do_place, G_Walker_do_place, bi_Walker_do_place, kp_Walker_do_place⟩ := ok_Walker_do_place (P := P) (base := base) T
  obtain ⟨fd_Walker_is_waiting, G_Walker_is_waiting, bi_Walker_is_waiting, kp_Walker_is_waiting⟩ := ok_Walker_is_waiting (P := P) (base := base) T
  refine F.ok sc_Walker_go_on (fun vs H Q E h => ?_) (fun cdv A outer s H vs Q E hr h => ?_)
  · obtain ⟨F, A, rows, lp, q, dx, pp, bits, cf, N, s, ts, r, P0, u, v, rfl, R, Qq⟩ := h
    rfl
  · obtain ⟨F, A, rows, lp, q, dx, pp, bits, cf, N, s, ts, r, P0, u, v, rfl, R, Qq⟩ := h
    refine ⟨_, PSs.nox (pss_cons (ps_set (i := 1) sc_Walker_go_on.nd rfl (Or.inl rfl) (pe_lst pa_nil)) (pss_cons (ps_while PassesOwn.never (PW.pt (pw_and (pt_cmpR op_isN (pe_fld (pv 0) rfl) pe_non (nomark _)) (pw_and1 (pt_not (pt_val (pe_meth0 (pv 0) (c_Walker T) (me_Walker_is_waiting T) G_Walker_is_waiting (hr.mono (by decide)) bi_Walker_is_waiting .nil passF)))))) (pss_cons (ps_expr (pe_bm PySem.F.plainAttrs_list PySem.F.slot_list_append PySem.F.type_list_append mt_append (pv 1) (pa_cons (pe_fld (pv 0) rfl) pa_nil))) (pss_one (ps_expr (pe_meth (pv 0) (c_Walker T) (me_Walker_do_place T) G_Walker_do_place (hr.mono (by decide)) bi_Walker_do_place .nil passF (pa_cons pe_int pa_nil)))))) (pss_one (ps_ret (pv 1))))), ?_⟩
    refine ⟨sz (by simp), ?_⟩
    intro p1 n1
    generalize e1 : upd _ p1 _ = H1
    obtain ⟨x1, s1, o1⟩ := new_of e1 n1
    clear e1
    have pq : p1 ≠ q := fun z => by rw [z, R.ws.ob] at n1; cases n1
    have ppp : p1 ≠ pp := fun z => by rw [z, R.ws.pl] at n1; cases n1
    refine ⟨fun m σ' H' => ∃ (F2 : Hp) (s2 : Nat) (ts2 : List Addr) (r2 : Nat ⊕ Way) (P2 : Pd) (ds : List Nat), σ' = [some (.ref q), some (.ref p1)] ∧ GrW q pp F H F2 H' ∧ Rn K F2 H' A rows lp q dx pp bits cf m s2 ts2 r2 P2 u (v ++ ds) ∧ m ≤ N ∧ F2 p1 = none ∧ H' p1 = some (.lst (intsV ds)),
      ⟨N, F, s, ts, r, P0, [], rfl, Gr.new R.x x1, ⟨R.c, R.w, R.x.trans x1, R.sl, R.ws.new x1, by rw [List.append_nil]; exact R.re, R.nv, R.en⟩, Nat.le_refl _, ex_none R.x n1, s1⟩, ?_⟩
    rintro m σ' H' ⟨F2, s2, ts2, r2, P2, ds, rfl, gr, R2, hm, fp, hl⟩
    cases r2 with
    | inr w' =>
      refine ⟨_, rfl, q, _, _, _, _, rfl, R2.ws.ob, c_Walker T, na_Walker_end T, fl_Walker_end _ _ _ _, rfl, _, rfl, itF rfl ?_⟩
      exact ⟨_, rfl, Qq F2 H' s2 ts2 _ P2 m ds p1 gr R2 hm (fun n e => nomatch e) n1 fp hl⟩
    | inl n =>
      obtain rfl : s2 = n := (R2.ws.sp n rfl).symm
      refine ⟨_, rfl, q, _, _, _, _, rfl, R2.ws.ob, c_Walker T, na_Walker_end T, fl_Walker_end _ _ _ _, rfl, _, rfl, itT rfl ?_⟩
      refine ⟨_, rfl, q, _, _, rfl, R2.ws.ob, fm_Walker_is_waiting _ _ _ _, ?_⟩
      refine ⟨F2, A, rows, lp, q, dx, pp, s2, ts2, P2, .inl s2, rfl, R2.c, R2.w, R2.x, R2.sl s2 rfl, R2.ws, _, rfl, ?_⟩
      cases ha : FcM.asks ((tabOf rows).nd s2) with
      | true => exact itF (show (!FcM.asks ((tabOf rows).nd s2)) = false by rw [ha]; rfl) ⟨_, rfl, Qq F2 H' s2 ts2 _ P2 m ds p1 gr R2 hm (fun n' e => by cases e; exact ha) n1 fp hl⟩
      | false =>
        refine itT (show (!FcM.asks ((tabOf rows).nd s2)) = true by rw [ha]; rfl) ?_
        obtain ⟨M, r3, P3, rfl, d, re3⟩ := R2.re.quiet ha
        have hlen : ds.length < 90000 := by
          have := re3.vs
          have z := R2.nv
          simp at this
          omega
        refine ⟨_, fun σ' H' h => ⟨M, Nat.lt_succ_self _, h⟩, ?_⟩
        refine ⟨_, rfl, Or.inl ⟨rfl, _, Evl.sq_of hl⟩, _, rfl, q, _, _, _, _, rfl, R2.ws.ob, c_Walker T, na_Walker_spot T, fl_Walker_spot _ _ _ _, p1, _, _, rfl, rfl, hl, szl (by unfold intsV; rw [List.length_map]; omega), ?_⟩
        generalize e5 : upd _ p1 _ = H5
        obtain ⟨s5, o5⟩ := set_of e5
        clear e5
        have g5 : GrW q pp F H F2 H5 := ⟨gr.ff, set_ex gr.fh fp o5, gr.nw, fun b o e hb => by rw [o5 b (ne_of_none e n1)]; exact gr.kp b o e hb⟩
        have ws5 : WS K F2 H5 A q dx pp s2 ts2 (.inl s2) P2 := ⟨by rw [o5 q pq.symm]; exact R2.ws.ob, R2.ws.sp, by rw [o5 pp ppp.symm]; exact R2.ws.pl, R2.ws.pa, R2.ws.fq, R2.ws.fp, R2.ws.ne⟩
        refine ⟨_, rfl, q, _, _, rfl, ws5.ob, fm_Walker_do_place _ _ _ _, ?_⟩
        refine ⟨F2, A, rows, lp, q, dx, pp, s2, ts2, false, P2, r3, P3, rfl, R2.c, R2.w, g5.fh, R2.sl s2 rfl, ws5, d, R2.endOk re3, R2.re.pdl, fun F3 H3 s3 ts3 g3 w3 => ?_⟩
        have s5' : H5 p1 = some (.lst (intsV (ds ++ [s2]))) := by rw [s5]; unfold intsV; rw [List.map_append] <;> rfl
        have nM : ¬ (p1 = q ∨ p1 = pp) := fun z => z.elim pq ppp
        have hs3 := FcM.dp_lt R2.w.wf d (R2.sl s2 rfl)
        refine ⟨F3, s3, ts3, r3, P3, ds ++ [s2], rfl, g5.trans g3, ⟨R2.c.ex g3.ff g3.ff, R2.w, g3.fh, hs3, w3, by rw [← List.append_assoc]; exact re3, R2.nv, R2.en⟩, by omega, g3.nw p1 (by rw [s5']; exact fun z => nomatch z) fp nM, g3.kp p1 _ s5' nM⟩
end

end Fc

set_option maxRecDepth 100000
set_option maxHeartbeats 4000000
namespace Fc
open PySem PySem.Spec PyProof.Rows L2 FcR
open Evl (Ex)
open FcM (Way Node Tab Pd)
def endT (cf : FcM.Cfg) : Str := match cf.at_ with
  | .inl _ => "wait"
  | .inr w => endS w
def sp_answer (K : PySem.W.Frag) : Sp := fun vs H Q _ => ∃ (F : Hp) (A : CAd) (rows : List Row) (lp : Nat → Nat) (q dx pp : Addr) (bits : List Bool) (cf : FcM.Cfg) (N : Nat) (s : Nat) (ts : List Addr) (P : Pd) (u : Nat) (v : List Nat) (x : Bool), vs = [.ref q, bV x] ∧ Rn K F H A rows lp q dx pp bits cf N s ts (.inl s) P u v ∧
  FcM.asks ((tabOf rows).nd s) = true ∧ bits[u]? = some x ∧
  ∀ (F' H' : Hp) (s' : Nat) (ts' : List Addr) (r' : Nat ⊕ Way) (P' : Pd) (N' : Nat) (ds : List Nat) (p : Addr), GrW q pp F H F' H' → Rn K F' H' A rows lp q dx pp bits cf N' s' ts' r' P' (u + 1) (v ++ ds) → N' < N → (∀ n, r' = .inl n → FcM.asks ((tabOf rows).nd n) = true) → H p = none → F' p = none → H' p = some (.lst (intsV ds)) → Q (.ref p) H'
def sp_check_answers (K : PySem.W.Frag) : Sp := fun vs H Q _ => ∃ (a : Addr) (bits : List Bool), vs = [.ref a] ∧ SqL K H a (bits.map bV) ∧ bits.length ≤ 1000 ∧ ∀ H', Ex H H' → Q .non H'
def bD (x : Bool) : PyData := .int (if x then 1 else 0)
theorem dpA_bits {K : PySem.W.Frag} {H : Hp} : ∀ bits : List Bool, DpAll K H (bits.map bV) (bits.map bD)
  | [] => .nil
  | _ :: l => .cons (.int _) (dpA_bits l)
section
variable {P : Program} {w : World} {h : Heap} {K : PySem.W.Frag} {mg : Str → Option Value} {base : Heap}
abbrev N_Walker_answer : List Str := ["self", "value", "done"]
theorem sc_Walker_answer : FnScope N_Walker_answer ["self", "value"] (defScope sd_Walker_answer) := ⟨rfl, rfl, rfl, by decide +kernel, rfl, by decide +kernel, by decide +kernel⟩
theorem ok_Walker_answer (T : Tx w h K mg) : Ok P w K mg base 5 ("Walker", some "answer") ["self", "value"] (sp_answer K) := by
  obtain ⟨fd, F⟩ := F_Walker_answer T
  refine ⟨fd, ?_, F.bindsN (fun _ _ _ _ _ _ us hl => match us, hl with | [_, _], _ => rfl), F.kp⟩
  obtain ⟨fd_Walker_do_place, G_Walker_do_place, bi_Walker_do_place, kp_Walker_do_place⟩ := ok_Walker_do_place (P := P) (base := base) T
  obtain ⟨fd_Walker_go_on, G_Walker_go_on, bi_Walker_go_on, kp_Walker_go_on⟩ := ok_Walker_go_on (P := P) (base := base) T
  refine F.ok sc_Walker_answer (fun vs H Q E h => ?_) (fun cdv A outer s H vs Q E hr h => ?_)
  · obtain ⟨F, A, rows, lp, q, dx, pp, bits, cf, N, s, ts, P0, u, v, x, rfl, R, ha, hu, Qq⟩ := h
    rfl
  · obtain ⟨F, A, rows, lp, q, dx, pp, bits, cf, N, s, ts, P0, u, v, x, rfl, R, ha, hu, Qq⟩ := h
    refine ⟨_, PSs.nox (pss_cons (ps_set (i := 2) sc_Walker_answer.nd rfl (Or.inl rfl) (pe_lst (pa_cons (pe_fld (pv 0) rfl) pa_nil))) (pss_cons (ps_expr (pe_meth (pv 0) (c_Walker T) (me_Walker_do_place T) G_Walker_do_place (hr.mono (by decide)) bi_Walker_do_place .nil passF (pa_cons (pv 1) pa_nil))) (pss_one (ps_ret (pe_op op_cat (pv 2) (pe_meth0 (pv 0) (c_Walker T) (me_Walker_go_on T) G_Walker_go_on (hr.mono (by decide)) bi_Walker_go_on .nil passF)))))), ?_⟩
    refine ⟨_, rfl, q, _, _, _, _, rfl, R.ws.ob, c_Walker T, na_Walker_spot T, fl_Walker_spot _ _ _ _, sz (by simp), ?_⟩
    intro p1 n1
    generalize e1 : upd _ p1 _ = H1
    obtain ⟨x1, s1, o1⟩ := new_of e1 n1
    clear e1
    have pq : p1 ≠ q := fun z => by rw [z, R.ws.ob] at n1; cases n1
    have ppp : p1 ≠ pp := fun z => by rw [z, R.ws.pl] at n1; cases n1
    have nM : ¬ (p1 = q ∨ p1 = pp) := fun z => z.elim pq ppp
    obtain ⟨M, r3, P3, rfl, d, re3⟩ := R.re.asked ha hu
    have ws1 := R.ws.new x1
    have fp1 := ex_none R.x n1
    refine ⟨_, rfl, q, _, _, rfl, ws1.ob, fm_Walker_do_place _ _ _ _, _, rfl, ?_⟩
    refine ⟨F, A, rows, lp, q, dx, pp, s, ts, x, P0, r3, P3, rfl, R.c, R.w, R.x.trans x1, R.sl s rfl, ws1, d, R.endOk re3, R.re.pdl, fun F3 H3 s3 ts3 g3 w3 => ?_⟩
    have R3 : Rn K F3 H3 A rows lp q dx pp bits cf M s3 ts3 r3 P3 (u + 1) (v ++ [s]) := ⟨R.c.ex g3.ff g3.ff, R.w, g3.fh, FcM.dp_lt R.w.wf d (R.sl s rfl), w3, re3, R.nv, R.en⟩
    have g13 : GrW q pp F H F3 H3 := (Gr.new R.x x1).trans g3
    have d3 : H3 p1 = some (.lst [.int (s : Int)]) := g3.kp p1 _ s1 nM
    have fp3 : F3 p1 = none := g3.nw p1 (by rw [s1]; exact fun z => nomatch z) fp1 nM
    refine ⟨_, rfl, _, rfl, q, _, _, rfl, w3.ob, fm_Walker_go_on _ _ _ _, ?_⟩
    refine ⟨F3, A, rows, lp, q, dx, pp, bits, cf, M, s3, ts3, r3, P3, u + 1, v ++ [s], rfl, R3, fun F4 H4 s4 ts4 r4 P4 N4 ds p2 g4 R4 hN hA n2 f2 l2 => ?_⟩
    have d4 : H4 p1 = some (.lst [.int (s : Int)]) := g4.kp p1 _ d3 nM
    have hds : ds.length ≤ 90000 := by
      have z := R4.re.vs
      have y := R4.nv
      simp at z
      omega
    refine ⟨p1, p2, _, _, rfl, rfl, d4, l2, sz (by unfold intsV; simp; omega), ?_⟩
    intro p5 n5
    generalize e5 : upd _ p5 _ = H5
    obtain ⟨x5, s5, o5⟩ := new_of e5 n5
    clear e5
    have n5' : H p5 = none := by
      cases e : H p5 with
      | none => rfl
      | some o =>
        by_cases hM : p5 = q ∨ p5 = pp
        · rcases hM with z | z
          · rw [z, R4.ws.ob] at n5; cases n5
          · rw [z, R4.ws.pl] at n5; cases n5
        · rw [(g13.trans g4).kp p5 o e hM] at n5; cases n5
    refine Qq F4 H5 s4 ts4 r4 P4 N4 (s :: ds) p5 ((g13.trans g4).trans (Gr.new g4.fh x5)) ⟨R4.c, R4.w, g4.fh.trans x5, R4.sl, R4.ws.new x5, ?_, R4.nv, R4.en⟩ (by omega) hA n5' (ex_none g4.fh n5) ?_
    · have e : v ++ s :: ds = (v ++ [s]) ++ ds := by simp
      rw [e]
      exact R4.re
    · rw [s5]
      rfl
abbrev N_check_answers : List Str := ["answers", "at", "value"]
theorem sc_check_answers : FnScope N_check_answers ["answers"] (defScope sd_check_answers) := ⟨rfl, rfl, rfl, by decide +kernel, rfl, by decide +kernel, by decide +kernel⟩
theorem ok_check_answers (T : Tx w h K mg) : Ok P w K mg base 3 ("check_answers", none) ["answers"] (sp_check_answers K) := by
  obtain ⟨fd, F⟩ := F_check_answers T
  refine ⟨fd, ?_, F.bindsN (fun _ _ _ _ _ _ us hl => match us, hl with | [_], _ => rfl), F.kp⟩
  obtain ⟨fd_is_between, G_is_between, bi_is_between, kp_is_between⟩ := ok_is_between (P := P) (base := base) T
  obtain ⟨tm_MOST_ANSWERS, m_MOST_ANSWERS⟩ := i_MOST_ANSWERS T
  refine F.ok sc_check_answers (fun vs H Q E h => ?_) (fun cdv A outer s H vs Q E hr h => ?_)
  · obtain ⟨a, bits, rfl, hs, hl, Qq⟩ := h
    rfl
  · obtain ⟨a, bits, rfl, hs, hl, Qq⟩ := h
    refine ⟨_, PSs.nox (pss_cons (ps_if (PW.pt (pw_or (pt_not (pt_val (pe_callB call_isi rfl (fr_isinstance T) b_isinstance (pa_cons (pv 0) (pa_cons (pe_bltn (v := .ty "list") rfl (fr_list T) b_list rfl) pa_nil))))) (pw_or1 (pt_cmpR op_gt (pe_callB call_len_seq rfl (fr_len T) b_len (pa_cons (pv 0) pa_nil)) (pe_glob (v := .int 1000) rfl m_MOST_ANSWERS ⟨_, rfl⟩) (nomark _))))) (pss_one ps_never) pss_nil) (pss_one (ps_for PassesOwn.never rfl (pi_enum rfl (fr_enumerate T) (pa_cons (pv 0) pa_nil)) (pg_tup rfl (pgs_cons (pg_name (i := 1) sc_check_answers.nd rfl (Or.inl rfl)) (pgs_cons (pg_name (i := 2) sc_check_answers.nd rfl (Or.inl rfl)) pgs_nil))) (pss_one (ps_if (pt_not (pt_val (pe_call G_is_between (hr.mono (by decide)) rfl (g_is_between T) kp_is_between bi_is_between .nil passF (pa_cons (pv 2) (pa_cons pe_int (pa_cons pe_int pa_nil)))))) (pss_one ps_never) pss_nil))))), ?_⟩
    have hd : Dp K H (.ref a) (.list (bits.map bD)) := .lst hs (dpA_bits bits)
    refine ⟨_, rfl, .ref a, .ty "list", _, _, _, rfl, .ty _, dp_ty hd, k_list _, _, rfl, itF rfl ?_⟩
    refine ⟨_, rfl, a, _, rfl, .inl hs, _, _, rfl, rfl, _, rfl, itF (decide_eq_false (by rw [List.length_map]; omega)) ?_⟩
    refine ⟨_, rfl, a, _, rfl, hs, ?_⟩
    refine for_it (walk_enum (xs := bits.map bV)) (fun i σ' H' => Ex H H' ∧ ∃ o1 o2, σ' = [some (.ref a), o1, o2]) ?_ ?_ ?_ ?_
    · exact ⟨Evl.Ex.refl _, _, _, rfl⟩
    · exact fun i σ' H' _ ⟨e, _⟩ => Evl.ex_l e hs
    · rintro i v σ' H1 H2 hi ⟨e1, o1, o2, rfl⟩ ⟨tp, u1, u2, rfl, n2, rfl, z1, z2⟩
      cases z1
      obtain ⟨x, rfl⟩ : ∃ x, u2 = bV x := by
        replace z2 : (bits.map bV)[i]? = some u2 := z2
        obtain ⟨x, _, e⟩ := List.mem_map.mp (List.mem_of_getElem? z2)
        exact ⟨x, e.symm⟩
      have e2 : Ex H (upd H1 tp (.tup [.int (i : Nat), bV x])) := e1.trans (exu (Evl.Ex.refl _) n2)
      refine ⟨tp, _, rfl, Evl.st_of upd_same, rfl, _, _, rfl, _, _, rfl, rfl, ?_⟩
      refine ⟨_, rfl, bV x, 0, 1, rfl, .inl ⟨_, rfl, _, rfl, itF (by cases x <;> rfl) ⟨e2, _, _, rfl⟩⟩⟩
    · rintro σ' H' ⟨e, _⟩
      exact Qq H' e
end

end Fc

set_option maxRecDepth 100000
set_option maxHeartbeats 4000000
namespace Fc
open PySem PySem.Spec PyProof.Rows L2 FcR
open Evl (Ex)
open FcM (Way Node Tab Pd)
def sp_Run___init__ (K : PySem.W.Frag) : Sp := fun vs H Q _ => ∃ (q dx a : Addr) (xs : List V) (v1 v2 : V), vs = [.ref q, .ref a, v1, v2] ∧ H q = some (.ins (He.ga K "Run") dx []) ∧ H a = some (.lst xs) ∧ a ≠ q ∧ xs.length ≤ 100000 ∧
  ∀ (H' : Hp) (p : Addr), H p = none → (∀ b o, H b = some o → b ≠ q → H' b = some o) → H' q = some (.ins (He.ga K "Run") dx (fl_Run (.ref p) v1 v2)) → H' p = some (.lst xs) → Q .non H'
def sp_run (K : PySem.W.Frag) : Sp := fun vs H Q _ => ∃ (F : Hp) (A : CAd) (rows : List Row) (lp : Nat → Nat) (a : Addr) (bits : List Bool) (k e N : Nat) (cf : FcM.Cfg), vs = [.ref A.p, .ref a] ∧ CodeH K F F A rows ∧ TW rows lp ∧ Ex F H ∧ SqL K F a (bits.map bV) ∧ bits.length ≤ 1000 ∧
  FcM.Ent (tabOf rows) k 0 e ∧ FcM.Re (tabOf rows) bits 1000 N ⟨.inl e, [], 0, []⟩ cf ∧ cf.vs.length ≤ 90000 ∧ (∀ w, cf.at_ = .inr w → FcM.WOk 0 w) ∧
  ∀ (H' : Hp) (q dx p : Addr), Ex H H' → H q = none → H p = none → H' q = some (.ins (He.ga K "Run") dx (fl_Run (.ref p) (.int (cf.us : Int)) (.str (endT cf)))) → H' p = some (.lst (intsV cf.vs)) → Q (.ref q) H'
section
variable {P : Program} {w : World} {h : Heap} {K : PySem.W.Frag} {mg : Str → Option Value} {base : Heap}
abbrev N_Run___init__ : List Str := ["self", "visited", "used", "end"]
theorem sc_Run___init__ : FnScope N_Run___init__ ["self", "visited", "used", "end"] (defScope sd_Run___init__) := ⟨rfl, rfl, rfl, by decide +kernel, rfl, by decide +kernel, by decide +kernel⟩
theorem okF_Run___init__ (T : Tx w h K mg) : ∃ fd, FnOk P w K mg base (CX P w) 1 (He.fAd K ("Run", some "__init__")) fd ["self", "visited", "used", "end"] (sp_Run___init__ K) ∧ Binds K fd ["self", "visited", "used", "end"] [] ∧ PySem.W.keepIn K (.ref (He.fAd K ("Run", some "__init__"))) = true ∧ FunD K "__init__" "Run.__init__" (defArgs sd_Run___init__) (defBody sd_Run___init__) (defScope sd_Run___init__) [] [] (He.fAd K ("Run", some "__init__")) fd := by
  obtain ⟨fd, F⟩ := F_Run___init__ T
  refine ⟨fd, ?_, F.bindsN (fun _ _ _ _ _ _ us hl => match us, hl with | [_, _, _, _], _ => rfl), F.kp, F⟩
  refine F.ok sc_Run___init__ (fun vs H Q E h => ?_) (fun cdv A outer s H vs Q E hr h => ?_)
  · obtain ⟨q, dx, a, xs, v1, v2, rfl, hq, ha, hne, hlen, Qq⟩ := h
    rfl
  · obtain ⟨q, dx, a, xs, v1, v2, rfl, hq, ha, hne, hlen, Qq⟩ := h
    refine ⟨_, PSs.nox (pss_cons (ps_fld (pv 0) (pe_callTy call_list_of rfl (fr_list T) b_list (pa_cons (pv 1) pa_nil)) rfl) (pss_cons (ps_fld (pv 0) (pv 2) rfl) (pss_one (ps_fld (pv 0) (pv 3) rfl)))), ?_⟩
    refine ⟨_, rfl, a, _, rfl, .inl (Evl.sq_of ha), ?_⟩
    intro p1 n1
    generalize e1 : upd _ p1 _ = H1
    obtain ⟨x1, s1, o1⟩ := new_of e1 n1
    clear e1
    have pq : p1 ≠ q := fun z => by rw [z, hq] at n1; cases n1
    refine ⟨_, rfl, q, _, dx, _, rfl, x1 _ _ hq, c_Run T, na_Run_visited T, (by simp), ?_⟩
    rw [fi_Run_0]
    generalize e2 : upd _ q _ = H2
    obtain ⟨s2, o2⟩ := set_of e2
    clear e2
    refine ⟨_, rfl, _, rfl, q, _, dx, _, rfl, s2, c_Run T, na_Run_used T, (by simp), ?_⟩
    rw [fi_Run_1]
    generalize e3 : upd _ q _ = H3
    obtain ⟨s3, o3⟩ := set_of e3
    clear e3
    refine ⟨_, rfl, _, rfl, q, _, dx, _, rfl, s3, c_Run T, na_Run_end T, (by simp), ?_⟩
    rw [fi_Run_2]
    generalize e4 : upd _ q _ = H4
    obtain ⟨s4, o4⟩ := set_of e4
    clear e4
    refine Qq H4 p1 n1 (fun b o e hb => ?_) s4 ?_
    · rw [o4 b hb, o3 b hb, o2 b hb]
      exact x1 _ _ e
    · rw [o4 p1 pq, o3 p1 pq, o2 p1 pq]
      exact s1
theorem ok_Run___init__ (T : Tx w h K mg) : Ok P w K mg base 1 ("Run", some "__init__") ["self", "visited", "used", "end"] (sp_Run___init__ K) := by
  obtain ⟨fd, a, b, c, _⟩ := okF_Run___init__ (P := P) (base := base) T
  exact ⟨fd, a, b, c⟩
abbrev N_run : List Str := ["code", "answers", "walker", "places", "used"]
theorem sc_run : FnScope N_run ["code", "answers"] (defScope sd_run) := ⟨rfl, rfl, rfl, by decide +kernel, rfl, by decide +kernel, by decide +kernel⟩
theorem okF_run (T : Tx w h K mg) : ∃ fd, FnOk P w K mg base (CX P w) 6 (He.fAd K ("run", none)) fd ["code", "answers"] (sp_run K) ∧ Binds K fd ["code", "answers"] [] ∧ PySem.W.keepIn K (.ref (He.fAd K ("run", none))) = true ∧ FunD K "run" "run" (defArgs sd_run) (defBody sd_run) (defScope sd_run) [] [] (He.fAd K ("run", none)) fd := by
  obtain ⟨fd, F⟩ := F_run T
  refine ⟨fd, ?_, F.bindsN (fun _ _ _ _ _ _ us hl => match us, hl with | [_, _], _ => rfl), F.kp, F⟩
  obtain ⟨fd_check_answers, G_check_answers, bi_check_answers, kp_check_answers⟩ := ok_check_answers (P := P) (base := base) T
  obtain ⟨fd_Run___init__, G_Run___init__, bi_Run___init__, kp_Run___init__⟩ := ok_Run___init__ (P := P) (base := base) T
  obtain ⟨fd_Walker___init__, G_Walker___init__, bi_Walker___init__, kp_Walker___init__⟩ := ok_Walker___init__ (P := P) (base := base) T
  obtain ⟨fd_Walker_answer, G_Walker_answer, bi_Walker_answer, kp_Walker_answer⟩ := ok_Walker_answer (P := P) (base := base) T
  obtain ⟨fd_Walker_go_on, G_Walker_go_on, bi_Walker_go_on, kp_Walker_go_on⟩ := ok_Walker_go_on (P := P) (base := base) T
  refine F.ok sc_run (fun vs H Q E h => ?_) (fun cdv A outer s H vs Q E hr h => ?_)
  · obtain ⟨F, A, rows, lp, a, bits, k, e, N, cf, rfl, C, W, xF, hs, hl, he, re, hv, hok, Qq⟩ := h
    rfl
  · obtain ⟨F, A, rows, lp, a, bits, k, e, N, cf, rfl, C, W, xF, hs, hl, he, re, hv, hok, Qq⟩ := h
    refine ⟨_, PSs.nox (pss_cons (ps_expr (pe_call G_check_answers (hr.mono (by decide)) rfl (g_check_answers T) kp_check_answers bi_check_answers .nil passF (pa_cons (pv 1) pa_nil))) (pss_cons (ps_set (i := 2) sc_run.nd rfl (Or.inl rfl) (pe_make (mk_Walker T) G_Walker___init__ (hr.mono (by decide)) rfl (g_Walker T) bi_Walker___init__ .nil passF (pa_cons (pv 0) pa_nil))) (pss_cons (ps_par rfl sc_run.nd (i := 3) (j := 4) rfl rfl (by decide) rfl rfl (pa_cons (pe_meth0 (pv 2) (c_Walker T) (me_Walker_go_on T) G_Walker_go_on (hr.mono (by decide)) bi_Walker_go_on .nil passF) (pa_cons pe_int pa_nil)) (by rfl)) (pss_cons (ps_while PassesOwn.never (PW.pt (pw_and (pt_cmpR op_isN (pe_fld (pv 2) rfl) pe_non (nomark _)) (pw_and1 (pt_cmpR op_lt (pv 4) (pe_callB call_len_seq rfl (fr_len T) b_len (pa_cons (pv 1) pa_nil)) (nomark _))))) (pss_cons (ps_expr (pe_bm PySem.F.plainAttrs_list PySem.F.slot_list_extend PySem.F.type_list_extend mt_extend (pv 3) (pa_cons (pe_meth (pv 2) (c_Walker T) (me_Walker_answer T) G_Walker_answer (hr.mono (by decide)) bi_Walker_answer .nil passF (pa_cons (pe_ix ix_list (pv 1) (pv 4) (fun _ _ => rfl)) pa_nil)) pa_nil))) (pss_one (ps_set (i := 4) sc_run.nd rfl (Or.inl rfl) (pe_op op_add (pv 4) pe_int))))) (pss_one (ps_ret (pe_make (mk_Run T) G_Run___init__ (hr.mono (by decide)) rfl (g_Run T) bi_Run___init__ .nil passF (pa_cons (pv 3) (pa_cons (pv 4) (pa_cons (pe_ifExp (pt_cmpR op_isN (pe_fld (pv 2) rfl) pe_non (nomark _)) pe_str (pe_fld (pv 2) rfl)) pa_nil)))))))))), ?_⟩
    refine ⟨_, rfl, a, bits, rfl, Evl.ex_l xF hs, hl, fun H1 x1 => ?_⟩
    refine ⟨_, rfl, fun q dx nq nd ne => ?_⟩
    generalize e2 : upd (upd _ dx _) q _ = H2
    obtain ⟨x2, hq2⟩ := make_of e2 nq nd
    clear e2
    have xF2 := (xF.trans x1).trans x2
    have fq : F q = none := ex_none (xF.trans x1) nq
    refine ⟨F, A, rows, lp, q, dx, k, e, rfl, hq2, C, W, xF2, fq, he, fun H3 pp g3 npp ws3 => ⟨rfl, ?_⟩⟩
    have R3 : Rn K F H3 A rows lp q dx pp bits cf N e [] (.inl e) [] 0 [] := ⟨C, W, g3.fh, fun n z => by cases z; exact FcM.ent_lt W.wf he W.wf.ne, ws3, re, hv, hok⟩
    refine ⟨_, rfl, q, _, _, rfl, ws3.ob, fm_Walker_go_on _ _ _ _, ?_⟩
    refine ⟨F, A, rows, lp, q, dx, pp, bits, cf, N, e, [], .inl e, [], 0, [], rfl, R3, fun F4 H4 s4 ts4 r4 P4 N4 ds p4 g4 R4 hN hA n4 f4 l4 => ⟨_, _, rfl, ?_⟩⟩
    have nHq : H q = none := ex_none x1 nq
    have nHp : H pp = none := ex_none x1 (ex_none x2 npp)
    have xH3 : Ex H H3 := fun b o hb => g3.kp b o (x2 b o (x1 b o hb)) (ne_of_none hb nHq)
    refine ⟨fun m σ' H' => ∃ (F5 : Hp) (s5 : Nat) (ts5 : List Addr) (r5 : Nat ⊕ Way) (P5 : Pd) (u5 : Nat) (v5 : List Nat), σ' = [some (.ref A.p), some (.ref a), some (.ref q), some (.ref p4), some (.int (u5 : Int))] ∧ GrW q pp F H3 F5 H' ∧ Rn K F5 H' A rows lp q dx pp bits cf m s5 ts5 r5 P5 u5 v5 ∧ (∀ n, r5 = .inl n → FcM.asks ((tabOf rows).nd n) = true) ∧ F5 p4 = none ∧ H' p4 = some (.lst (intsV v5)),
      ⟨N4, F4, s4, ts4, r4, P4, 0, ds, rfl, g4, R4, hA, f4, l4⟩, ?_⟩
    rintro m σ' H5 ⟨F5, s5, ts5, r5, P5, u5, v5, rfl, g5, R5, hA5, f5, l5⟩
    have p4q : p4 ≠ q := fun z => by rw [z, R3.ws.ob] at n4; cases n4
    have p4p : p4 ≠ pp := fun z => by rw [z, R3.ws.pl] at n4; cases n4
    have xH5 : Ex H H5 := fun b o hb => g5.kp b o (xH3 b o hb) (fun z => z.elim (ne_of_none hb nHq) (ne_of_none hb nHp))
    have lv5 : v5.length ≤ 90000 := Nat.le_trans R5.re.vs R5.nv
    have nHp4 : H p4 = none := by
      cases e6 : H p4 with
      | none => rfl
      | some o => rw [g3.kp p4 o (x2 p4 o (x1 p4 o e6)) (ne_of_none e6 nHq)] at n4; cases n4
    have back : ∀ b, H5 b = none → H b = none := fun b hb => by
      cases e6 : H b with
      | none => rfl
      | some o => rw [xH5 b o e6] at hb; cases hb
    have sq5 := Evl.ex_l (g5.ff.trans g5.fh) hs
    cases r5 with
    | inr w' =>
      refine ⟨_, rfl, q, _, _, _, _, rfl, R5.ws.ob, c_Walker T, na_Walker_end T, fl_Walker_end _ _ _ _, rfl, _, rfl, itF rfl ?_⟩
      have hcf := R5.re.ended
      refine ⟨_, rfl, _, rfl, _, rfl, q, _, _, _, _, rfl, R5.ws.ob, c_Walker T, na_Walker_end T, fl_Walker_end _ _ _ _, rfl, _, rfl, itF rfl ?_⟩
      refine ⟨_, rfl, q, _, _, _, _, rfl, R5.ws.ob, c_Walker T, na_Walker_end T, fl_Walker_end _ _ _ _, ?_⟩
      intro q9 dx9 nq9 nd9 ne9
      generalize e9 : upd (upd _ dx9 _) q9 _ = H9
      obtain ⟨x9, hq9⟩ := make_of e9 nq9 nd9
      clear e9
      refine ⟨q9, dx9, p4, intsV v5, _, _, rfl, hq9, x9 _ _ l5, (fun z => by rw [z, nq9] at l5; cases l5), (by unfold intsV; rw [List.length_map]; omega), fun H' p np kp hq' hp' => ⟨rfl, ?_⟩⟩
      refine Qq H' q9 dx9 p (fun b o hb => kp b o (x9 b o (xH5 b o hb)) (ne_of_none (xH5 b o hb) nq9)) (back q9 nq9) (back p (ex_none x9 np)) ?_ ?_
      · rw [hq', hcf] <;> rfl
      · rw [hp', hcf]
    | inl n =>
      obtain rfl : s5 = n := (R5.ws.sp n rfl).symm
      refine ⟨_, rfl, q, _, _, _, _, rfl, R5.ws.ob, c_Walker T, na_Walker_end T, fl_Walker_end _ _ _ _, rfl, _, rfl, itT rfl ?_⟩
      refine ⟨_, rfl, _, rfl, a, _, rfl, .inl sq5, _, _, rfl, rfl, _, rfl, ite_of (fun h6 => ?_) (fun h6 => ?_)⟩
      · have hlt : u5 < bits.length := by
          have z := of_decide_eq_true h6
          rw [List.length_map] at z
          omega
        have hb : bits[u5]? = some bits[u5] := List.getElem?_eq_getElem hlt
        have hbV : (bits.map bV)[u5]? = some (bV bits[u5]) := by rw [List.getElem?_map, hb] <;> rfl
        refine ⟨_, fun σ' H' h => h, ?_⟩
        refine ⟨_, rfl, Or.inl ⟨rfl, _, Evl.sq_of l5⟩, _, rfl, q, _, _, rfl, R5.ws.ob, fm_Walker_answer _ _ _ _, _, rfl, _, rfl, a, _, _, _, rfl, rfl, sq5, atI_nat hbV, ?_⟩
        refine ⟨F5, A, rows, lp, q, dx, pp, bits, cf, m, s5, ts5, P5, u5, v5, bits[u5], rfl, R5, hA5 s5 rfl, hb, fun F6 H6 s6 ts6 r6 P6 N6 ds6 p6 g6 R6 hN6 hA6 n6 f6 l6 => ?_⟩
        have nM4 : ¬ (p4 = q ∨ p4 = pp) := fun z => z.elim p4q p4p
        have l56 := g6.kp p4 _ l5 nM4
        have f46 : F6 p4 = none := g6.nw p4 (by rw [l5]; exact fun z => nomatch z) f5 nM4
        have lv6 : (v5 ++ ds6).length ≤ 90000 := Nat.le_trans R6.re.vs R6.nv
        refine ⟨p4, p6, _, _, rfl, rfl, l56, l6, sz (by unfold intsV; simp at lv6; simp; omega), ?_⟩
        generalize e7 : upd _ p4 _ = H7
        obtain ⟨s7, o7⟩ := set_of e7
        clear e7
        refine ⟨_, rfl, _, _, rfl, rfl, ?_⟩
        refine ⟨N6, hN6, F6, s6, ts6, r6, P6, u5 + 1, v5 ++ ds6, rfl, ?_, ?_, hA6, f46, ?_⟩
        · have g56 := g5.trans g6
          exact ⟨g56.ff, set_ex g56.fh f46 o7, g56.nw, fun b o e hb => by rw [o7 b (ne_of_none e n4)]; exact g56.kp b o e hb⟩
        · exact ⟨R6.c, R6.w, set_ex R6.x f46 o7, R6.sl, ⟨by rw [o7 q p4q.symm]; exact R6.ws.ob, R6.ws.sp, by rw [o7 pp p4p.symm]; exact R6.ws.pl, R6.ws.pa, R6.ws.fq, R6.ws.fp, R6.ws.ne⟩, R6.re, R6.nv, R6.en⟩
        · rw [s7]
          unfold intsV
          rw [List.map_append]
      · have hb : bits[u5]? = none := by
          have z := of_decide_eq_false h6
          rw [List.length_map] at z
          exact List.getElem?_eq_none (by omega)
        have hcf := R5.re.waits (hA5 s5 rfl) hb
        refine ⟨_, rfl, _, rfl, _, rfl, q, _, _, _, _, rfl, R5.ws.ob, c_Walker T, na_Walker_end T, fl_Walker_end _ _ _ _, rfl, _, rfl, itT rfl ?_⟩
        intro q9 dx9 nq9 nd9 ne9
        generalize e9 : upd (upd _ dx9 _) q9 _ = H9
        obtain ⟨x9, hq9⟩ := make_of e9 nq9 nd9
        clear e9
        refine ⟨q9, dx9, p4, intsV v5, _, _, rfl, hq9, x9 _ _ l5, (fun z => by rw [z, nq9] at l5; cases l5), (by unfold intsV; rw [List.length_map]; omega), fun H' p np kp hq' hp' => ⟨rfl, ?_⟩⟩
        refine Qq H' q9 dx9 p (fun b o hb => kp b o (x9 b o (xH5 b o hb)) (ne_of_none (xH5 b o hb) nq9)) (back q9 nq9) (back p (ex_none x9 np)) ?_ ?_
        · rw [hq', hcf] <;> rfl
        · rw [hp', hcf]
theorem ok_run (T : Tx w h K mg) : Ok P w K mg base 6 ("run", none) ["code", "answers"] (sp_run K) := by
  obtain ⟨fd, a, b, c, _⟩ := okF_run (P := P) (base := base) T
  exact ⟨fd, a, b, c⟩
end

end Fc

set_option maxRecDepth 100000
set_option maxHeartbeats 4000000
namespace FcM
/-! ### how much is visited -/
section
variable {t : Tab} {bits : List Bool}
theorem loopF_mono {n : Nat} {P : Pd} {body : Nat → List Nat → Rs} (hb : ∀ u v, v.length ≤ (body u v).2.2.length) : ∀ f u v, v.length ≤ (loopF bits n P body f u v).2.2.length := by
  intro f
  induction f with
  | zero => exact fun u v => Nat.le_refl _
  | succ f ih =>
    intro u v
    unfold loopF
    split
    · exact Nat.le_refl _
    · simp
    · have h := hb (u + 1) (v ++ [n])
      rcases hr : body (u + 1) (v ++ [n]) with ⟨w, u', v'⟩
      rw [hr] at h
      simp at h
      cases w with
      | inl x => simp; omega
      | inr w =>
        dsimp only
        split
        · have := ih u' v'
          omega
        · simp; omega
theorem seqF_mono {go : Nat → Nat → List Nat → Rs} (hg : ∀ c u v, v.length ≤ (go c u v).2.2.length) : ∀ (cs : List Nat) (r : Rs), r.2.2.length ≤ (seqF go cs r).2.2.length
  | [], r => Nat.le_refl _
  | c :: cs, (w, u, v) => by
    unfold seqF
    split
    · exact Nat.le_trans (hg c u v) (seqF_mono hg cs (go c u v))
    · exact seqF_mono hg cs (w, u, v)
theorem finF_mono (n : Nat) (w : Way) (r : Rs) : r.2.2.length ≤ (finF n w r).2.2.length := by
  obtain ⟨x, u, v⟩ := r
  cases x with
  | inl x => exact Nat.le_refl _
  | inr w2 =>
    show v.length ≤ (if w2 = .nrm then ((.inr w, u, v ++ [n]) : Rs) else (.inr w2, u, v)).2.2.length
    by_cases hw : w2 = .nrm
    · rw [if_pos hw]; simp
    · rw [if_neg hw]; exact Nat.le_refl _
theorem goF_mono : ∀ h n P u v, v.length ≤ (goF t bits h n P u v).2.2.length := by
  intro h
  induction h with
  | zero => exact fun _ _ _ _ => Nat.le_refl _
  | succ h ih =>
    intro n P u v
    unfold goF
    split
    · exact loopF_mono (fun u v => ih _ P u v) _ u v
    · rename_i a b _
      have h1 := ih a P u v
      rcases hr : goF t bits h a P u v with ⟨w, u', v'⟩
      rw [hr] at h1
      cases w with
      | inl x => exact h1
      | inr w => exact Nat.le_trans h1 (Nat.le_trans (ih b (P ++ [(n, w)]) u' v') (finF_mono n w _))
    · split
      · exact Nat.le_refl _
      · simp
    · split
      · exact Nat.le_refl _
      · exact Nat.le_trans (by simp) (ih _ P (u + 1) (v ++ [n]))
    · rename_i l _
      exact seqF_mono (go := fun c => goF t bits h c P) (fun c u v => ih c P u v) l (.inr .nrm, u, v)
    · rename_i a b _
      have h1 := ih a P u v
      rcases hr : goF t bits h a P u v with ⟨w, u', v'⟩
      rw [hr] at h1
      split
      · rename_i u1 v1 heq
        cases heq
        exact Nat.le_trans h1 (ih b P _ _)
      · exact h1
    · simp
/-- the weight of a part: how many statements it has -/
inductive Wg (t : Tab) : Nat → Nat → Prop
  | mk {n : Nat} (wt : Nat → Nat) (r : ∀ c ∈ (t.nd n).ch, Wg t (wt c) c) : Wg t (1 + ((t.nd n).ch.map wt).sum) n
def Bd (w u : Nat) (v : List Nat) (r : Rs) : Prop := u ≤ r.2.1 ∧ r.2.2.length ≤ v.length + w * (r.2.1 - u + 1)
theorem Bd.mono {w w' u : Nat} {v : List Nat} {r : Rs} (h : Bd w u v r) (e : w ≤ w') : Bd w' u v r := ⟨h.1, Nat.le_trans h.2 (Nat.add_le_add_left (Nat.mul_le_mul_right _ e) _)⟩
theorem Bd.seq {w1 w2 u u1 u2 : Nat} {v v1 v2 : List Nat} {x y : Wt} (a : Bd w1 u v (x, u1, v1)) (b : Bd w2 u1 v1 (y, u2, v2)) : Bd (w1 + w2) u v (y, u2, v2) := by
  obtain ⟨a1, a2⟩ := a
  obtain ⟨b1, b2⟩ := b
  dsimp only at a1 a2 b1 b2
  refine ⟨Nat.le_trans a1 b1, ?_⟩
  dsimp only
  have e1 : w1 * (u1 - u + 1) ≤ w1 * (u2 - u + 1) := Nat.mul_le_mul_left _ (by omega)
  have e2 : w2 * (u2 - u1 + 1) ≤ w2 * (u2 - u + 1) := Nat.mul_le_mul_left _ (by omega)
  rw [Nat.add_mul]
  omega
theorem loopF_bd {n w : Nat} {P : Pd} {body : Nat → List Nat → Rs} (hb : ∀ u v, Bd w u v (body u v)) : ∀ f u v, u ≤ (loopF bits n P body f u v).2.1 ∧ (loopF bits n P body f u v).2.2.length ≤ v.length + (1 + w) * ((loopF bits n P body f u v).2.1 - u) := by
  intro f
  induction f with
  | zero => exact fun u v => ⟨Nat.le_refl _, Nat.le_add_right _ _⟩
  | succ f ih =>
    intro u v
    unfold loopF
    split
    · exact ⟨Nat.le_refl _, Nat.le_add_right _ _⟩
    · refine ⟨Nat.le_succ _, ?_⟩
      simp
    · have h := hb (u + 1) (v ++ [n])
      rcases hr : body (u + 1) (v ++ [n]) with ⟨x, u', v'⟩
      rw [hr] at h
      obtain ⟨h1, h2⟩ := h
      dsimp only at h1 h2
      have e0 : u' - (u + 1) + 1 = u' - u := by omega
      rw [e0, List.length_append] at h2
      simp at h2
      have e1 : (1 + w) * (u' - u) = (u' - u) + w * (u' - u) := by rw [Nat.add_mul, Nat.one_mul]
      cases x with
      | inl x =>
        refine ⟨by dsimp only; omega, ?_⟩
        dsimp only
        omega
      | inr y =>
        dsimp only
        split
        · obtain ⟨k1, k2⟩ := ih u' v'
          refine ⟨by omega, ?_⟩
          generalize (loopF bits n P body f u' v').2.1 = u2 at *
          have e2 : u2 - u = (u' - u) + (u2 - u') := by omega
          rw [e2, Nat.mul_add]
          omega
        · refine ⟨by dsimp only; omega, ?_⟩
          dsimp only
          omega
theorem seqF_bd {go : Nat → Nat → List Nat → Rs} {wt : Nat → Nat} : ∀ (cs : List Nat), (∀ c ∈ cs, ∀ u v, Bd (wt c) u v (go c u v)) → ∀ (r : Rs), Bd ((cs.map wt).sum) r.2.1 r.2.2 (seqF go cs r)
  | [], _, r => ⟨Nat.le_refl _, Nat.le_add_right _ _⟩
  | c :: cs, hg, (w, u, v) => by
    unfold seqF
    split
    · have h1 := hg c List.mem_cons_self u v
      have h2 := seqF_bd cs (fun c hc => hg c (List.mem_cons_of_mem _ hc)) (go c u v)
      rcases hr : go c u v with ⟨x, u', v'⟩
      rw [hr] at h1 h2
      rcases hr2 : seqF go cs (x, u', v') with ⟨x2, u2, v2⟩
      rw [hr2] at h2
      exact h1.seq h2
    · exact (seqF_bd cs (fun c hc => hg c (List.mem_cons_of_mem _ hc)) (w, u, v)).mono (by simp)
theorem goF_bd : ∀ h n P u v w, Wg t w n → Bd w u v (goF t bits h n P u v) := by
  intro h
  induction h with
  | zero => exact fun n P u v w _ => ⟨Nat.le_refl _, Nat.le_add_right _ _⟩
  | succ h ih =>
    intro n P u v w hw
    cases hw with
    | mk wt hw =>
    cases hd : t.nd n with
    | whl a =>
      rw [hd] at hw
      have e : goF t bits (h + 1) n P u v = loopF bits n P (goF t bits h a P) (bits.length + 1) u v := by simp only [goF, hd]
      rw [e]
      obtain ⟨k1, k2⟩ := loopF_bd (bits := bits) (n := n) (P := P) (fun u v => ih a P u v (wt a) (hw a (List.mem_singleton.mpr rfl))) (bits.length + 1) u v
      refine ⟨k1, Nat.le_trans k2 (Nat.add_le_add_left ?_ _)⟩
      have : ((Node.whl a).ch.map wt).sum = wt a := by simp [Node.ch]
      rw [this]
      exact Nat.mul_le_mul_left _ (Nat.le_succ _)
    | fin a b =>
      rw [hd] at hw
      have ha := ih a P u v (wt a) (hw a (by simp [Node.ch]))
      have : ((Node.fin a b).ch.map wt).sum = wt a + wt b := by simp [Node.ch]
      rw [this]
      rcases hr : goF t bits h a P u v with ⟨x, u', v'⟩
      rw [hr] at ha
      cases x with
      | inl x =>
        have e : goF t bits (h + 1) n P u v = (.inl x, u', v') := by simp only [goF, hd, hr]
        rw [e]
        exact ha.mono (by omega)
      | inr y =>
        have e : goF t bits (h + 1) n P u v = finF n y (goF t bits h b (P ++ [(n, y)]) u' v') := by simp only [goF, hd, hr]
        rw [e]
        have hb := ih b (P ++ [(n, y)]) u' v' (wt b) (hw b (by simp [Node.ch]))
        rcases hr2 : goF t bits h b (P ++ [(n, y)]) u' v' with ⟨x2, u2, v2⟩
        rw [hr2] at hb
        have hab := ha.seq hb
        cases x2 with
        | inl x2 => exact hab.mono (by omega)
        | inr y2 =>
          show Bd _ _ _ (if y2 = .nrm then ((.inr y, u2, v2 ++ [n]) : Rs) else (.inr y2, u2, v2))
          by_cases hw : y2 = .nrm
          · rw [if_pos hw]
            obtain ⟨k1, k2⟩ := hab
            dsimp only at k1 k2
            refine ⟨k1, ?_⟩
            dsimp only
            rw [List.length_append, Nat.add_mul]
            simp
            omega
          · rw [if_neg hw]
            exact hab.mono (by omega)
    | call =>
      cases hx : bits[u]? with
      | none =>
        have e : goF t bits (h + 1) n P u v = (.inl (n, P), u, v) := by simp only [goF, hd, hx]
        rw [e]
        exact ⟨Nat.le_refl _, Nat.le_add_right _ _⟩
      | some x =>
        have e : goF t bits (h + 1) n P u v = (.inr (if x then .rai else .nrm), u + 1, v ++ [n]) := by simp only [goF, hd, hx]
        rw [e]
        refine ⟨Nat.le_succ _, ?_⟩
        simp [Node.ch]
    | iff a b =>
      rw [hd] at hw
      cases hx : bits[u]? with
      | none =>
        have e : goF t bits (h + 1) n P u v = (.inl (n, P), u, v) := by simp only [goF, hd, hx]
        rw [e]
        exact ⟨Nat.le_refl _, Nat.le_add_right _ _⟩
      | some x =>
        have e : goF t bits (h + 1) n P u v = goF t bits h (if x then b else a) P (u + 1) (v ++ [n]) := by simp only [goF, hd, hx]
        rw [e]
        have i := ih (if x then b else a) P (u + 1) (v ++ [n]) _ (hw (if x then b else a) (by cases x <;> simp [Node.ch]))
        have e3 : wt (if x then b else a) ≤ wt a + wt b := by cases x <;> simp
        have : ((Node.iff a b).ch.map wt).sum = wt a + wt b := by simp [Node.ch]
        rw [this]
        obtain ⟨k1, k2⟩ := i.mono e3
        generalize goF t bits h (if x then b else a) P (u + 1) (v ++ [n]) = r at *
        refine ⟨by omega, Nat.le_trans k2 ?_⟩
        rw [List.length_append]
        have e4 : (wt a + wt b) * (r.2.1 - (u + 1) + 1) ≤ (wt a + wt b) * (r.2.1 - u + 1) := Nat.mul_le_mul_left _ (by omega)
        rw [Nat.add_mul 1]
        simp
        omega
    | seq l =>
      rw [hd] at hw
      have e : goF t bits (h + 1) n P u v = seqF (fun c => goF t bits h c P) l (.inr .nrm, u, v) := by simp only [goF, hd]
      rw [e]
      exact (seqF_bd (go := fun c => goF t bits h c P) (wt := wt) l (fun c hc u v => ih c P u v (wt c) (hw c hc)) (.inr .nrm, u, v)).mono (by simp [Node.ch])
    | tr a b =>
      rw [hd] at hw
      have ha := ih a P u v (wt a) (hw a (by simp [Node.ch]))
      have : ((Node.tr a b).ch.map wt).sum = wt a + wt b := by simp [Node.ch]
      rw [this]
      rcases hr : goF t bits h a P u v with ⟨x, u', v'⟩
      rw [hr] at ha
      by_cases hx : x = .inr .rai
      · subst hx
        have e : goF t bits (h + 1) n P u v = goF t bits h b P u' v' := by simp only [goF, hd, hr]
        rw [e]
        have hb := ih b P u' v' (wt b) (hw b (by simp [Node.ch]))
        rcases hr2 : goF t bits h b P u' v' with ⟨x2, u2, v2⟩
        rw [hr2] at hb
        exact (ha.seq hb).mono (by omega)
      · have e : goF t bits (h + 1) n P u v = (x, u', v') := by
          simp only [goF, hd, hr]
          cases x with
          | inl x => rfl
          | inr w => cases w <;> first | rfl | exact absurd rfl hx
        rw [e]
        exact ha.mono (by omega)
    | _ =>
      have e : ∃ y, goF t bits (h + 1) n P u v = (.inr y, u, v ++ [n]) := ⟨wayN (t.nd n), by simp only [goF, hd]⟩
      obtain ⟨y, e⟩ := e
      rw [e]
      refine ⟨Nat.le_refl _, ?_⟩
      simp [Node.ch]
end
end FcM

set_option maxRecDepth 100000
set_option maxHeartbeats 4000000
namespace FcM
/-! ### the layers of a place, and the pending ways of a run -/
inductive Lay (t : Tab) : Nat → List Nat → Prop
  | top {n : Nat} (h : t.pr n = none) : Lay t n []
  | blk {n p a : Nat} {l : List Nat} (h : t.pr n = some p) (hd : t.nd p = .fin a n) (hn : n ≠ a) (r : Lay t p l) : Lay t n (l ++ [p])
  | up {n p : Nat} {l : List Nat} (h : t.pr n = some p) (hd : ∀ a, t.nd p = .fin a n → n = a) (r : Lay t p l) : Lay t n l
section
variable {t : Tab} {lp : Nat → Nat} {bits : List Bool} {B : Nat}
theorem Lay.inv_blk {n p a : Nat} {l : List Nat} (h : Lay t n l) (hp : t.pr n = some p) (hd : t.nd p = .fin a n) (hn : n ≠ a) : ∃ l', l = l' ++ [p] ∧ Lay t p l' := by
  cases h with
  | top h => rw [hp] at h; cases h
  | blk h _ _ r => rw [hp] at h; cases h; exact ⟨_, rfl, r⟩
  | up h hd' _ => rw [hp] at h; cases h; exact absurd (hd' a hd) hn
theorem Lay.inv_up {n p : Nat} {l : List Nat} (h : Lay t n l) (hp : t.pr n = some p) (hd : ∀ a, t.nd p = .fin a n → n = a) : Lay t p l := by
  cases h with
  | top h => rw [hp] at h; cases h
  | blk h hd' hn _ => rw [hp] at h; cases h; exact absurd (hd _ hd') hn
  | up h _ r => rw [hp] at h; cases h; exact r
theorem fin_body (W : t.WF lp) {p a b : Nat} (hp : p < t.len) (hd : t.nd p = .fin a b) : b ≠ a := by
  have z := W.nd p hp
  rw [hd] at z
  simp [Node.ch] at z
  exact fun y => z y.symm
/-- as a place -/
def LayP (t : Tab) (s : Nat) (l : List Nat) : Prop := match t.nd s with
  | .fin _ _ => ∃ l', l = l' ++ [s] ∧ Lay t s l'
  | _ => Lay t s l
theorem LayP.of {s : Nat} {l : List Nat} (h : ∀ a b, t.nd s ≠ .fin a b) (r : Lay t s l) : LayP t s l := by
  unfold LayP
  split
  · rename_i a b e; exact absurd e (h a b)
  · exact r
theorem LayP.get {s : Nat} {l : List Nat} (h : ∀ a b, t.nd s ≠ .fin a b) (r : LayP t s l) : Lay t s l := by
  unfold LayP at r
  split at r
  · rename_i a b e; exact absurd e (h a b)
  · exact r
theorem ent_lay (W : t.WF lp) {k n e : Nat} (h : Ent t k n e) : ∀ {l : List Nat}, n < t.len → Lay t n l → LayP t e l := by
  induction h with
  | here h1 h2 h3 => exact fun hn r => LayP.of h3 r
  | @seq k n c e l' h r ih =>
    intro l hn r'
    obtain ⟨c1, c2, c3, _⟩ := W.dn n hn c (by rw [h]; exact List.mem_cons_self)
    exact ih c2 (.up c3 (fun a z => by rw [h] at z; cases z) r')
  | @tr k n a b e h r ih =>
    intro l hn r'
    obtain ⟨c1, c2, c3, _⟩ := W.dn n hn a (by rw [h]; simp [Node.ch])
    exact ih c2 (.up c3 (fun a z => by rw [h] at z; cases z) r')
  | @fin k n a b e h r ih =>
    intro l hn r'
    obtain ⟨c1, c2, c3, _⟩ := W.dn n hn a (by rw [h]; simp [Node.ch])
    exact ih c2 (.up c3 (fun a' z => by rw [h] at z; cases z; rfl) r')
theorem lv_lay (W : t.WF lp) {n : Nat} {w : Way} {P P' : Pd} {r : Nat ⊕ Way} (h : Lv t n w P r P') : n < t.len → Lay t n (P.map Prod.fst) → ∀ e, r = .inl e → LayP t e (P'.map Prod.fst) := by
  induction h with
  | top h => exact fun _ _ e z => by cases z
  | @seqN n p m k e l l1 l2 P h hd hl he =>
    intro hn r e' z
    cases z
    have hp := W.pu n p hn h
    obtain ⟨c1, c2, c3, _⟩ := W.dn p hp m (by rw [hd, hl]; simp [Node.ch])
    have rp := r.inv_up h (fun a z => by rw [hd] at z; cases z)
    exact ent_lay W he c2 (.up c3 (fun a z => by rw [hd] at z; cases z) rp)
  | @seqU n p w l P P' r' h hd hw up ih => exact fun hn r => ih (W.pu n p hn h) (r.inv_up h (fun a z => by rw [hd] at z; cases z))
  | @whlA n p w P h hd hw =>
    intro hn r e' z
    cases z
    exact LayP.of (fun a b => by rw [hd]; exact fun z => nomatch z) (r.inv_up h (fun a z => by rw [hd] at z; cases z))
  | @whlU n p w P P' r' h hd hw up ih => exact fun hn r => ih (W.pu n p hn h) (r.inv_up h (fun a z => by rw [hd] at z; cases z))
  | @tryH n p b k e P h hd he =>
    intro hn r e' z
    cases z
    have hp := W.pu n p hn h
    obtain ⟨c1, c2, c3, _⟩ := W.dn p hp b (by rw [hd]; simp [Node.ch])
    have rp := r.inv_up h (fun a z => by rw [hd] at z; cases z)
    exact ent_lay W he c2 (.up c3 (fun a z => by rw [hd] at z; cases z) rp)
  | @tryU n p a b w P P' r' h hd hw up ih => exact fun hn r => ih (W.pu n p hn h) (r.inv_up h (fun a z => by rw [hd] at z; cases z))
  | @iffU n p a b w P P' r' h hd up ih => exact fun hn r => ih (W.pu n p hn h) (r.inv_up h (fun a z => by rw [hd] at z; cases z))
  | @finB n p b k e w P h hd he =>
    intro hn r e' z
    cases z
    have hp := W.pu n p hn h
    obtain ⟨c1, c2, c3, _⟩ := W.dn p hp b (by rw [hd]; simp [Node.ch])
    have rp := r.inv_up h (fun a z => by rw [hd] at z; cases z; rfl)
    have z := ent_lay W he c2 (.blk c3 hd (fin_body W hp hd) rp)
    rw [List.map_append]
    exact z
  | @finE n p a P h hd hn' =>
    intro hn r e' z
    cases z
    obtain ⟨l', e1, r'⟩ := r.inv_blk h hd hn'
    unfold LayP
    rw [hd]
    exact ⟨l', e1, r'⟩
  | @finO n p a w P P' x r' h hd hn' hw up ih =>
    intro hn r
    obtain ⟨l', e1, r1⟩ := r.inv_blk h hd hn'
    rw [List.map_append] at e1
    have e2 : P.map Prod.fst = l' := (List.append_inj' e1 rfl).1
    exact ih (W.pu n p hn h) (by rw [e2]; exact r1)
theorem dp_lay (W : t.WF lp) {s : Nat} {x : Bool} {P P' : Pd} {r : Nat ⊕ Way} (h : Dp1 t s x P r P') (hs : s < t.len) (l : LayP t s (P.map Prod.fst)) : ∀ e, r = .inl e → LayP t e (P'.map Prod.fst) := by
  cases h with
  | @iff a b k e P h he =>
    intro e' z
    cases z
    have l' := l.get (fun a b => by rw [h]; exact fun z => nomatch z)
    obtain ⟨c1, c2, c3, _⟩ := W.dn s hs (if x then b else a) (by rw [h]; cases x <;> simp [Node.ch])
    exact ent_lay W he c2 (.up c3 (fun a z => by rw [h] at z; cases z) l')
  | @whlT a k e P h hx he =>
    intro e' z
    cases z
    have l' := l.get (fun a b => by rw [h]; exact fun z => nomatch z)
    obtain ⟨c1, c2, c3, _⟩ := W.dn s hs a (by rw [h]; simp [Node.ch])
    exact ent_lay W he c2 (.up c3 (fun a z => by rw [h] at z; cases z) l')
  | whlF h hx lv => exact lv_lay W lv hs (l.get (fun a b => by rw [h]; exact fun z => nomatch z))
  | call h lv => exact lv_lay W lv hs (l.get (fun a b => by rw [h]; exact fun z => nomatch z))
  | @fin a b q w P P' r h lv =>
    unfold LayP at l
    rw [h] at l
    obtain ⟨l', e1, r1⟩ := l
    rw [List.map_append] at e1
    have e2 : P.map Prod.fst = l' := (List.append_inj' e1 rfl).1
    exact lv_lay W lv hs (by rw [e2]; exact r1)
  | quiet h lv => exact lv_lay W lv hs (l.get (fun a b e => by rw [e] at h; exact h))
theorem re_lay (W : t.WF lp) {N : Nat} {c d : Cfg} (h : Re t bits B N c d) : (∀ s, c.at_ = .inl s → s < t.len ∧ LayP t s (c.pd.map Prod.fst)) → ∀ s, d.at_ = .inl s → s < t.len ∧ LayP t s (d.pd.map Prod.fst) := by
  induction h with
  | stop => exact fun z => z
  | step h hb r ih =>
    intro z
    refine ih fun s hs => ?_
    cases h with
    | ask ha hu d =>
      obtain ⟨k1, k2⟩ := z _ rfl
      exact ⟨dp_lt W d k1 s hs, dp_lay W d k1 k2 s hs⟩
    | on ha d =>
      obtain ⟨k1, k2⟩ := z _ rfl
      exact ⟨dp_lt W d k1 s hs, dp_lay W d k1 k2 s hs⟩
/-- where a run waits, the pending ways are those of the layers -/
theorem wait_lay (W : t.WF lp) {k e N : Nat} {d : Cfg} (he : Ent t k 0 e) (h : Re t bits B N ⟨.inl e, [], 0, []⟩ d) : ∀ s, d.at_ = .inl s → s < t.len ∧ LayP t s (d.pd.map Prod.fst) :=
  re_lay W h fun s hs => by
    cases hs
    exact ⟨ent_lt W he W.ne, ent_lay W he W.ne (.top W.root)⟩
end
end FcM

set_option maxRecDepth 100000
set_option maxHeartbeats 4000000
namespace Fc
open PySem PySem.Spec PyProof.Rows L2 FcR
open Evl (Ex)
open FcM (Way Node Tab Pd)
/-! ### moments -/
def momV (s : Nat) : Nat ⊕ Way → V
  | .inl _ => .int (s : Int)
  | .inr w => .str (endS w)
def momP (r : Nat ⊕ Way) (P : Pd) : Pd := match r with
  | .inl _ => P
  | .inr _ => []
def momS (r : Nat ⊕ Way) : V := match r with
  | .inl n => .int (n : Int)
  | .inr w => .str (endS w)
def sp_wmom (K : PySem.W.Frag) : Sp := fun vs H Q _ => ∃ (F : Hp) (A : CAd) (q dx pp : Addr) (s : Nat) (ts : List Addr) (r : Nat ⊕ Way) (P : Pd), vs = [.ref q] ∧ Ex F H ∧ WS K F H A q dx pp s ts r P ∧
  ∀ (H' : Hp) (tp l : Addr) (ts' : List Addr), Ex H H' → H tp = none → H l = none → tp ≠ l → H' tp = some (.tup [momS r, .ref l]) → H' l = some (.lst (ts'.map V.ref)) → PdAt K F ts' (momP r P) → Q (.ref tp) H'
def sp_moment (K : PySem.W.Frag) : Sp := fun vs H Q _ => ∃ (F : Hp) (A : CAd) (rows : List Row) (lp : Nat → Nat) (a : Addr) (bits : List Bool) (k e N : Nat) (cf : FcM.Cfg), vs = [.ref A.p, .ref a] ∧ CodeH K F F A rows ∧ TW rows lp ∧ Ex F H ∧ SqL K F a (bits.map bV) ∧ bits.length ≤ 1000 ∧
  FcM.Ent (tabOf rows) k 0 e ∧ FcM.Re (tabOf rows) bits 1000 N ⟨.inl e, [], 0, []⟩ cf ∧ cf.vs.length ≤ 90000 ∧ (∀ w, cf.at_ = .inr w → FcM.WOk 0 w) ∧
  ∀ (F' H' : Hp) (tp l : Addr) (ts : List Addr), Gr (fun _ => False) F H F' H' → H tp = none → H l = none → F' tp = none → F' l = none → tp ≠ l → H' tp = some (.tup [momS cf.at_, .ref l]) → H' l = some (.lst (ts.map V.ref)) → PdAt K F' ts (momP cf.at_ cf.pd) → Q (.ref tp) H'
section
variable {P : Program} {w : World} {h : Heap} {K : PySem.W.Frag} {mg : Str → Option Value} {base : Heap}
abbrev N_Walker_moment : List Str := ["self"]
theorem sc_Walker_moment : FnScope N_Walker_moment ["self"] (defScope sd_Walker_moment) := ⟨rfl, rfl, rfl, by decide +kernel, rfl, by decide +kernel, by decide +kernel⟩
theorem ok_Walker_moment (T : Tx w h K mg) : Ok P w K mg base 1 ("Walker", some "moment") ["self"] (sp_wmom K) := by
  obtain ⟨fd, F⟩ := F_Walker_moment T
  refine ⟨fd, ?_, F.bindsN (fun _ _ _ _ _ _ us hl => match us, hl with | [_], _ => rfl), F.kp⟩
  refine F.ok sc_Walker_moment (fun vs H Q E h => ?_) (fun cdv A outer s H vs Q E hr h => ?_)
  · obtain ⟨F, A, q, dx, pp, s, ts, r, P0, rfl, xF, ws, Qq⟩ := h
    rfl
  · obtain ⟨F, A, q, dx, pp, s, ts, r, P0, rfl, xF, ws, Qq⟩ := h
    refine ⟨_, PSs.nox (pss_one (ps_ret (pe_ifExp (pt_cmpR op_isN (pe_fld (pv 0) rfl) pe_non (nomark _)) (pe_tup (pa_cons (pe_fld (pv 0) rfl) (pa_cons (pe_callTy call_list_of rfl (fr_list T) b_list (pa_cons (pe_fld (pv 0) rfl) pa_nil)) pa_nil))) (pe_tup (pa_cons (pe_fld (pv 0) rfl) (pa_cons (pe_lst pa_nil) pa_nil)))))), ?_⟩
    cases r with
    | inl n =>
      obtain rfl : s = n := (ws.sp n rfl).symm
      refine ⟨_, rfl, q, _, _, _, _, rfl, ws.ob, c_Walker T, na_Walker_end T, fl_Walker_end _ _ _ _, rfl, _, rfl, itT rfl ?_⟩
      refine ⟨_, rfl, q, _, _, _, _, rfl, ws.ob, c_Walker T, na_Walker_spot T, fl_Walker_spot _ _ _ _, _, rfl, q, _, _, _, _, rfl, ws.ob, c_Walker T, na_Walker_pendings T, fl_Walker_pendings _ _ _ _, pp, _, rfl, .inl (Evl.sq_of ws.pl), ?_⟩
      intro p1 n1
      generalize e1 : upd _ p1 _ = H1
      obtain ⟨x1, s1, o1⟩ := new_of e1 n1
      clear e1
      refine ⟨sz (by simp), ?_⟩
      intro p2 n2
      generalize e2 : upd _ p2 _ = H2
      obtain ⟨x2, s2, o2⟩ := new_of e2 n2
      clear e2
      exact Qq H2 p2 p1 ts (x1.trans x2) (ex_none x1 n2) n1 (fun z => by rw [z, s1] at n2; cases n2) s2 (x2 _ _ s1) ws.pa
    | inr w =>
      refine ⟨_, rfl, q, _, _, _, _, rfl, ws.ob, c_Walker T, na_Walker_end T, fl_Walker_end _ _ _ _, rfl, _, rfl, itF rfl ?_⟩
      refine ⟨_, rfl, q, _, _, _, _, rfl, ws.ob, c_Walker T, na_Walker_end T, fl_Walker_end _ _ _ _, sz (by simp), ?_⟩
      intro p1 n1
      generalize e1 : upd _ p1 _ = H1
      obtain ⟨x1, s1, o1⟩ := new_of e1 n1
      clear e1
      refine ⟨sz (by simp), ?_⟩
      intro p2 n2
      generalize e2 : upd _ p2 _ = H2
      obtain ⟨x2, s2, o2⟩ := new_of e2 n2
      clear e2
      exact Qq H2 p2 p1 [] (x1.trans x2) (ex_none x1 n2) n1 (fun z => by rw [z, s1] at n2; cases n2) s2 (x2 _ _ s1) .nil
end

end Fc

set_option maxRecDepth 100000
set_option maxHeartbeats 4000000
namespace FcM
section
variable {t : Tab} {lp : Nat → Nat} {bits bits' : List Bool} {B : Nat}
theorem Ent.det {k n e : Nat} (h : Ent t k n e) : ∀ {k' e' : Nat}, Ent t k' n e' → e = e' := by
  induction h with
  | here h1 h2 h3 =>
    intro k' e' h'
    cases h' with
    | here => rfl
    | seq h _ => exact absurd h (h1 _)
    | tr h _ => exact absurd h (h2 _ _)
    | fin h _ => exact absurd h (h3 _ _)
  | seq h r ih =>
    intro k' e' h'
    cases h' with
    | here h1 h2 h3 => exact absurd h (h1 _)
    | seq h' r' => rw [h] at h'; cases h'; exact ih r'
    | tr h' _ => rw [h] at h'; cases h'
    | fin h' _ => rw [h] at h'; cases h'
  | tr h r ih =>
    intro k' e' h'
    cases h' with
    | here h1 h2 h3 => exact absurd h (h2 _ _)
    | seq h' r' => rw [h] at h'; cases h'
    | tr h' r' => rw [h] at h'; cases h'; exact ih r'
    | fin h' _ => rw [h] at h'; cases h'
  | fin h r ih =>
    intro k' e' h'
    cases h' with
    | here h1 h2 h3 => exact absurd h (h3 _ _)
    | seq h' r' => rw [h] at h'; cases h'
    | tr h' _ => rw [h] at h'; cases h'
    | fin h' r' => rw [h] at h'; cases h'; exact ih r'
theorem nodup_inj {l : List Nat} (nd : l.Nodup) {i j : Nat} (hi : i < l.length) (hj : j < l.length) (h : l[i] = l[j]) : i = j := by
  have p := List.pairwise_iff_getElem.mp nd
  rcases Nat.lt_trichotomy i j with z | z | z
  · exact absurd h (p i j hi hj z)
  · exact z
  · exact absurd h.symm (p j i hj hi z)
theorem next_one {l : List Nat} (nd : l.Nodup) {n m m' : Nat} {l1 l2 l1' l2' : List Nat} (h : l = l1 ++ n :: m :: l2) (h' : l = l1' ++ n :: m' :: l2') : m = m' := by
  have e1 : l[l1.length]? = some n := by rw [h]; simp
  have e2 : l[l1'.length]? = some n := by rw [h']; simp
  have z1 := List.getElem?_eq_some_iff.mp e1
  have z2 := List.getElem?_eq_some_iff.mp e2
  obtain ⟨a1, b1⟩ := z1
  obtain ⟨a2, b2⟩ := z2
  have e : l1.length = l1'.length := nodup_inj nd a1 a2 (b1.trans b2.symm)
  have f1 : l[l1.length + 1]? = some m := by rw [h]; simp
  have f2 : l[l1'.length + 1]? = some m' := by rw [h']; simp
  rw [e, f2] at f1
  exact (Option.some.inj f1).symm
theorem not_last {l : List Nat} (nd : l.Nodup) {n m : Nat} {l1 l2 : List Nat} (h : l = l1 ++ n :: m :: l2) : l.getLast? ≠ some n := fun z => by
  rw [List.getLast?_eq_getElem?] at z
  have e1 : l[l1.length]? = some n := by rw [h]; simp
  obtain ⟨a1, b1⟩ := List.getElem?_eq_some_iff.mp e1
  obtain ⟨a2, b2⟩ := List.getElem?_eq_some_iff.mp z
  have e : l1.length = l.length - 1 := nodup_inj nd a1 a2 (b1.trans b2.symm)
  have : l.length = l1.length + 1 + 1 + l2.length := by rw [h]; simp; omega
  omega
theorem lv_det (W : t.WF lp) {n : Nat} {w : Way} {P P1 : Pd} {r1 : Nat ⊕ Way} (h : Lv t n w P r1 P1) : n < t.len → ∀ {r2 : Nat ⊕ Way} {P2 : Pd}, Lv t n w P r2 P2 → r1 = r2 ∧ P1 = P2 := by
  induction h with
  | top h =>
    intro hn r2 P2 h'
    cases h' <;> first | exact ⟨rfl, rfl⟩ | (rename_i h2 _ _; rw [h] at h2; cases h2) | (rename_i h2 _ _ _; rw [h] at h2; cases h2) | (rename_i h2 _ ; rw [h] at h2; cases h2) | (rename_i h2 _ _ _ _; rw [h] at h2; cases h2)
  | seqN h hd hl he =>
    intro hn r2 P2 h'
    have hp := W.pu _ _ hn h
    have nd := W.nd _ hp
    rw [hd] at nd
    cases h' with
    | top h2 => rw [h] at h2; cases h2
    | seqN h2 hd2 hl2 he2 =>
      rw [h] at h2; cases h2; rw [hd] at hd2; cases hd2
      obtain rfl := next_one nd hl hl2
      rw [he.det he2]
      exact ⟨rfl, rfl⟩
    | seqU h2 hd2 hw2 up2 =>
      rw [h] at h2; cases h2; rw [hd] at hd2; cases hd2
      rcases hw2 with z | z
      · exact absurd rfl z
      · exact absurd z (not_last nd hl)
    | whlA h2 hd2 _ => rw [h] at h2; cases h2; rw [hd] at hd2; cases hd2
    | whlU h2 hd2 _ _ => rw [h] at h2; cases h2; rw [hd] at hd2; cases hd2
    | tryU h2 hd2 _ _ => rw [h] at h2; cases h2; rw [hd] at hd2; cases hd2
    | iffU h2 hd2 _ => rw [h] at h2; cases h2; rw [hd] at hd2; cases hd2
    | finB h2 hd2 _ => rw [h] at h2; cases h2; rw [hd] at hd2; cases hd2
    | finE h2 hd2 _ => rw [h] at h2; cases h2; rw [hd] at hd2; cases hd2
    | finO h2 hd2 _ _ _ => rw [h] at h2; cases h2; rw [hd] at hd2; cases hd2
  | seqU h hd hw up ih =>
    intro hn r2 P2 h'
    have hp := W.pu _ _ hn h
    have nd := W.nd _ hp
    rw [hd] at nd
    cases h' with
    | top h2 => rw [h] at h2; cases h2
    | seqN h2 hd2 hl2 he2 =>
      rw [h] at h2; cases h2; rw [hd] at hd2; cases hd2
      rcases hw with z | z
      · exact absurd rfl z
      · exact absurd z (not_last nd hl2)
    | seqU h2 hd2 hw2 up2 =>
      rw [h] at h2; cases h2
      exact ih hp up2
    | whlA h2 hd2 _ => rw [h] at h2; cases h2; rw [hd] at hd2; cases hd2
    | whlU h2 hd2 _ _ => rw [h] at h2; cases h2; rw [hd] at hd2; cases hd2
    | tryH h2 hd2 _ => rw [h] at h2; cases h2; rw [hd] at hd2; cases hd2
    | tryU h2 hd2 _ _ => rw [h] at h2; cases h2; rw [hd] at hd2; cases hd2
    | iffU h2 hd2 _ => rw [h] at h2; cases h2; rw [hd] at hd2; cases hd2
    | finB h2 hd2 _ => rw [h] at h2; cases h2; rw [hd] at hd2; cases hd2
    | finE h2 hd2 _ => rw [h] at h2; cases h2; rw [hd] at hd2; cases hd2
    | finO h2 hd2 _ _ _ => rw [h] at h2; cases h2; rw [hd] at hd2; cases hd2
  | whlA h hd hw =>
    intro hn r2 P2 h'
    cases h' with
    | top h2 => rw [h] at h2; cases h2
    | seqN h2 hd2 _ _ => rw [h] at h2; cases h2; rw [hd] at hd2; cases hd2
    | seqU h2 hd2 _ _ => rw [h] at h2; cases h2; rw [hd] at hd2; cases hd2
    | whlA h2 hd2 _ => rw [h] at h2; cases h2; exact ⟨rfl, rfl⟩
    | whlU h2 hd2 hw2 _ => rw [hw] at hw2; cases hw2
    | tryH h2 hd2 _ => rw [h] at h2; cases h2; rw [hd] at hd2; cases hd2
    | tryU h2 hd2 _ _ => rw [h] at h2; cases h2; rw [hd] at hd2; cases hd2
    | iffU h2 hd2 _ => rw [h] at h2; cases h2; rw [hd] at hd2; cases hd2
    | finB h2 hd2 _ => rw [h] at h2; cases h2; rw [hd] at hd2; cases hd2
    | finE h2 hd2 _ => rw [h] at h2; cases h2; rw [hd] at hd2; cases hd2
    | finO h2 hd2 _ _ _ => rw [h] at h2; cases h2; rw [hd] at hd2; cases hd2
  | whlU h hd hw up ih =>
    intro hn r2 P2 h'
    have hp := W.pu _ _ hn h
    cases h' with
    | top h2 => rw [h] at h2; cases h2
    | seqN h2 hd2 _ _ => rw [h] at h2; cases h2; rw [hd] at hd2; cases hd2
    | seqU h2 hd2 _ _ => rw [h] at h2; cases h2; rw [hd] at hd2; cases hd2
    | whlA h2 hd2 hw2 => rw [hw] at hw2; cases hw2
    | whlU h2 hd2 hw2 up2 => rw [h] at h2; cases h2; exact ih hp up2
    | tryH h2 hd2 _ => rw [h] at h2; cases h2; rw [hd] at hd2; cases hd2
    | tryU h2 hd2 _ _ => rw [h] at h2; cases h2; rw [hd] at hd2; cases hd2
    | iffU h2 hd2 _ => rw [h] at h2; cases h2; rw [hd] at hd2; cases hd2
    | finB h2 hd2 _ => rw [h] at h2; cases h2; rw [hd] at hd2; cases hd2
    | finE h2 hd2 _ => rw [h] at h2; cases h2; rw [hd] at hd2; cases hd2
    | finO h2 hd2 _ _ _ => rw [h] at h2; cases h2; rw [hd] at hd2; cases hd2
  | tryH h hd he =>
    intro hn r2 P2 h'
    cases h' with
    | top h2 => rw [h] at h2; cases h2
    | seqU h2 hd2 _ _ => rw [h] at h2; cases h2; rw [hd] at hd2; cases hd2
    | whlA h2 hd2 _ => rw [h] at h2; cases h2; rw [hd] at hd2; cases hd2
    | whlU h2 hd2 _ _ => rw [h] at h2; cases h2; rw [hd] at hd2; cases hd2
    | tryH h2 hd2 he2 =>
      rw [h] at h2; cases h2; rw [hd] at hd2; cases hd2
      rw [he.det he2]
      exact ⟨rfl, rfl⟩
    | tryU h2 hd2 hw2 _ =>
      rw [h] at h2; cases h2; rw [hd] at hd2; cases hd2
      rcases hw2 with z | z
      · exact absurd rfl z
      · exact absurd rfl z
    | iffU h2 hd2 _ => rw [h] at h2; cases h2; rw [hd] at hd2; cases hd2
    | finB h2 hd2 _ => rw [h] at h2; cases h2; rw [hd] at hd2; cases hd2
    | finO h2 hd2 _ _ _ => rw [h] at h2; cases h2; rw [hd] at hd2; cases hd2
  | tryU h hd hw up ih =>
    intro hn r2 P2 h'
    have hp := W.pu _ _ hn h
    cases h' with
    | top h2 => rw [h] at h2; cases h2
    | seqN h2 hd2 _ _ => rw [h] at h2; cases h2; rw [hd] at hd2; cases hd2
    | seqU h2 hd2 _ _ => rw [h] at h2; cases h2; rw [hd] at hd2; cases hd2
    | whlA h2 hd2 _ => rw [h] at h2; cases h2; rw [hd] at hd2; cases hd2
    | whlU h2 hd2 _ _ => rw [h] at h2; cases h2; rw [hd] at hd2; cases hd2
    | tryH h2 hd2 he2 =>
      rw [h] at h2; cases h2; rw [hd] at hd2; cases hd2
      rcases hw with z | z
      · exact absurd rfl z
      · exact absurd rfl z
    | tryU h2 hd2 hw2 up2 => rw [h] at h2; cases h2; exact ih hp up2
    | iffU h2 hd2 _ => rw [h] at h2; cases h2; rw [hd] at hd2; cases hd2
    | finB h2 hd2 _ => rw [h] at h2; cases h2; rw [hd] at hd2; cases hd2
    | finE h2 hd2 _ => rw [h] at h2; cases h2; rw [hd] at hd2; cases hd2
    | finO h2 hd2 _ _ _ => rw [h] at h2; cases h2; rw [hd] at hd2; cases hd2
  | iffU h hd up ih =>
    intro hn r2 P2 h'
    have hp := W.pu _ _ hn h
    cases h' with
    | top h2 => rw [h] at h2; cases h2
    | seqN h2 hd2 _ _ => rw [h] at h2; cases h2; rw [hd] at hd2; cases hd2
    | seqU h2 hd2 _ _ => rw [h] at h2; cases h2; rw [hd] at hd2; cases hd2
    | whlA h2 hd2 _ => rw [h] at h2; cases h2; rw [hd] at hd2; cases hd2
    | whlU h2 hd2 _ _ => rw [h] at h2; cases h2; rw [hd] at hd2; cases hd2
    | tryH h2 hd2 he2 => rw [h] at h2; cases h2; rw [hd] at hd2; cases hd2
    | tryU h2 hd2 hw2 up2 => rw [h] at h2; cases h2; rw [hd] at hd2; cases hd2
    | iffU h2 hd2 up2 => rw [h] at h2; cases h2; exact ih hp up2
    | finB h2 hd2 _ => rw [h] at h2; cases h2; rw [hd] at hd2; cases hd2
    | finE h2 hd2 _ => rw [h] at h2; cases h2; rw [hd] at hd2; cases hd2
    | finO h2 hd2 _ _ _ => rw [h] at h2; cases h2; rw [hd] at hd2; cases hd2
  | finB h hd he =>
    intro hn r2 P2 h'
    cases h' with
    | top h2 => rw [h] at h2; cases h2
    | seqN h2 hd2 _ _ => rw [h] at h2; cases h2; rw [hd] at hd2; cases hd2
    | seqU h2 hd2 _ _ => rw [h] at h2; cases h2; rw [hd] at hd2; cases hd2
    | whlA h2 hd2 _ => rw [h] at h2; cases h2; rw [hd] at hd2; cases hd2
    | whlU h2 hd2 _ _ => rw [h] at h2; cases h2; rw [hd] at hd2; cases hd2
    | tryH h2 hd2 he2 => rw [h] at h2; cases h2; rw [hd] at hd2; cases hd2
    | tryU h2 hd2 hw2 up2 => rw [h] at h2; cases h2; rw [hd] at hd2; cases hd2
    | iffU h2 hd2 up2 => rw [h] at h2; cases h2; rw [hd] at hd2; cases hd2
    | finB h2 hd2 he2 =>
      rw [h] at h2; cases h2; rw [hd] at hd2; cases hd2
      rw [he.det he2]
      exact ⟨rfl, rfl⟩
    | finE h2 hd2 hn2 => rw [h] at h2; cases h2; rw [hd] at hd2; cases hd2; exact absurd rfl hn2
    | finO h2 hd2 hn2 _ _ => rw [h] at h2; cases h2; rw [hd] at hd2; cases hd2; exact absurd rfl hn2
  | finE h hd hn1 =>
    intro hn r2 P2 h'
    cases h' with
    | top h2 => rw [h] at h2; cases h2
    | seqN h2 hd2 _ _ => rw [h] at h2; cases h2; rw [hd] at hd2; cases hd2
    | seqU h2 hd2 _ _ => rw [h] at h2; cases h2; rw [hd] at hd2; cases hd2
    | whlA h2 hd2 _ => rw [h] at h2; cases h2; rw [hd] at hd2; cases hd2
    | whlU h2 hd2 _ _ => rw [h] at h2; cases h2; rw [hd] at hd2; cases hd2
    | tryU h2 hd2 hw2 up2 => rw [h] at h2; cases h2; rw [hd] at hd2; cases hd2
    | iffU h2 hd2 up2 => rw [h] at h2; cases h2; rw [hd] at hd2; cases hd2
    | finB h2 hd2 he2 => rw [h] at h2; cases h2; rw [hd] at hd2; cases hd2; exact absurd rfl hn1
    | finE h2 hd2 hn2 => rw [h] at h2; cases h2; exact ⟨rfl, rfl⟩
    | finO h2 hd2 hn2 hw2 _ => exact absurd rfl hw2
  | finO h hd hn1 hw up ih =>
    intro hn r2 P2 h'
    have hp := W.pu _ _ hn h
    generalize eP : _ ++ [_] = P0 at h'
    cases h' with
    | top h2 => rw [h] at h2; cases h2
    | seqN h2 hd2 _ _ => rw [h] at h2; cases h2; rw [hd] at hd2; cases hd2
    | seqU h2 hd2 _ _ => rw [h] at h2; cases h2; rw [hd] at hd2; cases hd2
    | whlA h2 hd2 _ => rw [h] at h2; cases h2; rw [hd] at hd2; cases hd2
    | whlU h2 hd2 _ _ => rw [h] at h2; cases h2; rw [hd] at hd2; cases hd2
    | tryH h2 hd2 he2 => rw [h] at h2; cases h2; rw [hd] at hd2; cases hd2
    | tryU h2 hd2 hw2 up2 => rw [h] at h2; cases h2; rw [hd] at hd2; cases hd2
    | iffU h2 hd2 up2 => rw [h] at h2; cases h2; rw [hd] at hd2; cases hd2
    | finB h2 hd2 he2 => rw [h] at h2; cases h2; rw [hd] at hd2; cases hd2; exact absurd rfl hn1
    | finE h2 hd2 hn2 => exact absurd rfl hw
    | finO h2 hd2 hn2 hw2 up2 =>
      rw [h] at h2; cases h2
      obtain ⟨rfl, _⟩ := List.append_inj' eP rfl
      exact ih hp up2
theorem dp1_det (W : t.WF lp) {s : Nat} {x : Bool} {P P1 P2 : Pd} {r1 r2 : Nat ⊕ Way} (hs : s < t.len) (h : Dp1 t s x P r1 P1) (h' : Dp1 t s x P r2 P2) : r1 = r2 ∧ P1 = P2 := by
  cases h with
  | iff h he =>
    cases h' with
    | iff h2 he2 => rw [h] at h2; cases h2; rw [he.det he2]; exact ⟨rfl, rfl⟩
    | whlT h2 => rw [h] at h2; cases h2
    | whlF h2 => rw [h] at h2; cases h2
    | call h2 => rw [h] at h2; cases h2
    | fin h2 => rw [h] at h2; cases h2
    | quiet h2 => rw [h] at h2; exact h2.elim
  | whlT h hx he =>
    cases h' with
    | iff h2 he2 => rw [h] at h2; cases h2
    | whlT h2 hx2 he2 => rw [h] at h2; cases h2; rw [he.det he2]; exact ⟨rfl, rfl⟩
    | whlF h2 hx2 => rw [hx] at hx2; cases hx2
    | call h2 => rw [h] at h2; cases h2
    | fin h2 => rw [h] at h2; cases h2
    | quiet h2 => rw [h] at h2; exact h2.elim
  | whlF h hx l =>
    cases h' with
    | iff h2 he2 => rw [h] at h2; cases h2
    | whlT h2 hx2 he2 => rw [hx] at hx2; cases hx2
    | whlF h2 hx2 l2 => exact lv_det W l hs l2
    | call h2 => rw [h] at h2; cases h2
    | fin h2 => rw [h] at h2; cases h2
    | quiet h2 => rw [h] at h2; exact h2.elim
  | call h l =>
    cases h' with
    | iff h2 he2 => rw [h] at h2; cases h2
    | whlT h2 hx2 he2 => rw [h] at h2; cases h2
    | whlF h2 hx2 l2 => rw [h] at h2; cases h2
    | call h2 l2 => exact lv_det W l hs l2
    | fin h2 => rw [h] at h2; cases h2
    | quiet h2 => rw [h] at h2; exact h2.elim
  | fin h l =>
    generalize eP : _ ++ [_] = P0 at h'
    cases h' with
    | iff h2 he2 => rw [h] at h2; cases h2
    | whlT h2 hx2 he2 => rw [h] at h2; cases h2
    | whlF h2 hx2 l2 => rw [h] at h2; cases h2
    | call h2 l2 => rw [h] at h2; cases h2
    | fin h2 l2 =>
      obtain ⟨rfl, e⟩ := List.append_inj' eP rfl
      cases e
      exact lv_det W l hs l2
    | quiet h2 => rw [h] at h2; exact h2.elim
  | quiet h l =>
    cases h' with
    | iff h2 he2 => rw [h2] at h; exact h.elim
    | whlT h2 hx2 he2 => rw [h2] at h; exact h.elim
    | whlF h2 hx2 l2 => rw [h2] at h; exact h.elim
    | call h2 l2 => rw [h2] at h; exact h.elim
    | fin h2 => rw [h2] at h; exact h.elim
    | quiet h2 l2 => exact lv_det W l hs l2
/-- a run with more answers goes on from where the run with fewer waits -/
theorem Re.more (W : t.WF lp) (hbb : ∀ (u : Nat) (x : Bool), bits[u]? = some x → bits'[u]? = some x) {N : Nat} {c d : Cfg} (h : Re t bits B N c d) : (∀ s, c.at_ = .inl s → s < t.len) → ∀ {N' : Nat} {d' : Cfg}, Re t bits' B N' c d' → ∃ M, Re t bits' B M d d' := by
  induction h with
  | stop h hb => exact fun _ N' d' h' => ⟨N', h'⟩
  | step h hb r ih =>
    intro hc N' d' h'
    cases h with
    | ask ha hu dd =>
      have hs := hc _ rfl
      obtain ⟨M, r2, P2, _, d2, re2⟩ := h'.asked ha (hbb _ _ hu)
      obtain ⟨rfl, rfl⟩ := dp1_det W hs dd d2
      exact ih (fun s e => dp_lt W dd hs s e) re2
    | on ha dd =>
      have hs := hc _ rfl
      obtain ⟨M, r2, P2, _, d2, re2⟩ := h'.quiet ha
      obtain ⟨rfl, rfl⟩ := dp1_det W hs dd d2
      exact ih (fun s e => dp_lt W dd hs s e) re2
theorem Re.stopped {N : Nat} {c d : Cfg} (h : Re t bits B N c d) : Stop t bits d := by
  induction h with
  | stop h _ => exact h
  | step _ _ _ ih => exact ih
theorem Re.last {N : Nat} {c d : Cfg} (h : Re t bits B N c d) : d.pd.length ≤ B := by
  induction h with
  | stop _ h => exact h
  | step _ _ _ ih => exact ih
theorem Re.us {N : Nat} {c d : Cfg} (h : Re t bits B N c d) : c.us ≤ bits.length → c.us ≤ d.us ∧ d.us ≤ bits.length := by
  induction h with
  | stop _ h => exact fun z => ⟨Nat.le_refl _, z⟩
  | step h _ _ ih =>
    intro z
    cases h with
    | ask ha hu dd =>
      have := ih (bit_lt hu)
      exact ⟨by have := this.1; dsimp only at this ⊢; omega, this.2⟩
    | on ha dd => exact ih z
end
end FcM

set_option maxRecDepth 100000
set_option maxHeartbeats 4000000
namespace Fc
open PySem PySem.Spec PyProof.Rows L2 FcR
open Evl (Ex)
open FcM (Way Node Tab Pd)
/-! ### sessions -/
structure SesA where
  p : Addr
  dx : Addr
  g : Addr
  d : Addr
  q : Addr
  qx : Addr
  pp : Addr
def SesA.all (S : SesA) : List Addr := [S.p, S.g, S.d, S.q, S.pp]
abbrev SesA.M (S : SesA) : Addr → Prop := fun b => b ∈ S.all
structure Ses (K : PySem.W.Frag) (F H : Hp) (A : CAd) (rows : List Row) (lp : Nat → Nat) (S : SesA) (bits : List Bool) (s : Nat) (ts : List Addr) (cf : FcM.Cfg) : Prop where
  c : CodeH K F F A rows
  w : TW rows lp
  x : Ex F H
  ob : H S.p = some (.ins (He.ga K "Session") S.dx (fl_Session (.ref A.p) (.ref S.g) (.ref S.q) (.ref S.d)))
  gl : H S.g = some (.lst (bits.map bV))
  dl : H S.d = some (.lst (intsV cf.vs))
  ws : WS K F H A S.q S.qx S.pp s ts cf.at_ cf.pd
  fs : F S.p = none
  fg : F S.g = none
  fd : F S.d = none
  nd : S.all.Nodup
  st : FcM.Stop (tabOf rows) bits cf
  pb : cf.pd.length ≤ 1000
  sl : ∀ n, cf.at_ = .inl n → n < rows.length
  us : cf.us = bits.length
  nv : cf.vs.length ≤ 90000
  en : ∀ w, cf.at_ = .inr w → FcM.WOk 0 w
theorem Ses.in_ {K : PySem.W.Frag} {F H : Hp} {A : CAd} {rows : List Row} {lp : Nat → Nat} {S : SesA} {bits : List Bool} {s : Nat} {ts : List Addr} {cf : FcM.Cfg} (R : Ses K F H A rows lp S bits s ts cf) : ∀ b, S.M b → H b ≠ none ∧ F b = none := fun b hb => by
  unfold SesA.M SesA.all at hb
  simp only [List.mem_cons, List.not_mem_nil, or_false] at hb
  rcases hb with rfl | rfl | rfl | rfl | rfl
  · exact ⟨(by rw [R.ob]; exact fun z => nomatch z), R.fs⟩
  · exact ⟨(by rw [R.gl]; exact fun z => nomatch z), R.fg⟩
  · exact ⟨(by rw [R.dl]; exact fun z => nomatch z), R.fd⟩
  · exact ⟨(by rw [R.ws.ob]; exact fun z => nomatch z), R.ws.fq⟩
  · exact ⟨(by rw [R.ws.pl]; exact fun z => nomatch z), R.ws.fp⟩
theorem Ses.gr {K : PySem.W.Frag} {F H F2 H2 : Hp} {A : CAd} {rows : List Row} {lp : Nat → Nat} {S : SesA} {bits : List Bool} {s : Nat} {ts : List Addr} {cf : FcM.Cfg} (R : Ses K F H A rows lp S bits s ts cf) {M : Addr → Prop} (g : Gr M F H F2 H2) (hM : ∀ b, M b → ¬ S.M b) : Ses K F2 H2 A rows lp S bits s ts cf := by
  have a1 : S.M S.p := by simp [SesA.M, SesA.all]
  have a2 : S.M S.g := by simp [SesA.M, SesA.all]
  have a3 : S.M S.d := by simp [SesA.M, SesA.all]
  have a4 : S.M S.q := by simp [SesA.M, SesA.all]
  have a5 : S.M S.pp := by simp [SesA.M, SesA.all]
  have k : ∀ b o, S.M b → H b = some o → H2 b = some o := fun b o hb e => g.kp b o e fun z => hM b z hb
  have n : ∀ b, S.M b → F2 b = none := fun b hb => g.nw b (R.in_ b hb).1 (R.in_ b hb).2 fun z => hM b z hb
  exact ⟨R.c.ex g.ff g.ff, R.w, g.fh, k _ _ a1 R.ob, k _ _ a2 R.gl, k _ _ a3 R.dl, ⟨k _ _ a4 R.ws.ob, R.ws.sp, k _ _ a5 R.ws.pl, R.ws.pa.ex g.ff, n _ a4, n _ a5, R.ws.ne⟩, n _ a1, n _ a2, n _ a3, R.nd, R.st, R.pb, R.sl, R.us, R.nv, R.en⟩
theorem Ses.new {K : PySem.W.Frag} {F H H2 : Hp} {A : CAd} {rows : List Row} {lp : Nat → Nat} {S : SesA} {bits : List Bool} {s : Nat} {ts : List Addr} {cf : FcM.Cfg} (R : Ses K F H A rows lp S bits s ts cf) (e : Ex H H2) : Ses K F H2 A rows lp S bits s ts cf := R.gr (M := fun _ => False) (Gr.new R.x e) fun _ z => z.elim
def fs0 (a g : V) : List (Str × V) := [("source", a), ("given", g)]
def sp_begin (K : PySem.W.Frag) : Sp := fun vs H Q _ => ∃ (F : Hp) (A : CAd) (rows : List Row) (lp : Nat → Nat) (p dx g : Addr) (fs : List (Str × V)) (bits : List Bool) (k e N : Nat) (cf : FcM.Cfg), vs = [.ref p] ∧ CodeH K F F A rows ∧ TW rows lp ∧ Ex F H ∧ F p = none ∧ F g = none ∧ p ≠ g ∧
  H p = some (.ins (He.ga K "Session") dx fs) ∧ (fs = fs0 (.ref A.p) (.ref g) ∨ ∃ y z, fs = fl_Session (.ref A.p) (.ref g) y z) ∧ H g = some (.lst (bits.map bV)) ∧ bits.length ≤ 1000 ∧
  FcM.Ent (tabOf rows) k 0 e ∧ FcM.Re (tabOf rows) bits 1000 N ⟨.inl e, [], 0, []⟩ cf ∧ cf.us = bits.length ∧ cf.vs.length ≤ 90000 ∧ (∀ w, cf.at_ = .inr w → FcM.WOk 0 w) ∧
  ∀ (F' H' : Hp) (S : SesA) (s : Nat) (ts : List Addr), S.p = p → S.g = g → H S.q = none → H S.pp = none → H S.d = none → Gr (fun b => b = p) F H F' H' → Ses K F' H' A rows lp S bits s ts cf → Q .non H'
theorem fs_ses {a g : V} {fs : List (Str × V)} (h : fs = fs0 a g ∨ ∃ y z, fs = fl_Session a g y z) : fs.lookup ("source" : Str) = some a ∧ fs.length ≤ 4 ∧ fs.lookup ("begin" : Str) = none ∧ ∃ f1 : V → List (Str × V), (∀ y, putF "walker" y fs = f1 y) ∧ (∀ y, (f1 y).lookup ("walker" : Str) = some y) ∧ (∀ y, (f1 y).length ≤ 4) ∧ ∀ y z, putF "done" z (f1 y) = fl_Session a g y z := by
  rcases h with rfl | ⟨y, z, rfl⟩
  · exact ⟨by kernel_rfl, by simp [fs0], by kernel_rfl, fun y => [(("source" : Str), a), ("given", g), ("walker", y)], fun y => by kernel_rfl, fun y => by kernel_rfl, fun y => by simp, fun y z => by kernel_rfl⟩
  · exact ⟨by kernel_rfl, by simp [fl_Session], by kernel_rfl, fun y => fl_Session a g y z, fun y => by kernel_rfl, fun y => by kernel_rfl, fun y => by simp [fl_Session], fun y z => by kernel_rfl⟩
section
variable {P : Program} {w : World} {h : Heap} {K : PySem.W.Frag} {mg : Str → Option Value} {base : Heap}
abbrev N_Session_begin : List Str := ["self", "value"]
theorem sc_Session_begin : FnScope N_Session_begin ["self"] (defScope sd_Session_begin) := ⟨rfl, rfl, rfl, by decide +kernel, rfl, by decide +kernel, by decide +kernel⟩
theorem ok_Session_begin (T : Tx w h K mg) : Ok P w K mg base 6 ("Session", some "begin") ["self"] (sp_begin K) := by
  obtain ⟨fd, F⟩ := F_Session_begin T
  refine ⟨fd, ?_, F.bindsN (fun _ _ _ _ _ _ us hl => match us, hl with | [_], _ => rfl), F.kp⟩
  obtain ⟨fd_Walker___init__, G_Walker___init__, bi_Walker___init__, kp_Walker___init__⟩ := ok_Walker___init__ (P := P) (base := base) T
  obtain ⟨fd_Walker_answer, G_Walker_answer, bi_Walker_answer, kp_Walker_answer⟩ := ok_Walker_answer (P := P) (base := base) T
  obtain ⟨fd_Walker_go_on, G_Walker_go_on, bi_Walker_go_on, kp_Walker_go_on⟩ := ok_Walker_go_on (P := P) (base := base) T
  refine F.ok sc_Session_begin (fun vs H Q E h => ?_) (fun cdv A outer s H vs Q E hr h => ?_)
  · obtain ⟨F, A, rows, lp, p, dx, g, fs, bits, k, e, N, cf, rfl, C, W, xF, Fp, Fg, pg, hp, hfs, hg, hl, he, re, hus, hv, hok, Qq⟩ := h
    rfl
  · obtain ⟨F, A, rows, lp, p, dx, g, fs, bits, k, e, N, cf, rfl, C, W, xF, Fp, Fg, pg, hp, hfs, hg, hl, he, re, hus, hv, hok, Qq⟩ := h
    refine ⟨_, PSs.nox (pss_cons (ps_fld (pv 0) (pe_make (mk_Walker T) G_Walker___init__ (hr.mono (by decide)) rfl (g_Walker T) bi_Walker___init__ .nil passF (pa_cons (pe_fld (pv 0) rfl) pa_nil)) rfl) (pss_cons (ps_fld (pv 0) (pe_meth0 (pe_fld (pv 0) rfl) (c_Walker T) (me_Walker_go_on T) G_Walker_go_on (hr.mono (by decide)) bi_Walker_go_on .nil passF) rfl) (pss_one (ps_for PassesOwn.never rfl (pi_list (pe_fld (pv 0) rfl)) (pg_name (i := 1) sc_Session_begin.nd rfl (Or.inl rfl)) (pss_one (ps_expr (pe_bm PySem.F.plainAttrs_list PySem.F.slot_list_extend PySem.F.type_list_extend mt_extend (pe_fld (pv 0) rfl) (pa_cons (pe_meth (pe_fld (pv 0) rfl) (c_Walker T) (me_Walker_answer T) G_Walker_answer (hr.mono (by decide)) bi_Walker_answer .nil passF (pa_cons (pv 1) pa_nil)) pa_nil)))))))), ?_⟩
    obtain ⟨l1, l2, _, f1, p1, k1, m1, p2⟩ := fs_ses hfs
    refine ⟨_, rfl, p, _, _, _, _, rfl, hp, c_Session T, na_Session_source T, l1, fun q qx nq nd ne => ?_⟩
    generalize e2 : upd (upd _ qx _) q _ = H2
    obtain ⟨x2, hq2⟩ := make_of e2 nq nd
    clear e2
    have xF2 := xF.trans x2
    have fq : F q = none := ex_none xF nq
    refine ⟨F, A, rows, lp, q, qx, k, e, rfl, hq2, C, W, xF2, fq, he, fun H3 pp g3 npp ws3 => ⟨rfl, ?_⟩⟩
    have qp : q ≠ p := fun z => by rw [z, hp] at nq; cases nq
    have qg : q ≠ g := fun z => by rw [z, hg] at nq; cases nq
    have ppp : pp ≠ p := fun z => by rw [z, x2 _ _ hp] at npp; cases npp
    have ppg : pp ≠ g := fun z => by rw [z, x2 _ _ hg] at npp; cases npp
    have hp3 := g3.kp p _ (x2 _ _ hp) (fun z => qp z.symm)
    have hg3 := g3.kp g _ (x2 _ _ hg) (fun z => qg z.symm)
    -- self.walker = ..
    refine ⟨_, rfl, p, _, dx, _, rfl, hp3, c_Session T, na_Session_walker T, (by omega), ?_⟩
    rw [p1]
    generalize e4 : upd _ p _ = H4
    obtain ⟨s4, o4⟩ := set_of e4
    clear e4
    have xF4 : Ex F H4 := set_ex g3.fh Fp o4
    have g4 : Gr (fun b => b = p ∨ b = q) F H2 F H4 := (g3.mono fun _ z => .inr z).trans (Gr.set g3.fh (.inl rfl) Fp o4)
    have ws4 : WS K F H4 A q qx pp e [] (.inl e) [] := ⟨by rw [o4 q qp]; exact ws3.ob, ws3.sp, by rw [o4 pp ppp]; exact ws3.pl, ws3.pa, ws3.fq, ws3.fp, ws3.ne⟩
    have hg4 : H4 g = some (.lst (bits.map bV)) := by rw [o4 g (fun z => pg z.symm)]; exact hg3
    have R4 : Rn K F H4 A rows lp q qx pp bits cf N e [] (.inl e) [] 0 [] := ⟨C, W, xF4, fun n z => by cases z; exact FcM.ent_lt W.wf he W.wf.ne, ws4, re, hv, hok⟩
    -- self.done = self.walker.go_on()
    refine ⟨_, rfl, p, _, _, _, _, rfl, s4, c_Session T, na_Session_walker T, k1 _, q, _, _, rfl, ws4.ob, fm_Walker_go_on _ _ _ _, ?_⟩
    refine ⟨F, A, rows, lp, q, qx, pp, bits, cf, N, e, [], .inl e, [], 0, [], rfl, R4, fun F5 H5 s5 ts5 r5 P5 N5 ds p5 g5 R5 hN hA n5 f5 l5 => ?_⟩
    have p5p : p5 ≠ p := fun z => by rw [z, s4] at n5; cases n5
    have p5g : p5 ≠ g := fun z => by rw [z, hg4] at n5; cases n5
    have p5q : p5 ≠ q := fun z => by rw [z, ws4.ob] at n5; cases n5
    have p5pp : p5 ≠ pp := fun z => by rw [z, ws4.pl] at n5; cases n5
    have nMp : ¬ (p = q ∨ p = pp) := fun z => z.elim (fun z => qp z.symm) (fun z => ppp z.symm)
    have nMg : ¬ (g = q ∨ g = pp) := fun z => z.elim (fun z => qg z.symm) (fun z => ppg z.symm)
    have hp5 := g5.kp p _ s4 nMp
    have hg5 := g5.kp g _ hg4 nMg
    have Fp5 : F5 p = none := g5.nw p (by rw [s4]; exact fun z => nomatch z) Fp nMp
    have Fg5 : F5 g = none := g5.nw g (by rw [hg4]; exact fun z => nomatch z) Fg nMg
    refine ⟨_, rfl, p, _, dx, _, rfl, hp5, c_Session T, na_Session_done T, (by have := m1 (.ref q); omega), ?_⟩
    rw [p2]
    generalize e6 : upd _ p _ = H6
    obtain ⟨s6, o6⟩ := set_of e6
    clear e6
    have hg6 : H6 g = some (.lst (bits.map bV)) := by rw [o6 g (fun z => pg z.symm)]; exact hg5
    have xF6 : Ex F5 H6 := set_ex g5.fh Fp5 o6
    have R6 : Rn K F5 H6 A rows lp q qx pp bits cf N5 s5 ts5 r5 P5 0 ([] ++ ds) := ⟨R5.c, R5.w, xF6, R5.sl, ⟨by rw [o6 q qp]; exact R5.ws.ob, R5.ws.sp, by rw [o6 pp ppp]; exact R5.ws.pl, R5.ws.pa, R5.ws.fq, R5.ws.fp, R5.ws.ne⟩, R5.re, R5.nv, R5.en⟩
    have g6 : Gr (fun b => b = p ∨ b = q ∨ b = pp) F H2 F5 H6 := ((g4.mono fun _ z => z.imp id .inl).trans (g5.mono fun _ z => .inr z)).trans (Gr.set g5.fh (.inl rfl) Fp5 o6)
    -- for value in self.given
    refine ⟨_, rfl, p, _, _, _, _, rfl, s6, c_Session T, na_Session_given T, fl_Session_given _ _ _ _, g, rfl, ⟨_, Evl.sq_of hg6⟩, ?_⟩
    refine for_it (walk_list (xs := bits.map bV)) (fun i σ' H' => ∃ (F7 : Hp) (s7 : Nat) (ts7 : List Addr) (r7 : Nat ⊕ Way) (P7 : Pd) (v7 : List Nat) (m : Nat) (o1 : Option V), σ' = [some (.ref p), o1] ∧ Gr (fun b => b = q ∨ b = pp ∨ b = p5) F5 H6 F7 H' ∧ Rn K F7 H' A rows lp q qx pp bits cf m s7 ts7 r7 P7 i v7 ∧ (∀ n, r7 = .inl n → FcM.asks ((tabOf rows).nd n) = true) ∧ F7 p5 = none ∧ H' p5 = some (.lst (intsV v7))) ?_ ?_ ?_ ?_
    · exact ⟨F5, s5, ts5, r5, P5, [] ++ ds, N5, _, rfl, Gr.refl xF6, R6, hA, f5, by rw [o6 p5 p5p]; exact l5⟩
    · rintro i σ' H' _ ⟨F7, _, _, _, _, _, _, _, _, g7, _⟩
      exact Evl.sq_of (g7.kp g _ hg6 fun z => z.elim (fun z => qg z.symm) fun z => z.elim (fun z => ppg z.symm) fun z => p5g z.symm)
    · rintro i vi σ' Ha H7 hi ⟨F7, s7, ts7, r7, P7, v7, m, o1, rfl, g7, R7, hA7, f7, l7⟩ ⟨rfl, hvi⟩
      rw [List.length_map] at hi
      cases r7 with
      | inr w' =>
        have hcf := R7.re.ended
        rw [hcf] at hus
        exact absurd hus (Nat.ne_of_lt hi)
      | inl n =>
        obtain rfl : s7 = n := (R7.ws.sp n rfl).symm
        have hb : bits[i]? = some bits[i] := List.getElem?_eq_getElem hi
        rw [List.getElem?_map, hb] at hvi
        obtain rfl : bV bits[i] = vi := Option.some.inj hvi
        have ob7 := g7.kp p _ s6 fun z => z.elim (fun z => qp z.symm) fun z => z.elim (fun z => ppp z.symm) fun z => p5p z.symm
        refine ⟨_, rfl, p, _, _, _, _, rfl, ob7, c_Session T, na_Session_done T, fl_Session_done _ _ _ _, Or.inl ⟨rfl, _, Evl.sq_of l7⟩, ?_⟩
        refine ⟨_, rfl, p, _, _, _, _, rfl, ob7, c_Session T, na_Session_walker T, fl_Session_walker _ _ _ _, q, _, _, rfl, R7.ws.ob, fm_Walker_answer _ _ _ _, _, rfl, ?_⟩
        refine ⟨F7, A, rows, lp, q, qx, pp, bits, cf, m, s7, ts7, P7, i, v7, bits[i], rfl, R7, hA7 s7 rfl, hb, fun F8 H8 s8 ts8 r8 P8 N8 ds8 p8 g8 R8 hN8 hA8 n8 f8 l8 => ?_⟩
        have nM5 : ¬ (p5 = q ∨ p5 = pp) := fun z => z.elim p5q p5pp
        have l58 := g8.kp p5 _ l7 nM5
        have f58 : F8 p5 = none := g8.nw p5 (by rw [l7]; exact fun z => nomatch z) f7 nM5
        have lv8 : (v7 ++ ds8).length ≤ 90000 := Nat.le_trans R8.re.vs R8.nv
        refine ⟨p5, p8, _, _, rfl, rfl, l58, l8, sz (by unfold intsV; simp at lv8; simp; omega), ?_⟩
        generalize e9 : upd _ p5 _ = H9
        obtain ⟨s9, o9⟩ := set_of e9
        clear e9
        have g9 := (g7.trans (g8.mono fun _ z => z.imp id .inl)).trans (Gr.set g8.fh (.inr (.inr rfl)) f58 o9)
        refine ⟨F8, s8, ts8, r8, P8, v7 ++ ds8, N8, _, rfl, g9, ?_, hA8, f58, ?_⟩
        · exact ⟨R8.c, R8.w, set_ex R8.x f58 o9, R8.sl, ⟨by rw [o9 q p5q.symm]; exact R8.ws.ob, R8.ws.sp, by rw [o9 pp p5pp.symm]; exact R8.ws.pl, R8.ws.pa, R8.ws.fq, R8.ws.fp, R8.ws.ne⟩, R8.re, R8.nv, R8.en⟩
        · rw [s9]
          unfold intsV
          rw [List.map_append]
    · rintro σ' H7 ⟨F7, s7, ts7, r7, P7, v7, m, o1, rfl, g7, R7, hA7, f7, l7⟩
      rw [List.length_map] at R7
      have hcf : cf = ⟨r7, P7, bits.length, v7⟩ := by
        cases r7 with
        | inr w' => exact R7.re.ended
        | inl n => exact R7.re.waits (hA7 n rfl) (List.getElem?_eq_none (Nat.le_refl _))
      have ob7 := g7.kp p _ s6 fun z => z.elim (fun z => qp z.symm) fun z => z.elim (fun z => ppp z.symm) fun z => p5p z.symm
      have nM7 : ∀ b, b = p ∨ b = g → ¬ (b = q ∨ b = pp ∨ b = p5) := fun b hb z => by
        rcases hb with rfl | rfl
        · exact z.elim (fun z => qp z.symm) fun z => z.elim (fun z => ppp z.symm) fun z => p5p z.symm
        · exact z.elim (fun z => qg z.symm) fun z => z.elim (fun z => ppg z.symm) fun z => p5g z.symm
      have nHp5 : H p5 = none := by
        cases z : H p5 with
        | none => rfl
        | some o => rw [g4.kp p5 o (x2 _ _ z) (fun y => y.elim p5p p5q)] at n5; cases n5
      have nHpp : H pp = none := ex_none x2 npp
      have st := R7.re.stopped
      have lst := R7.re.last
      refine Qq F7 H7 ⟨p, dx, g, p5, q, qx, pp⟩ s7 ts7 rfl rfl nq nHpp nHp5 ?_ ⟨R7.c, R7.w, R7.x, ob7, g7.kp g _ hg6 (nM7 g (.inr rfl)), ?_, ?_, g7.nw p (by rw [s6]; exact fun z => nomatch z) Fp5 (nM7 p (.inl rfl)), g7.nw g (by rw [hg6]; exact fun z => nomatch z) Fg5 (nM7 g (.inr rfl)), f7, ?_, st, lst, ?_, hus, hv, hok⟩
      · have gH : Gr (fun b => b = p) F H F5 H6 := (Gr.new xF x2 : Gr (fun b => b = p) F H F H2).hide g6 fun x hx => by
          rcases hx with z | rfl | rfl
          · exact .inr z
          · exact .inl nq
          · exact .inl nHpp
        exact gH.hide g7 fun x hx => .inl (by rcases hx with rfl | rfl | rfl <;> assumption)
      · show H7 p5 = some (.lst (intsV cf.vs))
        rw [hcf]
        exact l7
      · rw [hcf]
        exact R7.ws
      · show [p, g, p5, q, pp].Nodup
        simp only [List.nodup_cons, List.mem_cons, List.not_mem_nil, or_false, not_or, List.nodup_nil, and_true, not_false_eq_true]
        exact ⟨⟨pg, p5p.symm, qp.symm, ppp.symm⟩, ⟨p5g.symm, qg.symm, ppg.symm⟩, ⟨p5q, p5pp⟩, ws4.ne⟩
      · rw [hcf]
        exact R7.sl
end

end Fc

set_option maxRecDepth 100000
set_option maxHeartbeats 4000000
namespace Fc
open PySem PySem.Spec PyProof.Rows L2 FcR
open Evl (Ex)
/-- what is raised: C(y), its field f -/
def RaisesA (K : PySem.W.Frag) (C f : Str) (H : Hp) (y : V) (E : XK) : Prop := ∀ H' d, Ex H H' → H d = none → H' d = some (.xd [(f, y)]) → E (.ref (He.ga K C)) (some d) H'
section
variable {P : Program} {w : World} {h : Heap} {K : PySem.W.Frag} {mg : Str → Option Value} {base : Heap}
abbrev N_InvalidCode___init__ : List Str := ["self", "number"]
theorem sc_InvalidCode___init__ : FnScope N_InvalidCode___init__ ["self", "number"] (defScope sd_InvalidCode___init__) := ⟨rfl, rfl, rfl, by decide +kernel, rfl, by decide +kernel, by decide +kernel⟩
theorem okF_InvalidCode___init__ (T : Tx w h K mg) : ∃ fd, FnOk P w K mg base (CX P w) 1 (He.fAd K ("InvalidCode", some "__init__")) fd ["self", "number"] (FcX.spX K (He.ga K "InvalidCode") "number") ∧ Binds K fd ["self", "number"] [] ∧ PySem.W.keepIn K (.ref (He.fAd K ("InvalidCode", some "__init__"))) = true ∧ FunD K "__init__" "InvalidCode.__init__" (defArgs sd_InvalidCode___init__) (defBody sd_InvalidCode___init__) (defScope sd_InvalidCode___init__) [] [] (He.fAd K ("InvalidCode", some "__init__")) fd := by
  obtain ⟨fd, F⟩ := F_InvalidCode___init__ T
  refine ⟨fd, ?_, F.bindsN (fun _ _ _ _ _ _ us hl => match us, hl with | [_, _], _ => rfl), F.kp, F⟩
  refine F.ok sc_InvalidCode___init__ (fun vs H Q E h => ?_) (fun cdv A outer s H vs Q E hr h => ?_)
  · obtain ⟨a, y, rfl, ea, q⟩ := h
    rfl
  · obtain ⟨a, y, rfl, ea, q⟩ := h
    refine ⟨_, PSs.nox (pss_one (FcX.ps_xst (pv 0) (pv 1))), ?_⟩
    exact ⟨y, rfl, .ref a, rfl, a, _, rfl, x_InvalidCode T, (xi_InvalidCode T).tk, ea, fun dx h1 h2 => q dx h1 h2⟩
theorem ok_InvalidCode___init__ (T : Tx w h K mg) : Ok P w K mg base 1 ("InvalidCode", some "__init__") ["self", "number"] (FcX.spX K (He.ga K "InvalidCode") "number") := by
  obtain ⟨fd, a, b, c, _⟩ := okF_InvalidCode___init__ (P := P) (base := base) T
  exact ⟨fd, a, b, c⟩
abbrev N_InvalidNumber___init__ : List Str := ["self", "number"]
theorem sc_InvalidNumber___init__ : FnScope N_InvalidNumber___init__ ["self", "number"] (defScope sd_InvalidNumber___init__) := ⟨rfl, rfl, rfl, by decide +kernel, rfl, by decide +kernel, by decide +kernel⟩
theorem okF_InvalidNumber___init__ (T : Tx w h K mg) : ∃ fd, FnOk P w K mg base (CX P w) 1 (He.fAd K ("InvalidNumber", some "__init__")) fd ["self", "number"] (FcX.spX K (He.ga K "InvalidNumber") "number") ∧ Binds K fd ["self", "number"] [] ∧ PySem.W.keepIn K (.ref (He.fAd K ("InvalidNumber", some "__init__"))) = true ∧ FunD K "__init__" "InvalidNumber.__init__" (defArgs sd_InvalidNumber___init__) (defBody sd_InvalidNumber___init__) (defScope sd_InvalidNumber___init__) [] [] (He.fAd K ("InvalidNumber", some "__init__")) fd := by
  obtain ⟨fd, F⟩ := F_InvalidNumber___init__ T
  refine ⟨fd, ?_, F.bindsN (fun _ _ _ _ _ _ us hl => match us, hl with | [_, _], _ => rfl), F.kp, F⟩
  refine F.ok sc_InvalidNumber___init__ (fun vs H Q E h => ?_) (fun cdv A outer s H vs Q E hr h => ?_)
  · obtain ⟨a, y, rfl, ea, q⟩ := h
    rfl
  · obtain ⟨a, y, rfl, ea, q⟩ := h
    refine ⟨_, PSs.nox (pss_one (FcX.ps_xst (pv 0) (pv 1))), ?_⟩
    exact ⟨y, rfl, .ref a, rfl, a, _, rfl, x_InvalidNumber T, (xi_InvalidNumber T).tk, ea, fun dx h1 h2 => q dx h1 h2⟩
theorem ok_InvalidNumber___init__ (T : Tx w h K mg) : Ok P w K mg base 1 ("InvalidNumber", some "__init__") ["self", "number"] (FcX.spX K (He.ga K "InvalidNumber") "number") := by
  obtain ⟨fd, a, b, c, _⟩ := okF_InvalidNumber___init__ (P := P) (base := base) T
  exact ⟨fd, a, b, c⟩
abbrev N_InvalidAnswers___init__ : List Str := ["self", "at"]
theorem sc_InvalidAnswers___init__ : FnScope N_InvalidAnswers___init__ ["self", "at"] (defScope sd_InvalidAnswers___init__) := ⟨rfl, rfl, rfl, by decide +kernel, rfl, by decide +kernel, by decide +kernel⟩
theorem okF_InvalidAnswers___init__ (T : Tx w h K mg) : ∃ fd, FnOk P w K mg base (CX P w) 1 (He.fAd K ("InvalidAnswers", some "__init__")) fd ["self", "at"] (FcX.spX K (He.ga K "InvalidAnswers") "at") ∧ Binds K fd ["self", "at"] [] ∧ PySem.W.keepIn K (.ref (He.fAd K ("InvalidAnswers", some "__init__"))) = true ∧ FunD K "__init__" "InvalidAnswers.__init__" (defArgs sd_InvalidAnswers___init__) (defBody sd_InvalidAnswers___init__) (defScope sd_InvalidAnswers___init__) [] [] (He.fAd K ("InvalidAnswers", some "__init__")) fd := by
  obtain ⟨fd, F⟩ := F_InvalidAnswers___init__ T
  refine ⟨fd, ?_, F.bindsN (fun _ _ _ _ _ _ us hl => match us, hl with | [_, _], _ => rfl), F.kp, F⟩
  refine F.ok sc_InvalidAnswers___init__ (fun vs H Q E h => ?_) (fun cdv A outer s H vs Q E hr h => ?_)
  · obtain ⟨a, y, rfl, ea, q⟩ := h
    rfl
  · obtain ⟨a, y, rfl, ea, q⟩ := h
    refine ⟨_, PSs.nox (pss_one (FcX.ps_xst (pv 0) (pv 1))), ?_⟩
    exact ⟨y, rfl, .ref a, rfl, a, _, rfl, x_InvalidAnswers T, (xi_InvalidAnswers T).tk, ea, fun dx h1 h2 => q dx h1 h2⟩
theorem ok_InvalidAnswers___init__ (T : Tx w h K mg) : Ok P w K mg base 1 ("InvalidAnswers", some "__init__") ["self", "at"] (FcX.spX K (He.ga K "InvalidAnswers") "at") := by
  obtain ⟨fd, a, b, c, _⟩ := okF_InvalidAnswers___init__ (P := P) (base := base) T
  exact ⟨fd, a, b, c⟩
abbrev N_InvalidBound___init__ : List Str := ["self", "bound"]
theorem sc_InvalidBound___init__ : FnScope N_InvalidBound___init__ ["self", "bound"] (defScope sd_InvalidBound___init__) := ⟨rfl, rfl, rfl, by decide +kernel, rfl, by decide +kernel, by decide +kernel⟩
theorem okF_InvalidBound___init__ (T : Tx w h K mg) : ∃ fd, FnOk P w K mg base (CX P w) 1 (He.fAd K ("InvalidBound", some "__init__")) fd ["self", "bound"] (FcX.spX K (He.ga K "InvalidBound") "bound") ∧ Binds K fd ["self", "bound"] [] ∧ PySem.W.keepIn K (.ref (He.fAd K ("InvalidBound", some "__init__"))) = true ∧ FunD K "__init__" "InvalidBound.__init__" (defArgs sd_InvalidBound___init__) (defBody sd_InvalidBound___init__) (defScope sd_InvalidBound___init__) [] [] (He.fAd K ("InvalidBound", some "__init__")) fd := by
  obtain ⟨fd, F⟩ := F_InvalidBound___init__ T
  refine ⟨fd, ?_, F.bindsN (fun _ _ _ _ _ _ us hl => match us, hl with | [_, _], _ => rfl), F.kp, F⟩
  refine F.ok sc_InvalidBound___init__ (fun vs H Q E h => ?_) (fun cdv A outer s H vs Q E hr h => ?_)
  · obtain ⟨a, y, rfl, ea, q⟩ := h
    rfl
  · obtain ⟨a, y, rfl, ea, q⟩ := h
    refine ⟨_, PSs.nox (pss_one (FcX.ps_xst (pv 0) (pv 1))), ?_⟩
    exact ⟨y, rfl, .ref a, rfl, a, _, rfl, x_InvalidBound T, (xi_InvalidBound T).tk, ea, fun dx h1 h2 => q dx h1 h2⟩
theorem ok_InvalidBound___init__ (T : Tx w h K mg) : Ok P w K mg base 1 ("InvalidBound", some "__init__") ["self", "bound"] (FcX.spX K (He.ga K "InvalidBound") "bound") := by
  obtain ⟨fd, a, b, c, _⟩ := okF_InvalidBound___init__ (P := P) (base := base) T
  exact ⟨fd, a, b, c⟩
abbrev N_NotWaiting___init__ : List Str := ["self", "end"]
theorem sc_NotWaiting___init__ : FnScope N_NotWaiting___init__ ["self", "end"] (defScope sd_NotWaiting___init__) := ⟨rfl, rfl, rfl, by decide +kernel, rfl, by decide +kernel, by decide +kernel⟩
theorem okF_NotWaiting___init__ (T : Tx w h K mg) : ∃ fd, FnOk P w K mg base (CX P w) 1 (He.fAd K ("NotWaiting", some "__init__")) fd ["self", "end"] (FcX.spX K (He.ga K "NotWaiting") "end") ∧ Binds K fd ["self", "end"] [] ∧ PySem.W.keepIn K (.ref (He.fAd K ("NotWaiting", some "__init__"))) = true ∧ FunD K "__init__" "NotWaiting.__init__" (defArgs sd_NotWaiting___init__) (defBody sd_NotWaiting___init__) (defScope sd_NotWaiting___init__) [] [] (He.fAd K ("NotWaiting", some "__init__")) fd := by
  obtain ⟨fd, F⟩ := F_NotWaiting___init__ T
  refine ⟨fd, ?_, F.bindsN (fun _ _ _ _ _ _ us hl => match us, hl with | [_, _], _ => rfl), F.kp, F⟩
  refine F.ok sc_NotWaiting___init__ (fun vs H Q E h => ?_) (fun cdv A outer s H vs Q E hr h => ?_)
  · obtain ⟨a, y, rfl, ea, q⟩ := h
    rfl
  · obtain ⟨a, y, rfl, ea, q⟩ := h
    refine ⟨_, PSs.nox (pss_one (FcX.ps_xst (pv 0) (pv 1))), ?_⟩
    exact ⟨y, rfl, .ref a, rfl, a, _, rfl, x_NotWaiting T, (xi_NotWaiting T).tk, ea, fun dx h1 h2 => q dx h1 h2⟩
theorem ok_NotWaiting___init__ (T : Tx w h K mg) : Ok P w K mg base 1 ("NotWaiting", some "__init__") ["self", "end"] (FcX.spX K (He.ga K "NotWaiting") "end") := by
  obtain ⟨fd, a, b, c, _⟩ := okF_NotWaiting___init__ (P := P) (base := base) T
  exact ⟨fd, a, b, c⟩
abbrev N_LimitExceeded___init__ : List Str := ["self", "limit"]
theorem sc_LimitExceeded___init__ : FnScope N_LimitExceeded___init__ ["self", "limit"] (defScope sd_LimitExceeded___init__) := ⟨rfl, rfl, rfl, by decide +kernel, rfl, by decide +kernel, by decide +kernel⟩
theorem okF_LimitExceeded___init__ (T : Tx w h K mg) : ∃ fd, FnOk P w K mg base (CX P w) 1 (He.fAd K ("LimitExceeded", some "__init__")) fd ["self", "limit"] (FcX.spX K (He.ga K "LimitExceeded") "limit") ∧ Binds K fd ["self", "limit"] [] ∧ PySem.W.keepIn K (.ref (He.fAd K ("LimitExceeded", some "__init__"))) = true ∧ FunD K "__init__" "LimitExceeded.__init__" (defArgs sd_LimitExceeded___init__) (defBody sd_LimitExceeded___init__) (defScope sd_LimitExceeded___init__) [] [] (He.fAd K ("LimitExceeded", some "__init__")) fd := by
  obtain ⟨fd, F⟩ := F_LimitExceeded___init__ T
  refine ⟨fd, ?_, F.bindsN (fun _ _ _ _ _ _ us hl => match us, hl with | [_, _], _ => rfl), F.kp, F⟩
  refine F.ok sc_LimitExceeded___init__ (fun vs H Q E h => ?_) (fun cdv A outer s H vs Q E hr h => ?_)
  · obtain ⟨a, y, rfl, ea, q⟩ := h
    rfl
  · obtain ⟨a, y, rfl, ea, q⟩ := h
    refine ⟨_, PSs.nox (pss_one (FcX.ps_xst (pv 0) (pv 1))), ?_⟩
    exact ⟨y, rfl, .ref a, rfl, a, _, rfl, x_LimitExceeded T, (xi_LimitExceeded T).tk, ea, fun dx h1 h2 => q dx h1 h2⟩
theorem ok_LimitExceeded___init__ (T : Tx w h K mg) : Ok P w K mg base 1 ("LimitExceeded", some "__init__") ["self", "limit"] (FcX.spX K (He.ga K "LimitExceeded") "limit") := by
  obtain ⟨fd, a, b, c, _⟩ := okF_LimitExceeded___init__ (P := P) (base := base) T
  exact ⟨fd, a, b, c⟩
end

end Fc

set_option maxRecDepth 100000
set_option maxHeartbeats 4000000
namespace FcL
open PySem PySem.Spec PyProof.Rows L2 FcR FcX LamX NdefX
/-! ### a lambda as a value: its words, the cells that it captured, its code object, its defaults -/
structure LF where
  params : Arguments
  body : Expr
  scope : Scope
  qual : Str
  cl : List (Str × Addr)
  c : Addr
  dV : Value
abbrev LF.fd (F : LF) (pm ctv : Value) : FuncData :=
  { name := "<lambda>", qualname := F.qual, params := F.params, body := .expr F.body, scope := F.scope, globals := mainGlobals, closure := F.cl, defaults := F.dV, kwdefaults := .none, doc := .none, pyModule := pm, annotations := none, code := .ref F.c, closureTuple := ctv, builtins := builtinsNs }
abbrev LF.nf (F : LF) : NF := ⟨"<lambda>", F.qual, F.params, [], F.scope, F.cl, F.c⟩
/-- the object at f is the lambda F -/
def LamO (f : Addr) (F : LF) : HO := .ext fun h => ∃ pm ctv : Value, h.get? f = some ({ cls := .type "function", data := .func (F.fd pm ctv) } : Obj)
theorem lamO_ne {f : Addr} {F : LF} (ps : Array Value) : LamO f F ≠ .tbl ps := fun z => by
  unfold LamO at z
  cases z
/-- its defaults -/
def Dfl (H : Hp) (dV : Value) (ds : List V) : Prop := (dV = .none ∧ ds = []) ∨ ∃ T, dV = .ref T ∧ ds ≠ [] ∧ H T = some (.tup ds)
theorem Dfl.ex {H H' : Hp} {dV : Value} {ds : List V} (d : Dfl H dV ds) (e : ∀ b o, H b = some o → (∀ ps, o ≠ .tbl ps) → H' b = some o) : Dfl H' dV ds := by
  rcases d with z | ⟨T, a, b, c⟩
  · exact .inl z
  · exact .inr ⟨T, a, b, e _ _ c fun ps z => by cases z⟩
/-- the lambda stands there -/
structure LamAt (H : Hp) (f : Addr) (F : LF) (ds : List V) : Prop where
  ob : H f = some (LamO f F)
  co : H F.c = some (CodeO F.c F.qual)
  df : Dfl H F.dV ds
theorem LamAt.ex {H H' : Hp} {f : Addr} {F : LF} {ds : List V} (d : LamAt H f F ds) (e : ∀ b o, H b = some o → (∀ ps, o ≠ .tbl ps) → H' b = some o) : LamAt H' f F ds :=
  ⟨e _ _ d.ob lamO_ne, e _ _ d.co codeO_ne, d.df.ex e⟩
/-- what the captured cells hold, in the base -/
abbrev CellsB (base : Heap) (cl : List (Str × Addr)) (fr : List Str) (ws : List (Option V)) : Prop := CellsAt cl fr ws base (fun _ => none)
abbrev LSp := List (Option V) → Hp → VK → XK → Prop
/-- what a call of the lambda promises -/
structure LOk (P : Program) (w : World) (K : PySem.W.Frag) (mg : Str → Option Value) (base : Heap) (k : Nat) (F : LF) (ds : List V) (fr : List Str) (sp : LSp) : Prop where
  run : ∀ (A : Around) (outer : List Env) (s : Shared) (H : Hp) (f : Addr) (ws : List (Option V)) (Q : VK) (E : XK), Room k A → Env0 P w K mg base A outer s H → LamAt H f F ds → CellsB base F.cl fr ws → sp ws H Q E →
    codeAny (model P w) A (.call (.ref f) ⟨[], []⟩) (CR (L2.CX P w) outer P w H s Q E) s
theorem LOk.mono {P : Program} {w : World} {K : PySem.W.Frag} {mg : Str → Option Value} {base : Heap} {j k : Nat} {F : LF} {ds : List V} {fr : List Str} {sp : LSp} (o : LOk P w K mg base j F ds fr sp) (h : j ≤ k) : LOk P w K mg base k F ds fr sp :=
  ⟨fun A outer s H f ws Q E hr => o.run A outer s H f ws Q E (hr.mono h)⟩
theorem cellsAt_of {P : Program} {w : World} {K : PySem.W.Frag} {mg : Str → Option Value} {base : Heap} {A : Around} {outer : List Env} {s : Shared} {H : Hp} {cl : List (Str × Addr)} {fr : List Str} {ws : List (Option V)} (e0 : Env0 P w K mg base A outer s H) (C : CellsB base cl fr ws) : CellsAt cl fr ws s.heap H := by
  have up : ∀ {c : Addr} {v : Option Value}, base.IsCell c v → s.heap.IsCell c v := fun {c v} ⟨o, ho, hd⟩ => ⟨o, (e0.bs _ _ ho).1, hd⟩
  refine ⟨C.len, fun y c e => ?_, C.inj, fun i y e => ?_⟩
  · obtain ⟨_, v, o, ho, hd⟩ := C.all y c e
    exact ⟨(e0.bs _ _ ho).2, v, up ⟨o, ho, hd⟩⟩
  · obtain ⟨c, hc, hv⟩ := C.has i y e
    refine ⟨c, hc, fun v ev => ?_⟩
    obtain ⟨u, r, z⟩ := hv v ev
    exact ⟨u, r, up z⟩
section
variable {P : Program} {w : World} {K : PySem.W.Frag} {mg : Str → Option Value} {base : Heap} {N ps fr : List Str} {F : LF} {k : Nat} {ds : List V} {sp : LSp}
theorem lok_of (S : NScope N ps fr F.scope) (hl : ds.length = ps.length) (hb : ∀ (s : Shared) (pm ctv : Value) (us : List Value), Vals ds us → ((F.dV = .none ∧ us = []) ∨ ∃ T o n, F.dV = .ref T ∧ us ≠ [] ∧ s.heap.get? T = some o ∧ o.data = .seq us.toArray n) → BindsTo s (F.fd pm ctv) ⟨[], []⟩ (ps.zip us))
    (hbody : ∀ (A : Around) (outer : List Env) (s : Shared) (H : Hp) (f : Addr) (ws : List (Option V)) (Q : VK) (E : XK), Room k (A.deeper (envF F.nf f s.heap.objs.size)) → ws.length = fr.length → sp ws H Q E →
      ∃ t, PE (ncx (L2.CX P w) P w K mg base N F.nf f A outer s H E) F.body t ∧ t (startF N ds ws) H Q) : LOk P w K mg base (k + 1) F ds fr sp := by
  refine ⟨fun A outer s H f ws Q E hr e0 la C hsp => ?_⟩
  have lim : s.heap.NoLimit := e0.mod.nolimit.keeps fun b o e => (e0.bs b o e).1
  obtain ⟨⟨pm, ctv, ho⟩, _, _⟩ := e0.hok f _ la.ob
  have Ca := cellsAt_of e0 C
  obtain ⟨us, r, hus⟩ : ∃ us, Vals ds us ∧ ((F.dV = .none ∧ us = []) ∨ ∃ T o n, F.dV = .ref T ∧ us ≠ [] ∧ s.heap.get? T = some o ∧ o.data = .seq us.toArray n) := by
    rcases la.df with ⟨z1, z2⟩ | ⟨T, z1, z2, z3⟩
    · rw [z2]
      exact ⟨[], .nil, .inl ⟨z1, rfl⟩⟩
    · obtain ⟨_, its, rv, ob, e1, _, n, e2⟩ := e0.hok T _ z3
      exact ⟨its, rv, .inr ⟨T, ob, n, z1, fun z => z2 (List.length_eq_zero_iff.mp (by rw [rv.length, z] <;> rfl)), e1, e2⟩⟩
  refine PySem.W.kla_callFunE hr.depth ho rfl S.co S.gen rfl (codeO_at e0.hok la.co) (hb s pm ctv us r hus _ _ _ _ ?_)
  refine wpAny_newFunctionEnv S.nocell (fun ⟨n, _⟩ hy => S.par n (List.of_mem_zip hy).1) (fun h₁ hns hsb => ⟨lim.fresh _ hsb, ?_⟩) S.kind
  show codeAny _ _ (.expr F.body (envF F.nf f s.heap.objs.size)) _ _
  have kp : ∀ b o, s.heap.get? b = some o → h₁.get? b = some o := fun b o e => hsb.extBut b o (Nat.ne_of_lt (Heap.lt_size e)) (Heap.get?_push_of_some _ e)
  obtain ⟨t, ht, hq⟩ := hbody A outer s H f ws Q E (hr.deeper _) C.len hsp
  have J := inv_startN (CX := L2.CX P w) (f := f) (E := E) (F := F.nf) (tk := s.toks + (ps.zip us).length) S hr.hd e0 hl r Ca hns kp
  refine PySem.W.kla_codeExpr (wpAny_mono (ht.run [] _ _ H Q J hq) (fun v s' hv => ?_) fun e s' he => he)
  obtain ⟨w', H', J', rv, q⟩ := hv
  exact ⟨w', H', J'.os, J'.bare, J'.base, J'.hok, rv, q⟩
end
/-! ### x(), x a name that holds a lambda -/
def tCallLam (base : Heap) (i : Nat) (S : LF → List V → List Str → LSp → Prop) (W : WX) : TE := fun σ H Q => ∃ f F ds fr sp ws, σ[i]? = some (some (.ref f)) ∧ S F ds fr sp ∧ LamAt H f F ds ∧ CellsB base F.cl fr ws ∧ sp ws H Q (WE W σ)
theorem pe_callLam {X : Cx} {k i : Nat} {x : Str} {p pos : Pos} {W : WX} {S : LF → List V → List Str → LSp → Prop} (A : ∀ F ds fr sp, S F ds fr sp → LOk X.prog X.w X.K X.mg X.base k F ds fr sp) (hr : Room k X.A) (hN : X.N[i]? = some x) (hv : Vis X.env.scope x) (tk : Takes X W)
    (hdb : (x == ("__debug__" : Str)) = false := by decide) (hcd : (x == ("__classdict__" : Str)) = false := by decide) : PE X (.Call (.Name x p) [] [] pos) (tCallLam X.base i S W) := by
  refine ⟨fun pins s σ H Q I h => ?_⟩
  obtain ⟨f, F, ds, fr, sp, ws, hs, hS, la, C, hq⟩ := h
  refine wpAny_Call_Name_kw (thn ((pe_var (pos := p) hN hv hdb hcd).run pins s σ H (fun v H1 => v = .ref f ∧ H1 = H) I ⟨.ref f, hs, rfl, rfl⟩) fun u s1 ⟨v, H1, I1, r1, q1⟩ => ?_)
  obtain ⟨rfl, rfl⟩ := q1
  obtain rfl : u = Value.ref f := r1
  obtain ⟨⟨pm, ctv, ho⟩, _, _⟩ := I1.hok f _ la.ob
  refine PySem.W.callWith_F0 (first := []) ⟨_, _, _, _, ho⟩ ?_
  refine wpAny_call (codeAny_mono ((A F ds fr sp hS).run X.A X.stack s1 _ f ws Q (WE W σ) hr I1.env0 la C hq) fun r s2 h2 => ?_)
  cases r with
  | error e => exact passAt tk σ pins _ _ e s2 I1 h2
  | ok fl =>
    cases fl with
    | ret u => exact I1.after h2
    | next => exact False.elim h2
    | brk => exact False.elim h2
    | cont => exact False.elim h2
/-! ### a base that has the running frame's cells -/
/-- the cells of the frame stand apart from the base and the frames -/
def Far (X : Cx) : Prop := ∀ y c, X.env.cells.lookup y = some c → X.base.get? c = none ∧ c ∉ frs X.stack
theorem far_of {X : Cx} {pins : List (Addr × Obj)} {σ : L2.St} {H : Hp} {s : Shared} (I : Inv X pins σ H s) (hf : ∀ y, X.fn y = true) : Far X := fun y c e => by
  have ab := I.ok.cab y c (hf y) e
  refine ⟨?_, fun z => ?_⟩
  · cases q : X.base.get? c with
    | none => rfl
    | some o => exact absurd (Heap.lt_size q) (Nat.not_lt.mpr (Nat.le_trans I.ok.bsz ab))
  · have out : c ∉ X.fs := fun z => by
      obtain ⟨_, o, ho, _⟩ := I.ok.funs.mem z
      exact absurd (Heap.lt_size ho) (Nat.not_lt.mpr ab)
    rcases I.ok.stk with q | ⟨q1, q2⟩
    · rw [q] at z
      exact out z
    · rw [q1] at z
      obtain ⟨ev, he, hq⟩ := List.mem_filterMap.mp z
      rcases List.mem_cons.mp he with e1 | e1
      · rw [e1, q2] at hq
        exact I.cne y c e (Option.some.inj hq).symm
      · exact out (List.mem_filterMap.mpr ⟨ev, e1, hq⟩)
/-- the base grown by the cells of the frame env, which hold what σ says -/
structure Grown (X : Cx) (env : Env) (N : List Str) (σ : L2.St) (base' : Heap) : Prop where
  up : ∀ b o, X.base.get? b = some o → base'.get? b = some o
  kin : X.K.In base'
  cells : ∀ (Y : Cx) (cl : List (Str × Addr)) (fr : List Str) (js : List Nat), Y.env = env → Y.N = N → Caps Y cl fr js → CellsB base' cl fr (js.map (slotAt σ))
theorem Grown.env0 {X Y : Cx} {pins pinsY : List (Addr × Obj)} {σ σY : L2.St} {H HY : Hp} {s sY : Shared} (I : Inv X pins σ H s) (IY : Inv Y pinsY σY HY sY) (far : ∀ y c, Y.env.cells.lookup y = some c → X.base.get? c = none ∧ c ∉ frs X.stack)
    (kp : ∀ y c o, Y.env.cells.lookup y = some c → sY.heap.get? c = some o → s.heap.get? c = some o ∧ H c = none) :
    ∃ base', Grown X Y.env Y.N σY base' ∧ Env0 X.prog X.w X.K X.mg base' X.A X.stack s H := by
  classical
  let Hh : Hp := fun b => if (∃ o, X.base.get? b = some o) ∨ (∃ y, Y.env.cells.lookup y = some b) then none else some (.own 0)
  have e0 := I.env0
  have hb : ∀ b o, X.base.get? b = some o → (hidT s.heap Hh).get? b = some o := fun b o e => hidT_get (e0.bs b o e).1 (if_pos (.inl ⟨o, e⟩))
  have hc : ∀ y c o, Y.env.cells.lookup y = some c → sY.heap.get? c = some o → (hidT s.heap Hh).get? c = some o := fun y c o e ho => hidT_get (kp y c o e ho).1 (if_pos (.inr ⟨y, e⟩))
  have bk : ∀ b o, (hidT s.heap Hh).get? b = some o → s.heap.get? b = some o ∧ H b = none ∧ ((∃ o, X.base.get? b = some o) ∨ (∃ y, Y.env.cells.lookup y = some b)) := fun b o e => by
    obtain ⟨h1, h2⟩ := of_hidT e
    by_cases q : (∃ o, X.base.get? b = some o) ∨ (∃ y, Y.env.cells.lookup y = some b)
    · refine ⟨h1, ?_, q⟩
      rcases q with ⟨o', z⟩ | ⟨y, z⟩
      · exact (e0.bs b o' z).2
      · obtain ⟨v, oc, hoc, _⟩ := IY.cell y b z
        exact (kp y b oc z hoc).2
    · have z : Hh b = some (.own 0) := if_neg q
      rw [z] at h2
      cases h2
  have up : ∀ {c : Addr} {v : Option Value} {y : Str}, Y.env.cells.lookup y = some c → sY.heap.IsCell c v → (hidT s.heap Hh).IsCell c v := fun {c v y} e ⟨o, ho, hd⟩ => ⟨o, hc y c o e ho, hd⟩
  have mod : Mod X.K X.mg (hidT s.heap Hh) := by
    obtain ⟨m1, m2, ⟨mb, m3, m4⟩, m5⟩ := e0.mod
    exact ⟨m1.keeps hb, m2.keeps hb, ⟨mb, m3.keeps hb, m4⟩, m5.keeps hb⟩
  refine ⟨hidT s.heap Hh, ⟨hb, mod.kin, fun Z cl fr js eZ eN cp => ?_⟩, e0.frames, mod, fun b o e => ⟨(bk b o e).1, (bk b o e).2.1⟩, Nat.le_of_eq (hidT_size _ _), ?_, e0.frf, e0.hok, e0.bare⟩
  · have cpY : Caps Y cl fr js := by
      obtain ⟨c1, c2, c3, c4⟩ := cp
      rw [eZ] at c1 c2 c3
      rw [eN] at c4
      exact ⟨c1, c2, c3, c4⟩
    have C := cells_of IY cpY
    refine ⟨C.len, fun y c e => ⟨rfl, ?_⟩, C.inj, fun i y e => ?_⟩
    · obtain ⟨_, v, z⟩ := C.all y c e
      exact ⟨v, up (cpY.sub y c e) z⟩
    · obtain ⟨c, h1, h2⟩ := C.has i y e
      refine ⟨c, h1, fun v ev => ?_⟩
      obtain ⟨u, r, z⟩ := h2 v ev
      exact ⟨u, r, up (cpY.sub y c h1) z⟩
  · have all : ∀ l : List Env, (∀ b ∈ frs l, b ∈ frs X.stack) → s.heap.FunFrames X.base l → s.heap.FunFrames (hidT s.heap Hh) l := by
      intro l
      induction l with
      | nil => intro _ _; trivial
      | cons env r ih =>
        intro hs hl
        obtain ⟨hk, ⟨L, o, hf, hn, ho, hd⟩, hr⟩ := hl
        have hL : L ∈ frs X.stack := hs L (List.mem_filterMap.mpr ⟨env, List.mem_cons_self, hf⟩)
        refine ⟨hk, ⟨L, o, hf, ?_, ho, hd⟩, ih (fun b hb => hs b ?_) hr⟩
        · cases q : (hidT s.heap Hh).get? L with
          | none => rfl
          | some o' =>
            rcases (bk L o' q).2.2 with ⟨_, z⟩ | ⟨y, z⟩
            · rw [hn] at z
              cases z
            · exact absurd hL (far y L z).2
        · obtain ⟨ev, he, hq⟩ := List.mem_filterMap.mp hb
          exact List.mem_filterMap.mpr ⟨ev, List.mem_cons_of_mem _ he, hq⟩
    exact all _ (fun _ hb => hb) e0.funs
/-! ### g(.., lambda, ..) in the def that made the lambda -/
def tCallG (X : Cx) (env : Env) (N : List Str) (σM : L2.St) (sp : Heap → Sp) (t : TA) : TE := fun σ H Q => t σ H fun vs H1 => ∀ base', Grown X env N σM base' → sp base' vs H1 Q (fun _ _ _ => False)
theorem run_g {X Y : Cx} {pins pinsY : List (Addr × Obj)} {σ σY : L2.St} {H HY : Hp} {s sY : Shared} {k : Nat} {f : Addr} {fd : FuncData} {ps : List Str} {sp : Heap → Sp} {Q : VK} {us : List Value} {vs : List V}
    (F : ∀ base', (∀ b o, X.base.get? b = some o → base'.get? b = some o) → FnG X.prog X.w X.K X.mg base' k f fd ps (sp base')) (hgd : X.A.guards = some []) (hr : Room k X.A) (hb : Binds X.K fd ps [])
    (I : Inv X pins σ H s) (IY : Inv Y pinsY σY HY sY) (far : ∀ y c, Y.env.cells.lookup y = some c → X.base.get? c = none ∧ c ∉ frs X.stack)
    (kp : ∀ y c o, Y.env.cells.lookup y = some c → sY.heap.get? c = some o → s.heap.get? c = some o ∧ H c = none) (r : Vals vs us) (h : ∀ base', Grown X Y.env Y.N σY base' → sp base' vs H Q (fun _ _ _ => False)) :
    wpAny (model X.prog X.w) X.A (call (.ref f) us) (EP X pins σ Q) X.xe s := by
  obtain ⟨base', gr, e0⟩ := Grown.env0 I IY far kp
  exact run_fnG (F base' gr.up) hgd hr hb e0 I r (h base' gr)
def tCallGs (X : Cx) (sp : Heap → Sp) (t : TA) : TE := fun σ => tCallG X X.env X.N σ sp t σ
theorem pe_callG {X : Cx} {k : Nat} {f : Addr} {fd : FuncData} {ps : List Str} {sp : Heap → Sp} {x : Str} {p pos : Pos} {e : Expr} {es : List Expr} {t : TA}
    (F : ∀ base', (∀ b o, X.base.get? b = some o → base'.get? b = some o) → FnG X.prog X.w X.K X.mg base' k f fd ps (sp base')) (hgd : X.A.guards = some []) (hr : Room k X.A) (hg : Gl X x) (hm : X.mg x = some (.ref f)) (hk : PySem.W.keepIn X.K (.ref f) = true) (hb : Binds X.K fd ps [])
    (hfn : ∀ y, X.fn y = true) (ha : PA X (e :: es) t) (hdb : (x == ("__debug__" : Str)) = false := by decide)
    (he : starEach (e :: es) X.env = (false, eval e X.env) :: starEach es X.env := by rfl) (hpl : (backTo pos (starEach es X.env)).any (·.1) = false := by rfl) : PE X (.Call (.Name x p) (e :: es) [] pos) (tCallGs X sp t) := by
  refine ⟨fun pins s σ H Q I h => ?_⟩
  refine wpAny_Call_Name_kw (ld_glob I hg hm ?_ hdb)
  refine PySem.W.callWith_K (h₀ := X.base) I.ok.mod.kin hk (thn (ha.run pos pins s σ H _ I h) fun us s1 ⟨vs, H1, I1, r, q⟩ => ⟨I1.kIn, ?_⟩) he hpl
  exact run_g F hgd hr hb I1 I1 (far_of I1 hfn) (fun y c o e ho => ⟨ho, I1.freeC y c e⟩) r q
end FcL

set_option maxRecDepth 100000
set_option maxHeartbeats 4000000
namespace FcL
open PySem PySem.Spec PyProof.Rows L2 FcR FcX LamX NdefX
/-! ### making a lambda, with or without defaults -/
section
variable {M : Model} {A : Around} {E : Value → Shared → Prop} {s : Shared} {F : LF} {env : Env} {c P : Addr} {ps : Array Value} {pos : Pos} {line : Nat} {mg : Str → Option Value} {Q : Value → Shared → Prop}
/-- what is left once the defaults are there -/
theorem tail_made (hcl : closureFor F.scope env = pure F.cl) (hgl : env.globals = mainGlobals) (hg : s.heap.Ns mainGlobals mg) (hco : env.code = .ref c) (C : PySem.W.CodeHd s.heap c P) (hP : s.heap.get? P = some { cls := .none, data := .fields ps }) (ht : TriplesOk ps.toList) (gP : mainGlobals ≠ P) (hb : s.heap.BuiltinsAt mg P)
    (new : codeAmong pos ps.toList = none → ∀ (c' : Addr) (ctv : Value) (h' : Heap) (tk : Tok), Heap.ExtBut P s.heap h' → s.heap.objs.size ≤ c' → c' < h'.objs.size → h'.CodeRec (.ref c') F.qual → h'.get? P = some { cls := .none, data := .fields (ps ++ #[rawInt pos.line, rawInt pos.col, .ref c']) } →
      Q (.ref h'.objs.size) { s with heap := h'.push { cls := .type "function", data := .func ({ F with c := c' }.fd ((mg "__name__").getD .none) ctv) }, toks := tk })
    (hit : ∀ c', codeAmong pos ps.toList = some (.ref c') → ∀ (ctv : Value) (h' : Heap) (tk : Tok), (∀ b o, s.heap.get? b = some o → h'.get? b = some o) → s.heap.objs.size ≤ h'.objs.size →
      Q (.ref h'.objs.size) { s with heap := h'.push { cls := .type "function", data := .func ({ F with c := c' }.fd ((mg "__name__").getD .none) ctv) }, toks := tk })
    (hcv : ∀ cv, codeAmong pos ps.toList = some cv → ∃ c', cv = .ref c') :
    wpAny M A (makeTail "<lambda>" F.qual F.params (.expr F.body) F.scope env F.dV .none none pos line) Q E s := by
  obtain ⟨bm, ob, b1, b2, _, b3, b4, b5, b6, b7⟩ := hb
  have up1 : ∀ (oT : Obj) b o, s.heap.get? b = some o → (s.heap.push oT).get? b = some o := fun oT b o e => Heap.get?_push_of_some _ e
  unfold makeTail
  rw [hcl, hgl]
  refine wpAny_bind (wpAny_pure ?_)
  cases hc : codeAmong pos ps.toList with
  | none =>
    cases hF : F.cl with
    | nil =>
      simp only [List.isEmpty_nil, if_true]
      refine wpAny_bind (wpAny_pure (wpAny_bind (wpAny_functionCodeX hco (C.code hP ht) (C.tab hP) hc fun c' h' tk hx k1 k2 _ k3 k4 _ => ?_)))
      have hg' := hg.extBut hx gP
      refine wpAny_bind (wpAny_builtinsFor hg' b1 b2 (hx _ _ b3 b4) b5 b6 b7 (wpAny_bind (wpAny_nsGet hg' (wpAny_bind (wpAny_pure (wpAny_newObj_type ?_ (by size_fits)))))))
      have z := new hc c' .none h' tk hx k1 k2 k3 k4.2
      unfold LF.fd at z
      rw [hF] at z
      exact z
    | cons q r =>
      simp only [List.isEmpty_cons, Bool.false_eq_true, if_false]
      refine wpAny_bind (wpAny_newTextTuple (wpAny_bind (wpAny_functionCodeX hco ((C.keeps (up1 _)).code (up1 _ _ _ hP) ht) ((C.keeps (up1 _)).tab (up1 _ _ _ hP)) hc fun c' h' tk hx k1 k2 _ k3 k4 _ => ?_)))
      have hg' := (hg.push _).extBut hx gP
      have hx' : Heap.ExtBut P s.heap h' := fun b o hb e => hx b o hb (up1 _ _ _ e)
      refine wpAny_bind (wpAny_builtinsFor hg' b1 b2 (hx' _ _ b3 b4) b5 b6 b7 (wpAny_bind (wpAny_nsGet hg' (wpAny_bind (wpAny_pure (wpAny_newObj_type ?_ (by size_fits)))))))
      have z := new hc c' (.ref s.heap.objs.size) h' tk hx' (Nat.le_trans (by rw [Heap.size_push]; omega) k1) k2 k3 k4.2
      unfold LF.fd at z
      rw [hF] at z
      exact z
  | some cv =>
    obtain ⟨c', rfl⟩ := hcv cv hc
    cases hF : F.cl with
    | nil =>
      simp only [List.isEmpty_nil, if_true]
      refine wpAny_bind (wpAny_pure (wpAny_bind (wpAny_functionCode_hit hco (C.code hP ht) hc ?_)))
      refine wpAny_bind (wpAny_builtinsFor hg b1 b2 b4 b5 b6 b7 (wpAny_bind (wpAny_nsGet hg (wpAny_bind (wpAny_pure (wpAny_newObj_type ?_ (by size_fits)))))))
      have z := hit c' hc .none s.heap s.toks (fun _ _ e => e) (Nat.le_refl _)
      unfold LF.fd at z
      rw [hF] at z
      exact z
    | cons q r =>
      simp only [List.isEmpty_cons, Bool.false_eq_true, if_false]
      refine wpAny_bind (wpAny_newTextTuple (wpAny_bind (wpAny_functionCode_hit hco ((C.keeps (up1 _)).code (up1 _ _ _ hP) ht) hc ?_)))
      refine wpAny_bind (wpAny_builtinsFor (hg.push _) b1 b2 (up1 _ _ _ b4) b5 b6 b7 (wpAny_bind (wpAny_nsGet (hg.push _) (wpAny_bind (wpAny_pure (wpAny_newObj_type ?_ (by size_fits)))))))
      have z := fun oT : Obj => hit c' hc (.ref s.heap.objs.size) (s.heap.push oT) s.toks (up1 oT) (by rw [Heap.size_push]; omega)
      unfold LF.fd at z
      rw [hF] at z
      exact z _
end
/-- all but the tables of T stays -/
def ExtT (T : List (Addr × Str)) (H H' : Hp) : Prop := ∀ b o, H b = some o → (∀ p ∈ T, p.1 ≠ b) → H' b = some o
theorem ExtT.n {T : List (Addr × Str)} {H H' : Hp} (e : ExtT T H H') (t : Tabs T H) : ExtN H H' := fun b o h n => e b o h fun p hp z => by
  obtain ⟨ps, h1, _⟩ := t p hp
  rw [z, h] at h1
  exact n ps (Option.some.inj h1)
section
variable {X : Cx} {pins : List (Addr × Obj)} {σ : L2.St} {H : Hp} {s : Shared}
theorem inv_lam {F : LF} {t' : Nat} {pm ctv : Value} (I : Inv X pins σ H s) :
    Inv X pins σ (upd H s.heap.objs.size (LamO s.heap.objs.size F)) { s with heap := s.heap.push { cls := .type "function", data := .func (F.fd pm ctv) }, toks := t' } := by
  refine I.laid (a := s.heap.objs.size) (fun b u e => Heap.get?_push_of_some _ e) (Nat.le_refl _) ?_
  have e : (s.heap.push ({ cls := .type "function", data := .func (F.fd pm ctv) } : Obj)).get? s.heap.objs.size = some ({ cls := .type "function", data := .func (F.fd pm ctv) } : Obj) := Heap.get?_push_size _ rfl
  exact ⟨⟨pm, ctv, e⟩, ⟨_, e⟩, fun h1 h2 ⟨p, t, z⟩ st => ⟨p, t, st _ z⟩⟩
/-- the lambda's object, its code object (new, or found in the table) -/
theorem lam_made {T : List (Addr × Str)} {c P : Addr} {F : LF} {pos : Pos} {E : Value → Shared → Prop} {Q : Value → Shared → Prop} {ds : List V} (I : Inv X pins σ H s) (TB : TabB X.base X.mg c P) (hco : X.env.code = .ref c)
    (hm : (P, F.qual) ∈ T) (hu : ∀ p ∈ T, p.1 = P → p.2 = F.qual) (hT : Tabs T H) (hcl : closureFor F.scope X.env = pure F.cl) (hd : Dfl H F.dV ds)
    (h : ∀ (f c' : Addr) (H1 : Hp) (s' : Shared), Inv X pins σ H1 s' → ExtT T H H1 → (∀ b, H1 b = none → H b = none) → Tabs T H1 → H f = none → LamAt H1 f { F with c := c' } ds → Q (.ref f) s') :
    wpAny (model X.prog X.w) X.A (makeTail "<lambda>" F.qual F.params (.expr F.body) F.scope X.env F.dV .none none pos pos.line) Q E s := by
  obtain ⟨ps, hP, ht, ha⟩ := hT _ hm
  have bP : s.heap.BuiltinsAt X.mg P := TB.bm.keeps I.bk
  have hP' : s.heap.get? P = some { cls := .none, data := .fields ps } := I.hok P _ hP
  refine tail_made (mg := X.mg) (c := c) (P := P) hcl I.ok.glob (I.mod.glob.keeps I.bk) hco (TB.code.keeps I.bk) hP' ht TB.gP bP (fun hc c' ctv h' tk hx hge hlt hrec htb => ?_) (fun c' hc ctv h' tk hx hsz => ?_) fun cv hc => ?_
  · obtain ⟨c2, oc, vs, t, e2, hoc, hdd, hv⟩ := hrec
    cases e2
    have nC : H c' = none := I.hok.fresh hge
    have I1 := inv_table (t' := tk) (more := #[rawInt pos.line, rawInt pos.col, .ref c']) (h' := h') I hP (fun b o hb e => hx b o hb e) htb hge ⟨oc, vs, t, hoc, hdd, hv⟩
    have hE : ExtN H (upd (upd H P (.tbl (ps ++ #[rawInt pos.line, rawInt pos.col, .ref c']))) c' (CodeO c' F.qual)) := fun b o e n => by
      rw [upd_ne (ne_of_none e nC), upd_ne (fun z => n ps (Option.some.inj (e.symm.trans (by rw [z]; exact hP))))]
      exact e
    have eL : (ps ++ #[rawInt pos.line, rawInt pos.col, .ref c']).toList = ps.toList ++ [rawInt pos.line, rawInt pos.col, .ref c'] := by simp
    have T1 : Tabs T (upd (upd H P (.tbl (ps ++ #[rawInt pos.line, rawInt pos.col, .ref c']))) c' (CodeO c' F.qual)) := fun p hp => by
      by_cases hb : p.1 = P
      · rw [hu p hp hb, hb]
        refine ⟨_, by rw [upd_ne (ne_of_none hP nC), upd_same], by rw [eL]; exact PySem.TriplesOk_snoc _ _ _ _ ht, fun p' cv hcv => ?_⟩
        rw [eL] at hcv
        rcases among_app _ ht hcv with z | z
        · obtain ⟨c0, e1, e2⟩ := ha p' cv z
          exact ⟨c0, e1, hE _ _ e2 codeO_ne⟩
        · exact ⟨c', z, upd_same⟩
      · obtain ⟨ps', a1, a2, a3⟩ := hT p hp
        refine ⟨ps', by rw [upd_ne (ne_of_none a1 nC), upd_ne hb]; exact a1, a2, fun p' cv hcv => ?_⟩
        obtain ⟨c0, e1, e2⟩ := a3 p' cv hcv
        exact ⟨c0, e1, hE _ _ e2 codeO_ne⟩
    have nF := I1.hok.fresh (Nat.le_refl _)
    have I2 := inv_lam (F := { F with c := c' }) (t' := tk) (pm := (X.mg "__name__").getD .none) (ctv := ctv) I1
    have hT2 : ExtT T H (upd (upd (upd H P (.tbl (ps ++ #[rawInt pos.line, rawInt pos.col, .ref c']))) c' (CodeO c' F.qual)) h'.objs.size (LamO h'.objs.size { F with c := c' })) := fun b o e n => by
      have z : upd (upd H P (.tbl (ps ++ #[rawInt pos.line, rawInt pos.col, .ref c']))) c' (CodeO c' F.qual) b = some o := by rw [upd_ne (ne_of_none e nC), upd_ne (fun z => n _ hm z.symm)]; exact e
      exact (upd_ne (ne_of_none z nF)).trans z
    have hE2 : ExtN H (upd (upd (upd H P (.tbl (ps ++ #[rawInt pos.line, rawInt pos.col, .ref c']))) c' (CodeO c' F.qual)) h'.objs.size (LamO h'.objs.size { F with c := c' })) := fun b o e n => (upd_ne (ne_of_none (hE b o e n) nF)).trans (hE b o e n)
    refine h h'.objs.size c' _ _ I2 hT2 (fun b e => upd_none (upd_none (upd_none e))) (T1.ext fun b o e => (upd_ne (ne_of_none e nF)).trans e) (I.hok.fresh (Nat.le_trans hge (Nat.le_of_lt hlt))) ⟨upd_same, ?_, hd.ex hE2⟩
    exact (upd_ne (Nat.ne_of_lt hlt)).trans upd_same
  · obtain ⟨c2, e2, hco2⟩ := ha pos _ hc
    cases e2
    have I1 : Inv X pins σ H { s with heap := h', toks := tk } := I.kept hx
    have nF : H h'.objs.size = none := I1.hok.fresh (Nat.le_refl _)
    have I2 := inv_lam (F := { F with c := c' }) (t' := tk) (pm := (X.mg "__name__").getD .none) (ctv := ctv) I1
    have up : ∀ b o, H b = some o → upd H h'.objs.size (LamO h'.objs.size { F with c := c' }) b = some o := fun b o e => (upd_ne (ne_of_none e nF)).trans e
    exact h h'.objs.size c' _ _ I2 (fun b o e _ => up b o e) (fun b e => upd_none e) (hT.ext up) nF ⟨upd_same, up _ _ hco2, hd.ex fun b o e _ => up b o e⟩
  · obtain ⟨c2, e2, _⟩ := ha pos cv hc
    exact ⟨c2, e2⟩
end
/-- the reading of «lambda: ..» -/
def tLamV (X : Cx) (T : List (Addr × Str)) (ds : List V) (fr : List Str) (js : List Nat) (mk : List (Str × Addr) → Addr → Value → LF) : TE := fun _ H Q => Tabs T H ∧ ∀ (f : Addr) (cl : List (Str × Addr)) (c' : Addr) (dV : Value) (H1 : Hp),
  ExtT T H H1 → (∀ b, H1 b = none → H b = none) → Tabs T H1 → H f = none → LamAt H1 f (mk cl c' dV) ds → Caps X cl fr js → Q (.ref f) H1
section
variable {X : Cx} {T : List (Addr × Str)} {c P : Addr} {params : Arguments} {body : Expr} {scope : Scope} {pos : Pos} {fr : List Str} {js : List Nat}
theorem pe_lam (TB : TabB X.base X.mg c P) (hco : X.env.code = .ref c) (hm : (P, X.env.qual ++ "<lambda>") ∈ T) (hu : ∀ p ∈ T, p.1 = P → p.2 = X.env.qual ++ "<lambda>") (hn : ndefB X.env.scope scope fr = true) (hjs : js.map (fun j => X.N[j]?) = fr.map some)
    (hdef : defaultsOf params X.env = ([], [])) : PE X (.Lambda params body scope pos) (tLamV X T [] fr js fun cl c' dV => ⟨params, body, scope, X.env.qual ++ "<lambda>", cl, c', dV⟩) := by
  refine ⟨fun pins s σ H Q I h => ?_⟩
  obtain ⟨hT, h⟩ := h
  have hfr : ∀ y ∈ scope.names, y.2 = .free → ∃ c, X.env.cells.lookup y.1 = some c := fun y hy e => (ndef_free hn y hy e).elim (fun z => I.ok.has _ (.inl z)) fun z => I.ok.has _ (.inr z)
  refine PySem.W.kla_eval hdef ?_
  rw [makeFunction_eq]
  simp only [List.zip_nil_right, List.filterMap_nil, List.isEmpty_nil, if_true, pure_bind]
  refine lam_made (F := ⟨params, body, scope, X.env.qual ++ "<lambda>", cloFrom X.env.cells scope.names [], 0, .none⟩) I TB hco hm hu hT (closure_ok hfr) (.inl ⟨rfl, rfl⟩) fun f c' H1 s' I1 eN nn T1 f0 la => ?_
  exact ⟨.ref f, H1, I1, rfl, h f _ c' .none H1 eN nn T1 f0 la (Caps.made I.ok (ndef_free hn) (ndef_fr hn) hjs)⟩
/-- lambda x=n: .., n an int that is written there -/
theorem pe_lamD {n : Int} {p : Pos} {j : Nat} (TB : TabB X.base X.mg c P) (hco : X.env.code = .ref c) (hm : (P, X.env.qual ++ "<lambda>") ∈ T) (hu : ∀ p ∈ T, p.1 = P → p.2 = X.env.qual ++ "<lambda>") (hn : ndefB X.env.scope scope fr = true) (hjs : js.map (fun j => X.N[j]?) = fr.map some)
    (hdef : defaultsOf params X.env = ([eval (.Constant (.int n) j p) X.env], [])) : PE X (.Lambda params body scope pos) (tLamV X T [.int n] fr js fun cl c' dV => ⟨params, body, scope, X.env.qual ++ "<lambda>", cl, c', dV⟩) := by
  refine ⟨fun pins s σ H Q I h => ?_⟩
  obtain ⟨hT, h⟩ := h
  have hfr : ∀ y ∈ scope.names, y.2 = .free → ∃ c, X.env.cells.lookup y.1 = some c := fun y hy e => (ndef_free hn y hy e).elim (fun z => I.ok.has _ (.inl z)) fun z => I.ok.has _ (.inr z)
  rw [arm_eval_Lambda, hdef]
  show wpAny _ _ (do let dv ← evalAll [eval (.Constant (.int n) j p) X.env]; let kdv ← holding dv (evalAllOpt []); makeFunction "<lambda>" (X.env.qual ++ "<lambda>") params (.expr body) scope X.env dv kdv [] pos pos.line) _ _ s
  refine wpAny_bind (wpAny_bind ((pe_int (X := X)).run pins s σ H (fun v H' => v = .int n ∧ H' = H) I ⟨rfl, rfl⟩ |> fun z => thn z fun u s1 ⟨v, H1, I1, r1, q1⟩ => ?_))
  obtain ⟨rfl, rfl⟩ := q1
  refine wpAny_bind (wpAny_holding (wpAny_pure (wpAny_pure (wpAny_bind (wpAny_holding (wpAny_pure ?_))))))
  rw [makeFunction_eq]
  simp only [List.zip_nil_right, List.filterMap_nil, List.isEmpty_nil, List.isEmpty_cons, Bool.false_eq_true, if_true, if_false, pure_bind]
  refine wpAny_bind (wpAny_newTextTuple ?_)
  have I2 : Inv X pins σ (upd H1 s1.heap.objs.size (.tup [.int n])) { s1 with heap := s1.heap.push { cls := .type "tuple", data := .seq [u].toArray } } := by
    refine I1.laid (t' := s1.toks) (a := s1.heap.objs.size) (fun b o e => Heap.get?_push_of_some _ e) (Nat.le_refl _) ⟨by show 1 ≤ sizeLine; decide, [u], .cons r1 .nil, _, Heap.get?_push_size _ rfl, rfl, _, rfl⟩
  have nT := I1.hok.fresh (Nat.le_refl s1.heap.objs.size)
  have up : ∀ b o, H1 b = some o → upd H1 s1.heap.objs.size (.tup [.int n]) b = some o := fun b o e => (upd_ne (ne_of_none e nT)).trans e
  refine lam_made (F := ⟨params, body, scope, X.env.qual ++ "<lambda>", cloFrom X.env.cells scope.names [], 0, .ref s1.heap.objs.size⟩) I2 TB hco hm hu (hT.ext up) (closure_ok hfr) (.inr ⟨_, rfl, by simp, upd_same⟩) fun f c' H2 s' I3 eN nn T1 f0 la => ?_
  exact ⟨.ref f, H2, I3, rfl, h f _ c' _ H2 (fun b o e n => eN b o (up b o e) n) (fun b e => upd_none (nn b e)) T1 (upd_none f0) la (Caps.made I.ok (ndef_free hn) (ndef_fr hn) hjs)⟩
end
end FcL

set_option maxRecDepth 100000
set_option maxHeartbeats 4000000
namespace FcL
open PySem PySem.Spec PyProof.Rows L2 FcR FcX LamX NdefX
/-! ### [g(x, ..) for x in xs] in the def that made the lambdas -/
/-- the reading of a comprehension whose element leans on the def's own names -/
def tLcG (wi : TI) (g : TG) (te : L2.St → TE) (vs : List Nat) : TE := fun σ => tLc wi g tYes (te σ) vs σ
section
variable {X : Cx}
theorem pe_lcG {elt tg iter : Expr} {scope : Scope} {own : List (Str × Nat)} {pos : Pos} {wi : TI} {g : TG} {te : L2.St → TE} (hc : X.calm = true) (hN : X.N.Nodup) (hi : PI X tg iter wi) (ok : BlkOk X.N X.env.scope scope own)
    (hg : ∀ (s : Shared) (H : Hp) (C : Addr) (cl : List (Str × Addr)) (fp : List Addr), PG (X.blk s H scope (compEnvC scope cl C X.env) fp) tg g)
    (he : ∀ (pins : List (Addr × Obj)) (σ : L2.St) (s : Shared) (H : Hp) (C : Addr) (cl : List (Str × Addr)) (fp : List Addr), Inv X pins σ H s → (∀ y c, X.env.cells.lookup y = some c → c ∉ fp) → PE (X.blk s H scope (compEnvC scope cl C X.env) fp) elt (te σ))
    (hs : ∀ x, foldedSetIterable iter X.env x = pure x := by intro _; rfl) : PE X (.ListComp elt [⟨tg, iter, [], 0⟩] scope pos) (tLcG wi g te (own.map (·.2))) := by
  refine ⟨fun pins s σ H Q I h => ?_⟩
  rw [eval_ListComp]
  have cells : ∀ y ∈ scope.names, y.2 = .free → ∃ c, X.env.cells.lookup y.1 = some c := fun y hy e => (ok.free y hy e).elim (fun z => I.ok.has _ (.inl z)) fun z => I.ok.has _ (.inr z)
  refine wpAny_comprehension_free (use := none) rfl hs (closure_ok cells) ok.kind (fun y hy e => by rw [ok.uniq y hy, e]) (thn (hi.run pins s σ H _ I h) fun xv s1 hx => thn hx fun itv s2 h2 => ?_)
  obtain ⟨it, fp, tn, J, H2, rfl, I2, T, st2, f2, q⟩ := h2
  refine wpAny_newObj_type (newEnv_comp ?_) (by show 0 ≤ sizeLine; decide)
  have nD : H2 s2.heap.objs.size = none := I2.hok.fresh (Nat.le_refl _)
  obtain ⟨W, ⟨m0, w0⟩, turn⟩ := q _ nD
  have I3 : Inv X pins σ (upd H2 s2.heap.objs.size (.lst [])) { s2 with heap := s2.heap.push { cls := .type "list", data := .seq ([] : List Value).toArray } } :=
    I2.laid (t' := s2.toks) (fun b o e => Heap.get?_push_of_some _ e) (Nat.le_refl _) ⟨Nat.zero_le _, [], 0, .nil, Heap.get?_push_size _ rfl⟩
  generalize e3 : ({ s2 with heap := s2.heap.push { cls := .type "list", data := .seq ([] : List Value).toArray } } : Shared) = s3 at I3
  have z3 : s3.heap = s2.heap.push { cls := .type "list", data := .seq ([] : List Value).toArray } := by rw [← e3]
  have lt2 : ∀ b ∈ fp, b < s2.heap.objs.size := fun b hb => by
    obtain ⟨o, e, _⟩ := T.obj _ _ st2 b hb
    exact Heap.lt_size e
  have f3 : ∀ b ∈ fp, FpOk X pins (upd H2 s2.heap.objs.size (.lst [])) b ∧ b < s3.heap.objs.size := fun b hb =>
    ⟨⟨(upd_ne (Nat.ne_of_lt (lt2 b hb))).trans (f2 b hb).1, (f2 b hb).2⟩, by rw [z3, Heap.size_push]; exact Nat.lt_succ_of_lt (lt2 b hb)⟩
  have st3 : tn 0 s3.heap := T.keep _ _ _ st2 fun b _ o e => by rw [z3]; exact Heap.get?_push_of_some _ e
  have I4 := block_start I3 ok hN f3
  generalize upd H2 s2.heap.objs.size (.lst []) = H3 at I3 I4 w0 f3
  generalize s2.heap.objs.size = D at turn
  generalize ecl : cellsFrom (s3.heap.objs.size + 1) scope.names (cloFrom X.env.cells scope.names []) = cl at I4
  have pg := hg s3 H3 s3.heap.objs.size cl fp
  have pe := he pins σ s3 H3 s3.heap.objs.size cl fp I3 fun y c e hm => (f3 c hm).1.2.2.2.2.1 y c e rfl
  generalize ece : compEnvC scope cl s3.heap.objs.size X.env = ce at I4 pg pe
  have cL : ce.locals = s3.heap.objs.size := by rw [← ece] <;> rfl
  generalize e4 : ({ s3 with heap := pushCells (s3.heap.push { cls := .type "dict", data := .dict #[] }) scope.names } : Shared) = s4 at I4
  have st4 : tn 0 s4.heap := T.keep _ _ _ st3 fun b _ o e => by rw [← e4]; exact pushCells_keeps _ _ _ _ (Heap.get?_push_of_some _ e)
  have loop : codeAny (model X.prog X.w) X.A (.compLoop (.ListComp elt [⟨tg, iter, [], 0⟩] scope pos) 0 (.ref it) (.ref D) ce) (compPost (model X.prog X.w) X.A X.xe none (EP X pins σ Q) (.ref D) s3.heap.objs.size) s4 := by
    have stat : ∀ {σ' : L2.St} {H' : Hp} {s' : Shared}, Inv (X.blk s3 H3 scope ce fp) [] σ' H' s' → (∀ b ∈ fp, H' b = none) → ∀ b ∈ fp, FpOk (X.blk s3 H3 scope ce fp) [] H' b := fun {σ' H' s'} I' hn b hb =>
      ⟨hn b hb, (I'.ok.exf b hb).1, I'.ok.exfs b hb, .inl hb, (I'.ok.exf b hb).2, fun p hp => absurd (show p ∈ ([] : List (Addr × Obj)) ++ [] from hp) (by simp)⟩
    refine compLoop_any (fun n s' => ∃ i H', Inv (X.blk s3 H3 scope ce fp) [] (wipe σ (own.map (·.2))) H' s' ∧ tn i s'.heap ∧ (∀ b ∈ fp, H' b = none) ∧ W i n H') ?_ m0 ⟨0, H3, I4, st4, fun b hb => (f3 b hb).1.1, w0⟩
    rintro n s5 ⟨i, H5, I5, st5, n5, w5⟩
    rcases turn i n H5 w5 with ⟨stop, qq⟩ | ⟨go, Nx, hNx, step⟩
    · refine thnF (T.done (X.blk s3 H3 scope ce fp) rfl rfl rfl hc i [] s5 _ H5 (fun _ _ => False) I5 (stat I5 n5) st5 stop) fun r s6 ⟨hr, I6⟩ => ?_
      subst hr
      have fpx : ∀ b ∈ fp, _ := fun b hb => (f3 b hb).1.2.2.2
      have I7 : Inv X pins σ H5 s6 := I3.call' (ch := fp) I6.os I6.base I6.hok I6.bare fun b hb => ⟨(fpx b hb).1, (f3 b hb).1.2.1, (fpx b hb).2.1, (fpx b hb).2.2⟩
      obtain ⟨m, hn, _⟩ := I6.loc
      have hn : s6.heap.Ns ce.locals m := hn
      have nC : H5 ce.locals = none := I6.free
      rw [cL] at hn nC
      refine ⟨m, hn, fun h'' sb => ?_⟩
      obtain ⟨g0, g1, g2, g3, g4, g5⟩ := I3.fpOk (H' := H5) (Nat.le_refl _) nC
      exact ⟨.ref D, H5, I7.turned (t' := s6.toks) (fun b o hb e => (sb.2 b hb).trans e) g0 g1 g3 g4 g5, rfl, qq⟩
    · refine thnF (T.item (X.blk s3 H3 scope ce fp) rfl rfl rfl hc i [] s5 _ H5 (fun _ _ => False) I5 (stat I5 n5) st5 go) fun r s6 ⟨u, hr, h6⟩ => ?_
      subst hr
      refine thnF h6 fun _ s7 ⟨x, H7, I7, r7, y7, st7, n7⟩ => ?_
      refine thnF (pg.run _ s7 _ H7 x u _ (I7.pinned (stat I7 n7) (T.obj _ _ st7)) r7 (step x H7 y7)) fun _ s8 ⟨σ8, H8, I8, hw8, q8⟩ => ?_
      refine thnF ((pts_nil (X := X.blk s3 H3 scope ce fp)).run _ s8 σ8 H8 _ I8 q8) fun b s9 ⟨H9, I9, q9⟩ => ?_
      have fin : ∀ {s' : Shared} {H' : Hp}, Inv (X.blk s3 H3 scope ce fp) ([] ++ pinsAt fp s7.heap) σ8 H' s' → Nx H' → ∃ m, m < n ∧ ∃ i H', Inv (X.blk s3 H3 scope ce fp) [] (wipe σ (own.map (·.2))) H' s' ∧ tn i s'.heap ∧ (∀ b ∈ fp, H' b = none) ∧ W i m H' := fun {s' H'} I' nx => by
        obtain ⟨m', hm, w'⟩ := hNx H' nx
        have pin' : ∀ b ∈ fp, ∀ o, s7.heap.get? b = some o → s'.heap.get? b = some o ∧ H' b = none := fun b hb o e =>
          let z := I'.pin (b, o) (List.mem_append_right _ (List.mem_append_right _ (mem_pinsAt hb e)))
          ⟨z.1, z.2.1⟩
        refine ⟨m', hm, i + 1, H', (I'.unpinned (pins := [])).weak (by rw [← hw8, wipe_length]) (fun j v e => ?_), T.keep _ _ _ st7 fun b hb o e => (pin' b hb o e).1, fun b hb => ?_, w'⟩
        · rw [← hw8] at e
          exact (wipe_some e).1
        · obtain ⟨o, e, _⟩ := T.obj _ _ st7 b hb
          exact (pin' b hb o e).2
      cases b with
      | false =>
        simp only [Bool.false_eq_true, if_false] at q9 ⊢
        exact fin I9 q9
      | true =>
        simp only [if_true] at q9 ⊢
        refine thnF (pe.run _ s9 σ8 H9 _ I9 q9) fun z s10 ⟨yv, H10, I10, r10, acc, hD10, hz10, nx⟩ => ?_
        exact app_ok (X := X.blk s3 H3 scope ce fp) I10 hD10 hz10 r10 fun s11 I11 => fin I11 nx
  subst ece ecl e4 e3
  exact codeAny_compStart_list loop (T.self X.A 0 _ _ _ st4 loop)
/-- g(.., x, ..) there -/
theorem pe_callGB {s3 : Shared} {H3 : Hp} {scope : Scope} {ce : Env} {fp : List Addr} {pinsM : List (Addr × Obj)} {σM : L2.St} {k : Nat} {f : Addr} {fd : FuncData} {ps : List Str} {sp : Heap → Sp} {x : Str} {p pos : Pos} {e : Expr} {es : List Expr} {t : TA}
    (F : ∀ base', (∀ b o, X.base.get? b = some o → base'.get? b = some o) → FnG X.prog X.w X.K X.mg base' k f fd ps (sp base')) (hgd : X.A.guards = some []) (hr : Room k X.A) (hg : Gl (X.blk s3 H3 scope ce fp) x) (hm : X.mg x = some (.ref f)) (hk : PySem.W.keepIn X.K (.ref f) = true) (hb : Binds X.K fd ps [])
    (hfn : ∀ y, X.fn y = true) (IM : Inv X pinsM σM H3 s3) (nfp : ∀ y c, X.env.cells.lookup y = some c → c ∉ fp) (ha : PA (X.blk s3 H3 scope ce fp) (e :: es) t) (hdb : (x == ("__debug__" : Str)) = false := by decide)
    (he : starEach (e :: es) ce = (false, eval e ce) :: starEach es ce := by rfl) (hpl : (backTo pos (starEach es ce)).any (·.1) = false := by rfl) : PE (X.blk s3 H3 scope ce fp) (.Call (.Name x p) (e :: es) [] pos) (tCallG X X.env X.N σM sp t) := by
  refine ⟨fun pins s σ H Q I h => ?_⟩
  refine wpAny_Call_Name_kw (ld_glob I hg hm ?_ hdb)
  refine PySem.W.callWith_K (h₀ := X.base) I.ok.mod.kin hk (thn (ha.run pos pins s σ H _ I h) fun us s1 ⟨vs, H1, I1, r, q⟩ => ⟨I1.kIn, ?_⟩) he hpl
  have far := far_of IM hfn
  refine run_g (X := X.blk s3 H3 scope ce fp) F hgd hr hb I1 IM far (fun y c o e ho => ?_) r fun base' gr => q base' ⟨gr.up, gr.kin, gr.cells⟩
  have n3 := IM.freeC y c e
  exact ⟨I1.base.keep c o ho n3 (far y c e).2 (nfp y c e), I1.base.free c o ho n3 (nfp y c e)⟩
end
end FcL

set_option maxRecDepth 100000
set_option maxHeartbeats 4000000
namespace FcL
open PySem PySem.Spec PyProof.Rows L2 FcR FcX LamX NdefX
/-! ### repr(e) where no repr is under way -/
/-- data, or an empty dict -/
inductive DpE (K : PySem.W.Frag) (H : Hp) : V → PyData → Prop
  | dp {v : V} {d : PyData} (h : Dp K H v d) (c : PyData.canLay0 d = true) : DpE K H v d
  | dict {a : Addr} (h : H a = some (.dK [])) : DpE K H (.ref a) (.dict [])
def rRepr (K : PySem.W.Frag) : List V → Hp → VK → Prop := fun xs H Q => ∃ (v : V) (d : PyData), xs = [v] ∧ DpE K H v d ∧ d.showable = true ∧ d.depth ≤ 64 ∧ d.shown.length ≤ sizeLine ∧ Q (.str d.shown) H
section
variable {X : Cx} {k : Nat}
theorem call_repr (hg : X.A.guards = some []) (hu : X.A.units + 100 < cLine) : CallR X (.builtin "repr") (rRepr X.K) := by
  intro pins s σ H xs us Q I r h
  obtain ⟨v, d, rfl, dv, sh, dp, sz, q⟩ := h
  obtain ⟨u, rfl, ru⟩ := vals1 r
  have fin : ∀ (h' : Heap) (t : Tok) (tk : Nat), (∀ b o, s.heap.get? b = some o → h'.get? b = some o) → EP X pins σ Q (.str d.shown t) { s with heap := h', toks := tk } := fun h' t tk kp => ⟨.str d.shown, H, I.kept kp, ⟨t, rfl⟩, q⟩
  have viaRef : ∀ (a : Addr) (as : List Addr), Reads s.heap (.ref a) d as → (d.hasDict = true → sysModules ∉ as) → wpAny (model X.prog X.w) X.A (call (.builtin "repr") [.ref a]) (EP X pins σ Q) X.xe s := fun a as rd hs =>
    repr_of_reads' rd sh hs hg (by omega) (fun _ _ e => e) (fun h' t tk kp => fin h' t tk kp) sz
  have same : EP X pins σ Q (.str d.shown s.toks) { s with toks := s.toks + 1 } := ⟨.str d.shown, H, I.tok _, ⟨_, rfl⟩, q⟩
  cases dv with
  | dict hd =>
    obtain rfl : u = Value.ref _ := ru
    obtain ⟨_, hsy, vs, kv, o, es, ep, e1, e2, e3, _, e4, _⟩ := I.hok _ _ hd
    cases kv
    have ez : es.toList = [] := by
      generalize es.toList = l at e4
      cases e4
      rfl
    refine viaRef _ _ (Reads.dict (kvs := []) e1 e2.1 e3 (by rw [ez]; exact .nil) (by rw [ez]; exact .nil)) fun _ z => ?_
    simp at z
    rw [z] at hsy
    simp at hsy
  | dp hdv can =>
    obtain ⟨as, rd⟩ := Dp.reads I d v u hdv ru
    cases rd with
    | none =>
      rw [PyData.shown_none] at same
      exact PySem.P.repr_of_none same
    | bool b =>
      rw [PyData.shown_bool] at same
      exact PySem.P.repr_of_bool (by cases b <;> exact same)
    | int i t =>
      rw [PyData.shown_int] at same
      refine PySem.P.repr_of_int ?_ same
      simpa [PyData.showable] using sh
    | str x t =>
      rw [PyData.shown_str] at same sz
      exact PySem.P.repr_of_str same sz
    | list h1 h2 h3 h4 => exact viaRef _ _ (.list h1 h2 h3 h4) fun z => by rw [PyData.hasDict_of_canLay _ can] at z; cases z
    | tuple h1 h2 h3 h4 => exact viaRef _ _ (.tuple h1 h2 h3 h4) fun z => by rw [PyData.hasDict_of_canLay _ can] at z; cases z
    | dict h1 h2 h3 h4 h5 => cases hdv
end
end FcL
namespace Fc
open PySem
theorem b_repr : bootBuiltins "repr" = some (.builtin "repr") := by decide +kernel
end Fc

set_option maxRecDepth 100000
set_option maxHeartbeats 4000000
namespace FcL
open PySem PySem.Spec PyProof.Rows L2 FcR FcX LamX NdefX
/-! ### o[i] by an own __getitem__, and o.m(k = v): one of several promises -/
def tIxS (C : Addr) (S : Sp → Prop) (W : WX) (ta ti : TE) : TE := fun σ H Q => ta σ H fun x H1 => ti σ H1 fun y H2 => ∃ a dx fs, x = .ref a ∧ H2 a = some (.ins C dx fs) ∧ ∃ sp, S sp ∧ sp [x, y] H2 Q (WE W σ)
theorem fnIn_of {K : PySem.W.Frag} {x qual : Str} {params : Arguments} {body : List Stmt} {scope : Scope} {dvs : List V} {kws : List (Str × V)} {f : Addr} {fd : FuncData} (F : FunD K x qual params body scope dvs kws f fd) : PySem.W.fnIn K f = true := by
  obtain ⟨_, _, _, _, _, _, _, _, _, _, rfl, lk, _⟩ := F.ex
  unfold PySem.W.fnIn
  rw [lk]
section
variable {X : Cx} {k : Nat} {f C : Addr} {S : Sp → Prop} {W : WX} {o i : Expr} {pos apos : Pos} {ta ti : TE} {m : Str}
theorem run_in1 {fd : FuncData} {ps : List Str} {sp : Sp} (F : FnOk X.prog X.w X.K X.mg X.base (L2.CX X.prog X.w) k f fd ps sp) (hr : Room k X.A.in1) (hb : Binds X.K fd ps []) (tk : Takes X W) {pins : List (Addr × Obj)} {σ : L2.St} {H : Hp} {s : Shared} {us : List Value} {vs : List V} {Q : VK}
    (I : Inv X pins σ H s) (r : Vals vs us) (h : sp vs H Q (WE W σ)) : wpAny (model X.prog X.w) X.A.in1 (call (.ref f) us) (EP X pins σ Q) X.xe s := by
  have e := I.env0
  have e0 : Env0 X.prog X.w X.K X.mg X.base X.A.in1 X.stack s H := ⟨e.frames, e.mod, e.bs, e.bsz, e.funs, e.frf, e.hok, e.bare⟩
  have hl := F.len _ _ _ _ h
  have b := hb s us I.kIn (by rw [List.append_nil, ← r.length]; exact hl)
  rw [List.append_nil] at b
  refine wpAny_call (codeAny_mono (F.run _ X.stack s H ⟨us, []⟩ us vs _ _ hr e0 b r h) fun r s' hq => ?_)
  cases r with
  | error e => exact passAt tk σ pins _ _ e s' I hq
  | ok fl =>
    cases fl with
    | ret w => exact I.after hq
    | next => exact False.elim hq
    | brk => exact False.elim hq
    | cont => exact False.elim hq
theorem pe_ixS (A : ∀ sp, S sp → HeldX X.prog X.w X.K X.mg X.base k f sp) (hm : Meth X.K C "__getitem__" f) (hfn : PySem.W.fnIn X.K f = true) (hr : Room (k + 1) X.A) (tk : Takes X W) (ha : PE X o ta) (hi : PE X i ti)
    (hsl : ∀ x v, subscripted i true (.ref x) v = runValue (.builtin "lifetime.subscript" ⟨[.ref x, v], []⟩) := by intro _ _; with_unfolding_all rfl) : PE X (.Subscript o i pos) (tIxS C S W ta ti) := by
  refine ⟨fun pins s σ H Q I h => ?_⟩
  refine Subscript_ (binT ha hi I h fun v u s2 x y H2 I2 rx ry q => ?_)
  obtain ⟨a, dx, fs, rfl, hx, sp, hS, q⟩ := q
  obtain rfl : v = Value.ref a := rx
  obtain ⟨fd, ps, F, _, hb⟩ := (A sp hS).ex
  obtain ⟨mA, J, _⟩ := ins_get I2.hok hx
  obtain ⟨od, J, _⟩ := J.look
  obtain ⟨mm, hF⟩ := I2.fr
  exact PySem.W.sub_K hF I2.ok.mod.kin J hm.at_ hfn hm.fn (run_in1 F hr.in1 hb tk I2 (.cons (show L2.RelV (.ref a) (Value.ref a) from rfl) (.cons ry .nil)) q) (hsl _ _)
end
def tMethW (C : Addr) (m : Str) (sp : Sp) (g : List V → List V) (n : Nat) (E : XK) (ta : TE) (tk : TA) : TE := fun σ H Q => ta σ H fun x H1 => ∃ a dx fs, x = .ref a ∧ H1 a = some (.ins C dx fs) ∧ fs.lookup m = none ∧ tk σ H1 fun zs H2 => zs.length = n ∧ sp (x :: g zs) H2 Q E
section
variable {X : Cx} {CX : CXT} {C f : Addr} {fd : FuncData} {ps ks : List Str} {sp : Sp} {E : XK} {k : Nat} {m : Str} {o : Expr} {apos pos : Pos} {kws : List Keyword} {ta : TE} {tk : TA} {g : List Value → List Value} {gV : List V → List V}
theorem pe_methW {pl : Sem Bool} (F : FnOk X.prog X.w X.K X.mg X.base CX k f fd ps sp) (he : PE X o ta) (c : Cls X.K C) (hm : Meth X.K C m f) (hr : Room k X.A)
    (hb : ∀ (s : Shared) (y : Value) (ws : List Value), ws.length = ks.length → BindsTo s fd ⟨[y], ks.zip ws⟩ (ps.zip (y :: g ws))) (hrel : ∀ {zs : List V} {ws : List Value}, Vals zs ws → zs.length = ks.length → Vals (gV zs) (g ws)) (hx : Passes CX X E) (hkw : PK X kws tk)
    (hall : (backToKw pos (keywordEach kws X.env)).all (·.1.isSome) = true := by rfl) (hks : (backToKw pos (keywordEach kws X.env)).filterMap (·.1) = ks := by rfl)
    (hpl : ((backTo pos (starEach [] X.env)).any (·.1) || (backToKw pos (keywordEach kws X.env)).any (·.1.isNone)) = false := by rfl)
    (ht : eval (.Call (.Attribute o m apos) [] kws pos) X.env = (do
      let ov ← eval o X.env
      standAt apos.atName
      let (f, first) ← holding [ov] (getMethod ov m pl)
      callWith pos f first (backTo pos (starEach [] X.env)) (backToKw pos (keywordEach kws X.env))) := by rfl) :
    PE X (.Call (.Attribute o m apos) [] kws pos) (tMethW C m sp gV ks.length E ta tk) := by
  refine ⟨fun pins s σ H Q I h => ?_⟩
  refine PySem.W.methodCall_KW (pl := pl) (thn (he.run pins s σ H _ I h) fun u s1 ⟨x, H1, I1, rx, a, dx, fs, ex, ea, l, q⟩ => ?_) ht
  subst ex
  obtain rfl : u = Value.ref a := rx
  refine getmeth_ok I1 ea c hm l ?_
  refine PySem.W.callWith_KW0 (first := [.ref a]) (h₀ := X.base) I.ok.mod.kin hm.kp hall (thn (hkw.run pos pins s1 σ H1 _ I1 q) fun ws s2 ⟨zs, H2, I2, rz, lz, q2⟩ => ⟨I2.kIn, ?_⟩) hpl
  rw [hks]
  refine wpAny_call (codeAny_mono (F.run X.A X.stack s2 _ ⟨[Value.ref a], ks.zip ws⟩ (Value.ref a :: g ws) _ _ E hr I2.env0 (hb _ _ ws (rz.length.symm.trans lz)) (.cons (show L2.RelV (.ref a) (Value.ref a) from rfl) (hrel rz lz)) q2) fun r s' hq' => ?_)
  cases r with
  | error e => exact hx pins σ _ _ e s' I2 hq'
  | ok fl =>
    cases fl with
    | ret u => exact I2.after hq'
    | next => exact False.elim hq'
    | brk => exact False.elim hq'
    | cont => exact False.elim hq'
end
end FcL

set_option maxRecDepth 100000
set_option maxHeartbeats 4000000
namespace Fc
open PySem PySem.Spec PyProof.Rows L2 FcR
open Evl (Ex)
/-! ### small methods of Code -/
def sp_cn (K : PySem.W.Frag) : Sp := fun vs H Q _ => ∃ (F : Hp) (A : CAd) (rows : List Row) (n : Nat), vs = [.ref A.p, .int (n : Int)] ∧ CodeH K F F A rows ∧ Ex F H ∧ n < rows.length ∧ Q .non H
section
variable {P : Program} {w : World} {h : Heap} {K : PySem.W.Frag} {mg : Str → Option Value} {base : Heap}
abbrev N_Code_check_number : List Str := ["self", "number"]
theorem sc_Code_check_number : FnScope N_Code_check_number ["self", "number"] (defScope sd_Code_check_number) := ⟨rfl, rfl, rfl, by decide +kernel, rfl, by decide +kernel, by decide +kernel⟩
theorem ok_Code_check_number (T : Tx w h K mg) : Ok P w K mg base 3 ("Code", some "check_number") ["self", "number"] (sp_cn K) := by
  obtain ⟨fd, F⟩ := F_Code_check_number T
  refine ⟨fd, ?_, F.bindsN (fun _ _ _ _ _ _ us hl => match us, hl with | [_, _], _ => rfl), F.kp⟩
  obtain ⟨fd_is_between, G_is_between, bi_is_between, kp_is_between⟩ := ok_is_between (P := P) (base := base) T
  refine F.ok sc_Code_check_number (fun vs H Q E h => ?_) (fun cdv A outer s H vs Q E hr h => ?_)
  · obtain ⟨F, A, rows, n, rfl, C, xF, hn, q⟩ := h
    rfl
  · obtain ⟨F, A, rows, n, rfl, C, xF, hn, q⟩ := h
    refine ⟨_, PSs.nox (pss_one (ps_if (pt_not (pt_val (pe_call G_is_between (hr.mono (by decide)) rfl (g_is_between T) kp_is_between bi_is_between .nil passF (pa_cons (pv 1) (pa_cons pe_int (pa_cons (pe_op op_sub (pe_callB call_len_seq rfl (fr_len T) b_len (pa_cons (pe_fld (pv 0) rfl) pa_nil)) pe_int) pa_nil)))))) (pss_one ps_never) pss_nil)), ?_⟩
    obtain ⟨vs, C1, _⟩ := C.ex (Evl.Ex.refl _) xF
    refine ⟨_, rfl, _, rfl, A.p, _, _, _, _, rfl, C1.ob, c_Code T, na_Code_kinds T, fl_Code_kinds _ _ _ _ _, A.a2, _, rfl, .inl (Evl.sq_of C1.h2), _, _, rfl, rfl, ?_⟩
    refine ⟨_, _, _, rfl, .inl ⟨_, rfl, ?_⟩⟩
    have e : (decide ((0 : Int) ≤ (n : Int)) && decide ((n : Int) ≤ ((rows.map fun r => V.str (kindD r.d)).length : Int) - 1)) = true := by
      rw [List.length_map]
      simp
      omega
    refine ⟨_, rfl, ?_⟩
    refine itF (by rw [e] <;> rfl) q
end

end Fc

set_option maxRecDepth 100000
set_option maxHeartbeats 4000000
namespace Fc
open PySem PySem.Spec PyProof.Rows L2 FcR
open Evl (Ex)
/-! ### numbers that are refused -/
def BadN (K : PySem.W.Frag) (H : Hp) (u : V) (n : Nat) : Prop := (∃ i : Int, u = .int i ∧ (decide (0 ≤ i) && decide (i ≤ (n : Int) - 1)) = false) ∨
  (∃ t b1 b2, (∀ H', Ex H H' → TyX K H' u t) ∧ PySem.W.kitOne K t (.type "int") = some b1 ∧ PySem.W.kitOne K t (.type "bool") = some b2 ∧ (b1 && !b2) = false)
theorem BadN.ex {K : PySem.W.Frag} {H H' : Hp} {u : V} {n : Nat} (b : BadN K H u n) (e : Ex H H') : BadN K H' u n := by
  rcases b with z | ⟨t, b1, b2, ty, r⟩
  · exact .inl z
  · exact .inr ⟨t, b1, b2, fun H2 e2 => ty H2 (e.trans e2), r⟩
def sp_cnX (K : PySem.W.Frag) : Sp := fun vs H Q E => ∃ (F : Hp) (A : CAd) (rows : List Row) (v : V), vs = [.ref A.p, v] ∧ CodeH K F F A rows ∧ Ex F H ∧ BadN K H v rows.length ∧ RaisesA K "InvalidNumber" "number" H v E
theorem RaisesA.ex {K : PySem.W.Frag} {C f : Str} {H H' : Hp} {y : V} {E : XK} (r : RaisesA K C f H y E) (e : Ex H H') : RaisesA K C f H' y E := fun H2 d x n s => r H2 d (e.trans x) (ex_none e n) s
theorem badNT {K : PySem.W.Frag} {F : Hp} {u : V} {n : Nat} {T : String} (hT : T = "NoneType" ∨ T = "str" ∨ T = "list" ∨ T = "tuple" ∨ T = "dict") (ty : ∀ H', Ex F H' → TyX K H' u (.type T)) : BadN K F u n := by
  rcases hT with rfl | rfl | rfl | rfl | rfl <;> exact .inr ⟨_, false, false, ty, kit_ty (by decide +kernel), kit_ty (by decide +kernel), rfl⟩
theorem badNB {K : PySem.W.Frag} {F : Hp} {n : Nat} (x : Bool) : BadN K F (.bl x) n := .inr ⟨_, true, true, fun _ _ => .base (.bl x), kit_ty (by decide +kernel), kit_ty (by decide +kernel), rfl⟩
theorem heldOf {P : Program} {w : World} {K : PySem.W.Frag} {mg : Str → Option Value} {base : Heap} {k : Nat} {at_ : Str × Option Str} {ps : List Str} {sp : Sp} (o : Ok P w K mg base k at_ ps sp) : ∀ sp', sp' = sp → FcX.HeldX P w K mg base k (He.fAd K at_) sp' := fun sp' e => by
  subst e
  obtain ⟨fd, G, b, kp⟩ := o
  exact ⟨fd, _, G, kp, b⟩
section
variable {P : Program} {w : World} {h : Heap} {K : PySem.W.Frag} {mg : Str → Option Value} {base : Heap}
theorem ok_Code_check_numberX (T : Tx w h K mg) : Ok P w K mg base 3 ("Code", some "check_number") ["self", "number"] (sp_cnX K) := by
  obtain ⟨fd, F⟩ := F_Code_check_number T
  refine ⟨fd, ?_, F.bindsN (fun _ _ _ _ _ _ us hl => match us, hl with | [_, _], _ => rfl), F.kp⟩
  obtain ⟨fd_is_between, G_is_between, bi_is_between, kp_is_between⟩ := ok_is_between (P := P) (base := base) T
  obtain ⟨fd_InvalidNumber___init__, G_InvalidNumber___init__, bi_InvalidNumber___init__, kp_InvalidNumber___init__, FD_InvalidNumber___init__⟩ := okF_InvalidNumber___init__ (P := P) (base := base) T
  refine F.ok sc_Code_check_number (fun vs H Q E h => ?_) (fun cdv A outer s H vs Q E hr h => ?_)
  · obtain ⟨F, A, rows, v, rfl, C, xF, bd, ra⟩ := h
    rfl
  · obtain ⟨F, A, rows, v, rfl, C, xF, bd, ra⟩ := h
    refine ⟨_, (pss_one (ps_if (pt_not (pt_val (pe_call G_is_between (hr.mono (by decide)) rfl (g_is_between T) kp_is_between bi_is_between .nil (passes_call (takes_of rfl rfl rfl rfl) (fun _ _ _ _ h => h)) (pa_cons (pv 1) (pa_cons pe_int (pa_cons (pe_op op_sub (pe_callB call_len_seq rfl (fr_len T) b_len (pa_cons (pe_fld (pv 0) rfl) pa_nil)) pe_int) pa_nil)))))) (pss_one (ps_raise rfl (takes_of rfl rfl rfl rfl) (FcX.pmk_X (x_InvalidNumber T) (xi_InvalidNumber T) G_InvalidNumber___init__ (hr.mono (by decide)) bi_InvalidNumber___init__ passF rfl (g_InvalidNumber T) (pv 1)))) pss_nil)), ?_⟩
    obtain ⟨vs, C1, _⟩ := C.ex (Evl.Ex.refl _) xF
    have fin : ∀ d, H d = none → E (.ref (He.ga K "InvalidNumber")) (some d) (upd H d (.xd [("number", v)])) := fun d n => ra _ d (exu (Evl.Ex.refl _) n) n upd_same
    refine ⟨_, rfl, _, rfl, A.p, _, _, _, _, rfl, C1.ob, c_Code T, na_Code_kinds T, fl_Code_kinds _ _ _ _ _, A.a2, _, rfl, .inl (Evl.sq_of C1.h2), _, _, rfl, rfl, ?_⟩
    rw [List.length_map]
    rcases bd with ⟨i, rfl, hb⟩ | ⟨t, b1, b2, ty, k1, k2, hb⟩
    · exact ⟨_, _, _, rfl, .inl ⟨i, rfl, _, rfl, itT (by rw [hb]; rfl) ⟨_, rfl, _, rfl, fun d n => fin d n⟩⟩⟩
    · exact ⟨v, _, _, rfl, .inr ⟨t, b1, b2, ty _ (Evl.Ex.refl _), k1, k2, hb, _, rfl, itT rfl ⟨_, rfl, _, rfl, fun d n => fin d n⟩⟩⟩
end

end Fc

set_option maxRecDepth 100000
set_option maxHeartbeats 4000000
namespace Fc
open PySem PySem.Spec PyProof.Rows L2 FcR
open Evl (Ex)
/-! ### drawn statements: their weights, heights, and that Code takes them -/
inductive OkS : Nat → Nat → Nat → Nat → PyData → Prop
  | mk {loops deep blocks : Nat} {d : PyData} (wt : Nat → Nat) (st : isStm d (loops : Int) = true) (hd : deep ≤ 100) (hb : blocks ≤ 25) (ps : ∀ i p, (partsD d)[i]? = some p → OkS (loops + wl d) (deep + 1) (blocks + (if kindD d = "final" ∧ i = 1 then 1 else 0)) (wt i) p) : OkS loops deep blocks (1 + ((List.range (partsD d).length).map wt).sum) d
inductive OkL : List WIt → Nat → Prop
  | nil : OkL [] 0
  | cons {it : WIt} {st : List WIt} {w n : Nat} (h : OkS it.loops it.deep it.blocks w it.d) (r : OkL st n) : OkL (it :: st) (w + n)
theorem OkL.app {b : List WIt} {y : Nat} (hb : OkL b y) : ∀ {a : List WIt} {x : Nat}, OkL a x → OkL (a ++ b) (x + y)
  | _, _, .nil => by rw [Nat.zero_add]; exact hb
  | _, _, .cons h r => by rw [Nat.add_assoc]; exact .cons h (OkL.app hb r)
theorem okL_parts {it : WIt} {n : Nat} : ∀ (ps : List PyData) (k : Nat) (wt : Nat → Nat), (∀ i p, ps[i]? = some p → OkS (it.loops + wl it.d) (it.deep + 1) (it.blocks + (if kindD it.d = "final" ∧ k + i = 1 then 1 else 0)) (wt i) p) → OkL (ps.mapIdx fun i p => newIt it n (k + i) p) (((List.range ps.length).map wt).sum)
  | [], _, _, _ => .nil
  | p :: ps, k, wt, h => by
    rw [List.mapIdx_cons, List.length_cons, List.range_succ_eq_map, List.map_cons, List.sum_cons, List.map_map]
    refine .cons (h 0 p rfl) ?_
    have z := okL_parts (it := it) (n := n) ps (k + 1) (fun i => wt (i + 1)) fun i q hq => by
      have y := h (i + 1) q (by simpa using hq)
      have e : k + (i + 1) = k + 1 + i := by omega
      rw [e] at y
      exact y
    have e2 : (ps.mapIdx fun i p => newIt it n (k + (i + 1)) p) = ps.mapIdx fun i p => newIt it n (k + 1 + i) p := by
      congr 1
      funext i p
      rw [show k + (i + 1) = k + 1 + i by omega]
    rw [e2]
    exact z
theorem builds_of : ∀ (N : Nat) (st : List WIt) (rows : List Row), OkL st N → rows.length + N ≤ 400 → ∃ fin, Builds N st rows fin ∧ fin.length = rows.length + N := by
  intro N
  induction N with
  | zero =>
    intro st rows h _
    have : st = [] := by
      generalize e : 0 = z at h
      cases h with
      | nil => rfl
      | cons h r => cases h; omega
    subst this
    exact ⟨rows, .done rows, rfl⟩
  | succ N ih =>
    intro st rows h hl
    generalize e : N + 1 = z at h
    cases h with
    | nil => cases e
    | @cons it st w n h r =>
      obtain ⟨d, par, deep, loops, blocks⟩ := it
      dsimp only at h
      cases h with
      | mk wt s1 s2 s3 s4 =>
        have nw : OkL (newIts ⟨d, par, deep, loops, blocks⟩ rows.length) (((List.range (partsD d).length).map wt).sum) := by
          have z := okL_parts (it := ⟨d, par, deep, loops, blocks⟩) (n := rows.length) (partsD d) 0 wt fun i p hp => by
            rw [Nat.zero_add]
            exact s4 i p hp
          have e2 : ((partsD d).mapIdx fun i p => newIt ⟨d, par, deep, loops, blocks⟩ rows.length (0 + i) p) = newIts ⟨d, par, deep, loops, blocks⟩ rows.length := by
            unfold newIts
            congr 1
            funext i p
            rw [Nat.zero_add]
          rw [e2] at z
          exact z
        have eN : ((List.range (partsD d).length).map wt).sum + n = N := by omega
        have nw2 := OkL.app r nw
        rw [eN] at nw2
        obtain ⟨fin, b, l⟩ := ih _ (addRow rows d par) nw2 (by rw [addRow_len]; omega)
        have eZ : 1 + ((List.range (partsD d).length).map wt).sum + n = N + 1 := by omega
        rw [eZ]
        exact ⟨fin, .step ⟨by omega, s2, s3, s1⟩ b, by rw [l, addRow_len]; omega⟩

end Fc

set_option maxRecDepth 100000
set_option maxHeartbeats 4000000
namespace Fc
open PySem PySem.Spec PyProof.Rows L2 FcR
open Evl (Ex)
/-! ### what all laws draw by -/
def sp_cell (K : PySem.W.Frag) : Sp := fun vs H Q _ => ∃ (a : Addr) (ns : List Int) (k : Nat), vs = [.ref a, .int (k : Int)] ∧ SqL K H a (ns.map V.int) ∧ Q (.int (ns.getD k 0)) H
def sp_source : Sp := fun vs H Q _ => ∃ c : Int, vs = [.int c] ∧ ∀ (p : Addr) (x y : Int), H p = none → Q (.ref p) (upd H p (.lst [.int x, .int y, .int 0]))
def sp_draw : Sp := fun vs H Q _ => ∃ (p : Addr) (x y z m : Int), vs = [.ref p, .int m] ∧ H p = some (.lst [.int x, .int y, .int z]) ∧ 0 < m ∧ m < 1073741824 ∧
  ∀ x' y' z' v : Int, 0 ≤ v → v < m → Q (.int v) (upd H p (.lst [.int x', .int y', .int z']))
section
variable {P : Program} {w : World} {h : Heap} {K : PySem.W.Frag} {mg : Str → Option Value} {base : Heap}
abbrev N_law_cell_at : List Str := ["_law_script", "_law_k"]
theorem sc_law_cell_at : FnScope N_law_cell_at ["_law_script", "_law_k"] (defScope sd_law_cell_at) := ⟨rfl, rfl, rfl, by decide +kernel, rfl, by decide +kernel, by decide +kernel⟩
theorem ok_law_cell_at (T : Tx w h K mg) : Ok P w K mg base 1 ("_law_cell_at", none) ["_law_script", "_law_k"] (sp_cell K) := by
  obtain ⟨fd, F⟩ := F_law_cell_at T
  refine ⟨fd, ?_, F.bindsN (fun _ _ _ _ _ _ us hl => match us, hl with | [_, _], _ => rfl), F.kp⟩
  refine F.ok sc_law_cell_at (fun vs H Q E h => ?_) (fun cdv A outer s H vs Q E hr h => ?_)
  · obtain ⟨a, ns, k, rfl, hs, q⟩ := h
    rfl
  · obtain ⟨a, ns, k, rfl, hs, q⟩ := h
    refine ⟨_, PSs.nox (pss_one (ps_ret (pe_ifExp (pt_cmpR op_lt (pv 1) (pe_callB call_len_seq rfl (fr_len T) b_len (pa_cons (pv 0) pa_nil)) (nomark _)) (pe_ix ix_list (pv 0) (pv 1) (fun _ _ => rfl)) pe_int))), ?_⟩
    refine ⟨_, rfl, _, rfl, a, _, rfl, .inl hs, _, _, rfl, rfl, _, rfl, ite_of (fun h1 => ?_) (fun h1 => ?_)⟩
    · have hk : k < ns.length := by
        have := of_decide_eq_true h1
        rw [List.length_map] at this
        omega
      refine ⟨_, rfl, _, rfl, a, _, _, .int (ns.getD k 0), rfl, rfl, hs, atI_nat ?_, q⟩
      rw [List.getElem?_map, List.getD_eq_getElem?_getD, List.getElem?_eq_getElem hk] <;> rfl
    · have hk : ns.length ≤ k := by
        have := of_decide_eq_false h1
        rw [List.length_map] at this
        omega
      have e : ns.getD k 0 = 0 := by rw [List.getD_eq_getElem?_getD, List.getElem?_eq_none hk] <;> rfl
      rw [e] at q
      exact q
abbrev N_law_source_of : List Str := ["_law_cell"]
theorem sc_law_source_of : FnScope N_law_source_of ["_law_cell"] (defScope sd_law_source_of) := ⟨rfl, rfl, rfl, by decide +kernel, rfl, by decide +kernel, by decide +kernel⟩
theorem ok_law_source_of (T : Tx w h K mg) : Ok P w K mg base 1 ("_law_source_of", none) ["_law_cell"] (sp_source) := by
  obtain ⟨fd, F⟩ := F_law_source_of T
  refine ⟨fd, ?_, F.bindsN (fun _ _ _ _ _ _ us hl => match us, hl with | [_], _ => rfl), F.kp⟩
  refine F.ok sc_law_source_of (fun vs H Q E h => ?_) (fun cdv A outer s H vs Q E hr h => ?_)
  · obtain ⟨c, rfl, q⟩ := h
    rfl
  · obtain ⟨c, rfl, q⟩ := h
    refine ⟨_, PSs.nox (pss_one (ps_ret (pe_lst (pa_cons (pe_op op_mul (pv 0) (pe_callTy call_int1 rfl (fr_int T) b_int (pa_cons (pe_cmpR op_ge (pv 0) (pe_op op_pow pe_int pe_int) (nomark _)) pa_nil))) (pa_cons (pe_op op_add (pe_op op_mod (pe_callTy call_int1 rfl (fr_int T) b_int (pa_cons (pv 0) pa_nil)) pe_int) pe_int) (pa_cons pe_int pa_nil)))))), ?_⟩
    refine ⟨_, rfl, _, rfl, _, _, rfl, rfl, (by unfold CPow; decide), _, _, rfl, rfl, .inr ⟨_, rfl, _, _, rfl, rfl, ?_, _, rfl, .inl ⟨_, rfl, _, _, rfl, rfl, (by first | (show (0 : Int) < _; decide) | (show (0 : Int) < _ ∧ _ < (1073741824 : Int); decide)), _, _, rfl, rfl, sz (by simp), fun p hp => q p _ _ hp⟩⟩⟩
    refine .inr ?_
    by_cases h1 : decide ((10 : Int) ^ (18 : Int).toNat ≤ c) = true
    · rw [if_pos h1] <;> decide
    · rw [if_neg h1] <;> decide
abbrev N_law_draw : List Str := ["_law_source", "_law_many", "_law_found", "_law_mixed"]
theorem sc_law_draw : FnScope N_law_draw ["_law_source", "_law_many"] (defScope sd_law_draw) := ⟨rfl, rfl, rfl, by decide +kernel, rfl, by decide +kernel, by decide +kernel⟩
theorem ok_law_draw (T : Tx w h K mg) : Ok P w K mg base 1 ("_law_draw", none) ["_law_source", "_law_many"] (sp_draw) := by
  obtain ⟨fd, F⟩ := F_law_draw T
  refine ⟨fd, ?_, F.bindsN (fun _ _ _ _ _ _ us hl => match us, hl with | [_, _], _ => rfl), F.kp⟩
  refine F.ok sc_law_draw (fun vs H Q E h => ?_) (fun cdv A outer s H vs Q E hr h => ?_)
  · obtain ⟨p, x, y, z, m, rfl, hp, h1, h2, q⟩ := h
    rfl
  · obtain ⟨p, x, y, z, m, rfl, hp, h1, h2, q⟩ := h
    refine ⟨_, PSs.nox (pss_cons (ps_if (pt_cmpR op_gt (pe_ix ix_list (pv 0) pe_int (fun _ _ => rfl)) pe_int (nomark _)) (pss_cons (ps_set (i := 2) sc_law_draw.nd rfl (Or.inl rfl) (pe_op op_mod (pe_callTy call_int1 rfl (fr_int T) b_int (pa_cons (pe_ix ix_list (pv 0) pe_int (fun _ _ => rfl)) pa_nil)) (pv 1))) (pss_cons (ps_asg (pe_op op_fdiv (pe_ix ix_list (pv 0) pe_int (fun _ _ => rfl)) (pv 1)) (pg_sub (pv 0) pe_int set_list)) (pss_one (ps_ret (pv 2))))) pss_nil) (pss_cons (ps_asg (pe_op op_add (pe_ix ix_list (pv 0) pe_int (fun _ _ => rfl)) pe_int) (pg_sub (pv 0) pe_int set_list)) (pss_cons (ps_set (i := 3) sc_law_draw.nd rfl (Or.inl rfl) (pe_op op_mod (pe_callTy call_int1 rfl (fr_int T) b_int (pa_cons (pe_op op_mul (pe_op op_add (pe_ix ix_list (pv 0) pe_int (fun _ _ => rfl)) (pe_op op_mul pe_int (pe_ix ix_list (pv 0) pe_int (fun _ _ => rfl)))) pe_int) pa_nil)) pe_int)) (pss_cons (ps_set (i := 3) sc_law_draw.nd rfl (Or.inl rfl) (pe_op op_mod (pe_callTy call_int1 rfl (fr_int T) b_int (pa_cons (pe_op op_mul (pv 3) (pe_op op_add (pe_op op_add (pe_op op_fdiv (pv 3) pe_int) pe_int) (pe_ix ix_list (pv 0) pe_int (fun _ _ => rfl)))) pa_nil)) pe_int)) (pss_one (ps_ret (pe_op op_mod (pe_callTy call_int1 rfl (fr_int T) b_int (pa_cons (pe_op op_fdiv (pe_op op_mod (pe_callTy call_int1 rfl (fr_int T) b_int (pa_cons (pe_op op_mul (pv 3) (pe_op op_add (pe_op op_fdiv (pv 3) pe_int) pe_int)) pa_nil)) pe_int) pe_int) pa_nil)) (pv 1)))))))), ?_⟩
    have hs := Evl.sq_of (K := K) hp
    refine ⟨_, rfl, p, _, _, _, rfl, rfl, hs, rfl, _, _, rfl, rfl, _, rfl, ite_of (fun h3 => ?_) (fun h3 => ?_)⟩
    · refine ⟨_, rfl, p, _, _, _, rfl, rfl, hs, rfl, .inl ⟨_, rfl, _, rfl, _, _, rfl, rfl, h1, ?_⟩⟩
      refine ⟨_, rfl, p, _, _, _, rfl, rfl, hs, rfl, _, rfl, _, _, rfl, rfl, ⟨h1, h2⟩, _, rfl, p, _, _, 0, rfl, rfl, hp, rfl, ?_⟩
      exact ⟨_, rfl, q _ _ _ _ (Int.emod_nonneg _ (by omega)) (Int.emod_lt_of_pos _ h1)⟩
    · refine ⟨_, rfl, p, _, _, _, rfl, rfl, hs, rfl, _, _, rfl, rfl, _, rfl, p, _, _, 2, rfl, rfl, hp, rfl, ?_⟩
      have hs2 := Evl.sq_of (K := K) (upd_same (H := H) (a := p) (o := .lst [.int x, .int y, .int (z + 1)]))
      refine ⟨_, rfl, p, _, _, _, rfl, rfl, hs2, rfl, _, rfl, p, _, _, _, rfl, rfl, hs2, rfl, _, _, rfl, rfl, .inl (by show (-(2 ^ 64) < (8191 : Int) ∧ (8191 : Int) < 2 ^ 64); decide), _, _, rfl, rfl, _, _, rfl, rfl, .inr (by show (-(2 ^ 64) < (48271 : Int) ∧ (48271 : Int) < 2 ^ 64); decide), .inl ⟨_, rfl, _, _, rfl, rfl, (by first | (show (0 : Int) < _; decide) | (show (0 : Int) < _ ∧ _ < (1073741824 : Int); decide)), ?_⟩⟩
      generalize (y + 8191 * (z + 1)) * 48271 = r1
      have b1 := Int.emod_nonneg r1 (show (2147483647 : Int) ≠ 0 by decide)
      have b2 := Int.emod_lt_of_pos r1 (show (0 : Int) < 2147483647 by decide)
      refine ⟨_, rfl, _, rfl, _, _, rfl, rfl, (by first | (show (0 : Int) < _; decide) | (show (0 : Int) < _ ∧ _ < (1073741824 : Int); decide)), _, _, rfl, rfl, _, rfl, p, _, _, _, rfl, rfl, hs2, rfl, _, _, rfl, rfl, _, _, rfl, rfl, .inl (by omega), .inl ⟨_, rfl, _, _, rfl, rfl, (by first | (show (0 : Int) < _; decide) | (show (0 : Int) < _ ∧ _ < (1073741824 : Int); decide)), ?_⟩⟩
      generalize r1 % 2147483647 * (r1 % 2147483647 / 1021 + 69621 + (z + 1)) = r2
      have b3 := Int.emod_nonneg r2 (show (2147483587 : Int) ≠ 0 by decide)
      have b4 := Int.emod_lt_of_pos r2 (show (0 : Int) < 2147483587 by decide)
      refine ⟨_, rfl, _, rfl, _, _, rfl, rfl, (by first | (show (0 : Int) < _; decide) | (show (0 : Int) < _ ∧ _ < (1073741824 : Int); decide)), _, _, rfl, rfl, _, _, rfl, rfl, .inl (by omega), .inl ⟨_, rfl, _, _, rfl, rfl, (by first | (show (0 : Int) < _; decide) | (show (0 : Int) < _ ∧ _ < (1073741824 : Int); decide)), _, _, rfl, rfl, (by first | (show (0 : Int) < _; decide) | (show (0 : Int) < _ ∧ _ < (1073741824 : Int); decide)), .inl ⟨_, rfl, _, rfl, _, _, rfl, rfl, h1, ?_⟩⟩⟩
      exact q _ _ _ _ (Int.emod_nonneg _ (by omega)) (Int.emod_lt_of_pos _ h1)
end
def Src (H : Hp) (p : Addr) : Prop := ∃ x y z : Int, H p = some (.lst [.int x, .int y, .int z])

end Fc

set_option maxRecDepth 100000
set_option maxHeartbeats 4000000
namespace Fc
open PySem PySem.Spec PyProof.Rows L2 FcR
open Evl (Ex)
/-! ### drawn statements -/
inductive SD : Nat → Nat → PyData → Prop
  | mk {deep loops : Nat} {d : PyData} (st : isStm d (loops : Int) = true) (cl : PyData.canLay0 d = true) (sz : szD d) (l3 : (partsD d).length ≤ 3) (ps : ∀ p ∈ partsD d, SD deep (loops + wl d) p) : SD (deep + 1) loops d
def sp_one (K : PySem.W.Frag) : Sp := fun vs H Q _ => ∃ (p a : Addr) (ks : List Str), vs = [.ref p, .ref a] ∧ Src H p ∧ H a = some (.lst (ks.map V.str)) ∧ a ≠ p ∧ ks ≠ [] ∧ ks.length < 1000 ∧
  ∀ (H' : Hp) (k : Str), k ∈ ks → Src H' p → (∀ b, b ≠ p → H' b = H b) → Q (.str k) H'
def sp_leaf (K : PySem.W.Frag) : Sp := fun vs H Q _ => ∃ (F : Hp) (p : Addr) (loops : Nat), vs = [.ref p, .int (loops : Int)] ∧ Ex F H ∧ F p = none ∧ Src H p ∧ loops < 1000 ∧
  ∀ (F' H' : Hp) (v : V) (d : PyData), Gr (fun b => b = p) F H F' H' → F' p = none → Src H' p → Dp K F' v d → SD 1 loops d → Q v H'
theorem sd_leaf {loops : Nat} {d : PyData} (st : isStm d (loops : Int) = true) (cl : PyData.canLay0 d = true) (sz : szD d) (e : partsD d = []) : SD 1 loops d :=
  .mk (deep := 0) st cl sz (by rw [e]; exact Nat.zero_le _) (fun p hp => by rw [e] at hp; cases hp)
def lNames : List Str := ["a", "b", "abcdefgh", "z", "x", "w", "i"]
theorem nm_ok : ∀ x ∈ lNames, nameOk x = true ∧ PyData.canLay0 (.str x) = true ∧ x.length ≤ 100000 := by decide +kernel
theorem nm_four : ∀ x ∈ (["a", "b", "abcdefgh", "z"] : List Str), x ∈ lNames := by decide +kernel
theorem sd_do {loops : Nat} {x : Str} (hx : x ∈ lNames) : SD 1 loops (.tuple [.str "do", .str x]) := by
  obtain ⟨h1, h2, h3⟩ := nm_ok x hx
  refine sd_leaf (show nameOk x = true from h1) ?_ (fun k y r e => by cases e; exact h3) rfl
  show (PyData.canLay0 (.str "do") && (PyData.canLay0 (.str x) && true)) = true
  rw [h2]
  kernel_rfl
theorem sd_call {loops : Nat} {x : Str} (hx : x ∈ lNames) : SD 1 loops (.tuple [.str "call", .str x]) := by
  obtain ⟨h1, h2, h3⟩ := nm_ok x hx
  refine sd_leaf (show nameOk x = true from h1) ?_ (fun k y r e => by cases e; exact h3) rfl
  show (PyData.canLay0 (.str "call") && (PyData.canLay0 (.str x) && true)) = true
  rw [h2]
  kernel_rfl
theorem sd_ret {loops : Nat} : SD 1 loops (.tuple [.str "return"]) := sd_leaf rfl (by kernel_rfl) (fun k y r e => by cases e) rfl
theorem sd_rai {loops : Nat} : SD 1 loops (.tuple [.str "raise"]) := sd_leaf rfl (by kernel_rfl) (fun k y r e => by cases e) rfl
theorem sd_brk {loops : Nat} {n : Int} (h1 : 1 ≤ n) (h2 : n ≤ loops) : SD 1 loops (.tuple [.str "break", .int n]) := by
  refine sd_leaf ?_ (by kernel_rfl) (fun k y r e => by cases e) rfl
  show (decide (1 ≤ n) && decide (n ≤ (loops : Int))) = true
  rw [decide_eq_true h1, decide_eq_true h2] <;> rfl
theorem sd_cnt {loops : Nat} {n : Int} (h1 : 1 ≤ n) (h2 : n ≤ loops) : SD 1 loops (.tuple [.str "continue", .int n]) := by
  refine sd_leaf ?_ (by kernel_rfl) (fun k y r e => by cases e) rfl
  show (decide (1 ≤ n) && decide (n ≤ (loops : Int))) = true
  rw [decide_eq_true h1, decide_eq_true h2] <;> rfl
section
variable {P : Program} {w : World} {h : Heap} {K : PySem.W.Frag} {mg : Str → Option Value} {base : Heap}
abbrev N_law_one : List Str := ["_law_source", "_law_some"]
theorem sc_law_one : FnScope N_law_one ["_law_source", "_law_some"] (defScope sd_law_one) := ⟨rfl, rfl, rfl, by decide +kernel, rfl, by decide +kernel, by decide +kernel⟩
theorem ok_law_one (T : Tx w h K mg) : Ok P w K mg base 2 ("_law_one", none) ["_law_source", "_law_some"] (sp_one K) := by
  obtain ⟨fd, F⟩ := F_law_one T
  refine ⟨fd, ?_, F.bindsN (fun _ _ _ _ _ _ us hl => match us, hl with | [_, _], _ => rfl), F.kp⟩
  obtain ⟨fd_law_draw, G_law_draw, bi_law_draw, kp_law_draw⟩ := ok_law_draw (P := P) (base := base) T
  refine F.ok sc_law_one (fun vs H Q E h => ?_) (fun cdv A outer s H vs Q E hr h => ?_)
  · obtain ⟨p, a, ks, rfl, ⟨x, y, z, hp⟩, ha, hne, hk, hl, q⟩ := h
    rfl
  · obtain ⟨p, a, ks, rfl, ⟨x, y, z, hp⟩, ha, hne, hk, hl, q⟩ := h
    refine ⟨_, PSs.nox (pss_one (ps_ret (pe_ix ix_list (pv 1) (pe_call G_law_draw (hr.mono (by decide)) rfl (g_law_draw T) kp_law_draw bi_law_draw .nil passF (pa_cons (pv 0) (pa_cons (pe_callB call_len_seq rfl (fr_len T) b_len (pa_cons (pv 1) pa_nil)) pa_nil))) (fun _ _ => rfl)))), ?_⟩
    have lk : 0 < ks.length := List.length_pos_iff.mpr hk
    refine ⟨_, rfl, _, rfl, _, rfl, a, _, rfl, .inl (Evl.sq_of ha), ?_⟩
    refine ⟨p, x, y, z, _, rfl, hp, (by rw [List.length_map]; omega), (by rw [List.length_map]; omega), fun x' y' z' v v0 v1 => ?_⟩
    rw [List.length_map] at v1
    generalize e1 : upd _ p _ = H1
    obtain ⟨s1, o1⟩ := set_of e1
    clear e1
    obtain ⟨j, rfl⟩ : ∃ j : Nat, v = (j : Int) := ⟨v.toNat, by omega⟩
    have hj : j < ks.length := by omega
    have ha1 : H1 a = some (.lst (ks.map V.str)) := by rw [o1 a hne]; exact ha
    refine ⟨a, _, _, .str ks[j], rfl, rfl, Evl.sq_of ha1, atI_nat (by rw [List.getElem?_map, List.getElem?_eq_getElem hj] <;> rfl), ?_⟩
    exact q H1 _ (List.getElem_mem hj) ⟨x', y', z', s1⟩ o1
abbrev N_law_leaf : List Str := ["_law_source", "_law_loops", "_law_kind"]
theorem sc_law_leaf : FnScope N_law_leaf ["_law_source", "_law_loops"] (defScope sd_law_leaf) := ⟨rfl, rfl, rfl, by decide +kernel, rfl, by decide +kernel, by decide +kernel⟩
theorem ok_law_leaf (T : Tx w h K mg) : Ok P w K mg base 3 ("_law_leaf", none) ["_law_source", "_law_loops"] (sp_leaf K) := by
  obtain ⟨fd, F⟩ := F_law_leaf T
  refine ⟨fd, ?_, F.bindsN (fun _ _ _ _ _ _ us hl => match us, hl with | [_, _], _ => rfl), F.kp⟩
  obtain ⟨fd_law_draw, G_law_draw, bi_law_draw, kp_law_draw⟩ := ok_law_draw (P := P) (base := base) T
  obtain ⟨fd_law_one, G_law_one, bi_law_one, kp_law_one⟩ := ok_law_one (P := P) (base := base) T
  refine F.ok sc_law_leaf (fun vs H Q E h => ?_) (fun cdv A outer s H vs Q E hr h => ?_)
  · obtain ⟨F, p, loops, rfl, xF, fp, hp, hlp, q⟩ := h
    rfl
  · obtain ⟨F, p, loops, rfl, xF, fp, hp, hlp, q⟩ := h
    refine ⟨_, PSs.nox (pss_cons (ps_set (i := 2) sc_law_leaf.nd rfl (Or.inl rfl) (pe_call G_law_one (hr.mono (by decide)) rfl (g_law_one T) kp_law_one bi_law_one .nil passF (pa_cons (pv 0) (pa_cons (pe_lst (pa_cons pe_str (pa_cons pe_str (pa_cons pe_str (pa_cons pe_str (pa_cons pe_str (pa_cons pe_str (pa_cons pe_str (pa_cons pe_str (pa_cons pe_str pa_nil)))))))))) pa_nil)))) (pss_cons (ps_if (pt_cmpR op_in_seq (pv 2) (pe_tup (pa_cons pe_str (pa_cons pe_str pa_nil))) (by rfl)) (pss_one (ps_ret (pe_ifExp (pt_cmpR op_gt (pv 1) pe_int (nomark _)) (pe_tup (pa_cons (pv 2) (pa_cons (pe_op op_add pe_int (pe_call G_law_draw (hr.mono (by decide)) rfl (g_law_draw T) kp_law_draw bi_law_draw .nil passF (pa_cons (pv 0) (pa_cons (pv 1) pa_nil)))) pa_nil))) (pe_tup (pa_cons pe_str (pa_cons pe_str pa_nil)))))) pss_nil) (pss_cons (ps_if (pt_cmpR op_in_seq (pv 2) (pe_tup (pa_cons pe_str (pa_cons pe_str pa_nil))) (by rfl)) (pss_one (ps_ret (pe_tup (pa_cons (pv 2) pa_nil)))) pss_nil) (pss_one (ps_ret (pe_tup (pa_cons (pv 2) (pa_cons (pe_call G_law_one (hr.mono (by decide)) rfl (g_law_one T) kp_law_one bi_law_one .nil passF (pa_cons (pv 0) (pa_cons (pe_lst (pa_cons pe_str (pa_cons pe_str (pa_cons pe_str (pa_cons pe_str pa_nil))))) pa_nil))) pa_nil)))))))), ?_⟩
    refine ⟨_, rfl, sz (by simp), ?_⟩
    intro p1 n1
    generalize e1 : upd _ p1 _ = H1
    obtain ⟨x1, s1, o1⟩ := new_of e1 n1
    clear e1
    obtain ⟨x, y, z, hp0⟩ := hp
    refine ⟨p, p1, ["do", "do", "call", "call", "return", "raise", "break", "continue", "break"], rfl, ⟨x, y, z, x1 _ _ hp0⟩, s1, (fun e => by rw [e, hp0] at n1; cases n1), (by simp), (by simp), fun H2 k hk hp2 o2 => ?_⟩
    have g2 : Gr (fun b => b = p) F H F H2 := (Gr.new xF x1).trans (Gr.set (xF.trans x1) rfl fp o2)
    refine ⟨_, rfl, sz (by simp), ?_⟩
    intro p3 n3
    generalize e3 : upd _ p3 _ = H3
    obtain ⟨x3, s3, o3⟩ := new_of e3 n3
    clear e3
    refine ⟨p3, _, rfl, .inr (Evl.st_of s3), rfl, flat_strs ["break", "continue"], _, rfl, ?_⟩
    have g3 : Gr (fun b => b = p) F H F H3 := g2.trans (Gr.new g2.fh x3)
    obtain ⟨a1, a2, a3, hp2⟩ := hp2
    have hp3 := x3 _ _ hp2
    have fin : ∀ {Hx H5 : Hp} {q5 : Addr} {xs : List V} {ds : List PyData}, Gr (fun b => b = p) F H F Hx → Hx q5 = none → H5 q5 = some (.tup xs) → (∀ b, b ≠ q5 → H5 b = Hx b) → Src Hx p → DpAll K (upd F q5 (.tup xs)) xs ds → SD 1 loops (.tuple ds) → Q (.ref q5) H5 := fun {Hx H5 q5 xs ds} g n5 s5 o5 sp da sd => by
      have pq : p ≠ q5 := fun z => by
        obtain ⟨b1, b2, b3, hb⟩ := sp
        rw [z, n5] at hb
        cases hb
      refine q (upd F q5 (.tup xs)) H5 _ _ (g.trans (Gr.frz g.fh n5 s5 o5)) (by rw [upd_ne pq]; exact fp) ?_ (.tup (Evl.st_of upd_same) da) sd
      obtain ⟨b1, b2, b3, hb⟩ := sp
      exact ⟨b1, b2, b3, by rw [o5 p pq]; exact hb⟩
    simp only [List.mem_cons, List.not_mem_nil, or_false] at hk
    rcases hk with rfl | rfl | rfl | rfl | rfl | rfl | rfl | rfl | rfl
    · refine itF (in_strs (l := ["break", "continue"]) (by decide +kernel)) ?_
      refine ⟨_, rfl, sz (by simp), ?_⟩
      intro p4 n4
      generalize e4 : upd _ p4 _ = H4
      obtain ⟨x4, s4, o4⟩ := new_of e4 n4
      clear e4
      have g4 : Gr (fun b => b = p) F H F H4 := g3.trans (Gr.new g3.fh x4)
      refine ⟨p4, _, rfl, .inr (Evl.st_of s4), rfl, flat_strs ["return", "raise"], _, rfl, ?_⟩
      refine itF (in_strs (l := ["return", "raise"]) (by decide +kernel)) ?_
      refine ⟨_, rfl, _, rfl, sz (by simp), ?_⟩
      intro p6 n6
      generalize e6 : upd _ p6 _ = H6
      obtain ⟨x6, s6, o6⟩ := new_of e6 n6
      clear e6
      refine ⟨p, p6, ["a", "b", "abcdefgh", "z"], rfl, ⟨_, _, _, x6 _ _ (x4 _ _ hp3)⟩, s6, (fun e => by rw [e, x4 _ _ hp3] at n6; cases n6), (by simp), (by simp), fun H7 nm hnm hp7 o7 => ?_⟩
      refine ⟨sz (by simp), ?_⟩
      intro p8 n8
      generalize e8 : upd _ p8 _ = H8
      obtain ⟨x8, s8, o8⟩ := new_of e8 n8
      clear e8
      have g6 := g4.trans (Gr.new g4.fh x6)
      have g7 : Gr (fun b => b = p) F H F H7 := g6.trans (Gr.set g6.fh rfl fp o7)
      exact fin g7 n8 s8 o8 hp7 (.cons (.str _) (.cons (.str _) .nil)) (sd_do (nm_four _ hnm))
    · refine itF (in_strs (l := ["break", "continue"]) (by decide +kernel)) ?_
      refine ⟨_, rfl, sz (by simp), ?_⟩
      intro p4 n4
      generalize e4 : upd _ p4 _ = H4
      obtain ⟨x4, s4, o4⟩ := new_of e4 n4
      clear e4
      have g4 : Gr (fun b => b = p) F H F H4 := g3.trans (Gr.new g3.fh x4)
      refine ⟨p4, _, rfl, .inr (Evl.st_of s4), rfl, flat_strs ["return", "raise"], _, rfl, ?_⟩
      refine itF (in_strs (l := ["return", "raise"]) (by decide +kernel)) ?_
      refine ⟨_, rfl, _, rfl, sz (by simp), ?_⟩
      intro p6 n6
      generalize e6 : upd _ p6 _ = H6
      obtain ⟨x6, s6, o6⟩ := new_of e6 n6
      clear e6
      refine ⟨p, p6, ["a", "b", "abcdefgh", "z"], rfl, ⟨_, _, _, x6 _ _ (x4 _ _ hp3)⟩, s6, (fun e => by rw [e, x4 _ _ hp3] at n6; cases n6), (by simp), (by simp), fun H7 nm hnm hp7 o7 => ?_⟩
      refine ⟨sz (by simp), ?_⟩
      intro p8 n8
      generalize e8 : upd _ p8 _ = H8
      obtain ⟨x8, s8, o8⟩ := new_of e8 n8
      clear e8
      have g6 := g4.trans (Gr.new g4.fh x6)
      have g7 : Gr (fun b => b = p) F H F H7 := g6.trans (Gr.set g6.fh rfl fp o7)
      exact fin g7 n8 s8 o8 hp7 (.cons (.str _) (.cons (.str _) .nil)) (sd_do (nm_four _ hnm))
    · refine itF (in_strs (l := ["break", "continue"]) (by decide +kernel)) ?_
      refine ⟨_, rfl, sz (by simp), ?_⟩
      intro p4 n4
      generalize e4 : upd _ p4 _ = H4
      obtain ⟨x4, s4, o4⟩ := new_of e4 n4
      clear e4
      have g4 : Gr (fun b => b = p) F H F H4 := g3.trans (Gr.new g3.fh x4)
      refine ⟨p4, _, rfl, .inr (Evl.st_of s4), rfl, flat_strs ["return", "raise"], _, rfl, ?_⟩
      refine itF (in_strs (l := ["return", "raise"]) (by decide +kernel)) ?_
      refine ⟨_, rfl, _, rfl, sz (by simp), ?_⟩
      intro p6 n6
      generalize e6 : upd _ p6 _ = H6
      obtain ⟨x6, s6, o6⟩ := new_of e6 n6
      clear e6
      refine ⟨p, p6, ["a", "b", "abcdefgh", "z"], rfl, ⟨_, _, _, x6 _ _ (x4 _ _ hp3)⟩, s6, (fun e => by rw [e, x4 _ _ hp3] at n6; cases n6), (by simp), (by simp), fun H7 nm hnm hp7 o7 => ?_⟩
      refine ⟨sz (by simp), ?_⟩
      intro p8 n8
      generalize e8 : upd _ p8 _ = H8
      obtain ⟨x8, s8, o8⟩ := new_of e8 n8
      clear e8
      have g6 := g4.trans (Gr.new g4.fh x6)
      have g7 : Gr (fun b => b = p) F H F H7 := g6.trans (Gr.set g6.fh rfl fp o7)
      exact fin g7 n8 s8 o8 hp7 (.cons (.str _) (.cons (.str _) .nil)) (sd_call (nm_four _ hnm))
    · refine itF (in_strs (l := ["break", "continue"]) (by decide +kernel)) ?_
      refine ⟨_, rfl, sz (by simp), ?_⟩
      intro p4 n4
      generalize e4 : upd _ p4 _ = H4
      obtain ⟨x4, s4, o4⟩ := new_of e4 n4
      clear e4
      have g4 : Gr (fun b => b = p) F H F H4 := g3.trans (Gr.new g3.fh x4)
      refine ⟨p4, _, rfl, .inr (Evl.st_of s4), rfl, flat_strs ["return", "raise"], _, rfl, ?_⟩
      refine itF (in_strs (l := ["return", "raise"]) (by decide +kernel)) ?_
      refine ⟨_, rfl, _, rfl, sz (by simp), ?_⟩
      intro p6 n6
      generalize e6 : upd _ p6 _ = H6
      obtain ⟨x6, s6, o6⟩ := new_of e6 n6
      clear e6
      refine ⟨p, p6, ["a", "b", "abcdefgh", "z"], rfl, ⟨_, _, _, x6 _ _ (x4 _ _ hp3)⟩, s6, (fun e => by rw [e, x4 _ _ hp3] at n6; cases n6), (by simp), (by simp), fun H7 nm hnm hp7 o7 => ?_⟩
      refine ⟨sz (by simp), ?_⟩
      intro p8 n8
      generalize e8 : upd _ p8 _ = H8
      obtain ⟨x8, s8, o8⟩ := new_of e8 n8
      clear e8
      have g6 := g4.trans (Gr.new g4.fh x6)
      have g7 : Gr (fun b => b = p) F H F H7 := g6.trans (Gr.set g6.fh rfl fp o7)
      exact fin g7 n8 s8 o8 hp7 (.cons (.str _) (.cons (.str _) .nil)) (sd_call (nm_four _ hnm))
    · refine itF (in_strs (l := ["break", "continue"]) (by decide +kernel)) ?_
      refine ⟨_, rfl, sz (by simp), ?_⟩
      intro p4 n4
      generalize e4 : upd _ p4 _ = H4
      obtain ⟨x4, s4, o4⟩ := new_of e4 n4
      clear e4
      have g4 : Gr (fun b => b = p) F H F H4 := g3.trans (Gr.new g3.fh x4)
      refine ⟨p4, _, rfl, .inr (Evl.st_of s4), rfl, flat_strs ["return", "raise"], _, rfl, ?_⟩
      refine itT (in_strs (l := ["return", "raise"]) (by decide +kernel)) ?_
      refine ⟨_, rfl, sz (by simp), ?_⟩
      intro p5 n5
      generalize e5 : upd _ p5 _ = H5
      obtain ⟨x5, s5, o5⟩ := new_of e5 n5
      clear e5
      exact fin g4 n5 s5 o5 ⟨_, _, _, x4 _ _ hp3⟩ (.cons (.str _) .nil) sd_ret
    · refine itF (in_strs (l := ["break", "continue"]) (by decide +kernel)) ?_
      refine ⟨_, rfl, sz (by simp), ?_⟩
      intro p4 n4
      generalize e4 : upd _ p4 _ = H4
      obtain ⟨x4, s4, o4⟩ := new_of e4 n4
      clear e4
      have g4 : Gr (fun b => b = p) F H F H4 := g3.trans (Gr.new g3.fh x4)
      refine ⟨p4, _, rfl, .inr (Evl.st_of s4), rfl, flat_strs ["return", "raise"], _, rfl, ?_⟩
      refine itT (in_strs (l := ["return", "raise"]) (by decide +kernel)) ?_
      refine ⟨_, rfl, sz (by simp), ?_⟩
      intro p5 n5
      generalize e5 : upd _ p5 _ = H5
      obtain ⟨x5, s5, o5⟩ := new_of e5 n5
      clear e5
      exact fin g4 n5 s5 o5 ⟨_, _, _, x4 _ _ hp3⟩ (.cons (.str _) .nil) sd_rai
    · refine itT (in_strs (l := ["break", "continue"]) (by decide +kernel)) ?_
      refine ⟨_, rfl, _, _, rfl, rfl, _, rfl, ite_of (fun h0 => ?_) (fun h0 => ?_)⟩
      · have hl0 : 0 < loops := by
          have := of_decide_eq_true h0
          omega
        refine ⟨_, rfl, _, rfl, _, rfl, p, a1, a2, a3, _, rfl, hp3, (by omega), (by omega), fun x' y' z' v v0 v1 => ?_⟩
        generalize e4 : upd _ p _ = H4
        obtain ⟨s4, o4⟩ := set_of e4
        clear e4
        refine ⟨_, _, rfl, rfl, sz (by simp), ?_⟩
        intro p5 n5
        generalize e5 : upd _ p5 _ = H5
        obtain ⟨x5, s5, o5⟩ := new_of e5 n5
        clear e5
        have g4 : Gr (fun b => b = p) F H F H4 := g3.trans (Gr.set g3.fh rfl fp o4)
        exact fin g4 n5 s5 o5 ⟨_, _, _, s4⟩ (.cons (.str _) (.cons (.int _) .nil)) (sd_brk (by omega) (by omega))
      · refine ⟨sz (by simp), ?_⟩
        intro p5 n5
        generalize e5 : upd _ p5 _ = H5
        obtain ⟨x5, s5, o5⟩ := new_of e5 n5
        clear e5
        exact fin g3 n5 s5 o5 ⟨_, _, _, hp3⟩ (.cons (.str _) (.cons (.str _) .nil)) (sd_do (by decide))
    · refine itT (in_strs (l := ["break", "continue"]) (by decide +kernel)) ?_
      refine ⟨_, rfl, _, _, rfl, rfl, _, rfl, ite_of (fun h0 => ?_) (fun h0 => ?_)⟩
      · have hl0 : 0 < loops := by
          have := of_decide_eq_true h0
          omega
        refine ⟨_, rfl, _, rfl, _, rfl, p, a1, a2, a3, _, rfl, hp3, (by omega), (by omega), fun x' y' z' v v0 v1 => ?_⟩
        generalize e4 : upd _ p _ = H4
        obtain ⟨s4, o4⟩ := set_of e4
        clear e4
        refine ⟨_, _, rfl, rfl, sz (by simp), ?_⟩
        intro p5 n5
        generalize e5 : upd _ p5 _ = H5
        obtain ⟨x5, s5, o5⟩ := new_of e5 n5
        clear e5
        have g4 : Gr (fun b => b = p) F H F H4 := g3.trans (Gr.set g3.fh rfl fp o4)
        exact fin g4 n5 s5 o5 ⟨_, _, _, s4⟩ (.cons (.str _) (.cons (.int _) .nil)) (sd_cnt (by omega) (by omega))
      · refine ⟨sz (by simp), ?_⟩
        intro p5 n5
        generalize e5 : upd _ p5 _ = H5
        obtain ⟨x5, s5, o5⟩ := new_of e5 n5
        clear e5
        exact fin g3 n5 s5 o5 ⟨_, _, _, hp3⟩ (.cons (.str _) (.cons (.str _) .nil)) (sd_do (by decide))
    · refine itT (in_strs (l := ["break", "continue"]) (by decide +kernel)) ?_
      refine ⟨_, rfl, _, _, rfl, rfl, _, rfl, ite_of (fun h0 => ?_) (fun h0 => ?_)⟩
      · have hl0 : 0 < loops := by
          have := of_decide_eq_true h0
          omega
        refine ⟨_, rfl, _, rfl, _, rfl, p, a1, a2, a3, _, rfl, hp3, (by omega), (by omega), fun x' y' z' v v0 v1 => ?_⟩
        generalize e4 : upd _ p _ = H4
        obtain ⟨s4, o4⟩ := set_of e4
        clear e4
        refine ⟨_, _, rfl, rfl, sz (by simp), ?_⟩
        intro p5 n5
        generalize e5 : upd _ p5 _ = H5
        obtain ⟨x5, s5, o5⟩ := new_of e5 n5
        clear e5
        have g4 : Gr (fun b => b = p) F H F H4 := g3.trans (Gr.set g3.fh rfl fp o4)
        exact fin g4 n5 s5 o5 ⟨_, _, _, s4⟩ (.cons (.str _) (.cons (.int _) .nil)) (sd_brk (by omega) (by omega))
      · refine ⟨sz (by simp), ?_⟩
        intro p5 n5
        generalize e5 : upd _ p5 _ = H5
        obtain ⟨x5, s5, o5⟩ := new_of e5 n5
        clear e5
        exact fin g3 n5 s5 o5 ⟨_, _, _, hp3⟩ (.cons (.str _) (.cons (.str _) .nil)) (sd_do (by decide))
end

end Fc

set_option maxRecDepth 100000
set_option maxHeartbeats 4000000
namespace Fc
open PySem PySem.Spec PyProof.Rows L2 FcR
open Evl (Ex)
theorem SD.mono {a b l : Nat} {d : PyData} (h : SD a l d) (e : a ≤ b) : SD b l d := by
  induction h generalizing b with
  | mk st cl sz l3 ps ih =>
    obtain ⟨b', rfl⟩ : ∃ b', b = b' + 1 := ⟨b - 1, by omega⟩
    exact .mk st cl sz l3 fun p hp => ih p hp (by omega)
theorem SD.can {a l : Nat} {d : PyData} (h : SD a l d) : PyData.canLay0 d = true := by
  cases h with
  | mk _ cl _ _ _ => exact cl
theorem sd_if {m l : Nat} {a b : PyData} (ha : SD m l a) (hb : SD m l b) : SD (m + 1) l (.tuple [.str "if", .str "i", a, b]) := by
  refine .mk (show nameOk "i" = true by decide +kernel) ?_ (fun k x r e => by cases e; decide +kernel) (show 2 ≤ 3 by decide) fun p hp => ?_
  · show (PyData.canLay0 (.str "if") && (PyData.canLay0 (.str "i") && (PyData.canLay0 a && (PyData.canLay0 b && true)))) = true
    rw [ha.can, hb.can]
    kernel_rfl
  · have hp : p ∈ [a, b] := hp
    rcases List.mem_cons.mp hp with rfl | hp
    · exact ha
    · rw [List.mem_singleton.mp hp]; exact hb
theorem sd_two {m l : Nat} {k : Str} {a b : PyData} (hk : k = "try" ∨ k = "final") (ha : SD m l a) (hb : SD m l b) : SD (m + 1) l (.tuple [.str k, a, b]) := by
  rcases hk with rfl | rfl
  · refine .mk rfl ?_ (fun k x r e => ?_) (show 2 ≤ 3 by decide) fun p hp => ?_
    · show (PyData.canLay0 (.str "try") && (PyData.canLay0 a && (PyData.canLay0 b && true))) = true
      rw [ha.can, hb.can]
      kernel_rfl
    · cases e
      cases ha with
      | mk st => cases st
    · have hp : p ∈ [a, b] := hp
      rcases List.mem_cons.mp hp with rfl | hp
      · exact ha
      · rw [List.mem_singleton.mp hp]; exact hb
  · refine .mk rfl ?_ (fun k x r e => ?_) (show 2 ≤ 3 by decide) fun p hp => ?_
    · show (PyData.canLay0 (.str "final") && (PyData.canLay0 a && (PyData.canLay0 b && true))) = true
      rw [ha.can, hb.can]
      kernel_rfl
    · cases e
      cases ha with
      | mk st => cases st
    · have hp : p ∈ [a, b] := hp
      rcases List.mem_cons.mp hp with rfl | hp
      · exact ha
      · rw [List.mem_singleton.mp hp]; exact hb
theorem sd_whl {m l : Nat} {x : Str} {a : PyData} (hx : x ∈ lNames) (ha : SD m (l + 1) a) : SD (m + 1) l (.tuple [.str "while", .str x, a]) := by
  obtain ⟨h1, h2, h3⟩ := nm_ok x hx
  refine .mk (show nameOk x = true from h1) ?_ (fun k y r e => by cases e; exact h3) (show 1 ≤ 3 by decide) fun p hp => ?_
  · show (PyData.canLay0 (.str "while") && (PyData.canLay0 (.str x) && (PyData.canLay0 a && true))) = true
    rw [ha.can, h2]
    kernel_rfl
  · have hp : p ∈ [a] := hp
    rw [List.mem_singleton.mp hp]
    exact ha
theorem lay_all {l : List PyData} (h : ∀ d ∈ l, PyData.canLay0 d = true) : PyData.canLayAll0 l = true := canAll h
theorem sd_seq {m l : Nat} {ds : List PyData} (hn : ds ≠ []) (h3 : ds.length ≤ 3) (h : ∀ d ∈ ds, SD m l d) : SD (m + 1) l (.tuple [.str "seq", .tuple ds]) := by
  have hp : partsD (.tuple [.str "seq", .tuple ds]) = ds := List.take_of_length_le (by omega)
  refine .mk ?_ ?_ (fun k x r e => by cases e) (by rw [hp]; exact h3) fun p hq => ?_
  · cases ds with
    | nil => exact absurd rfl hn
    | cons a b => rfl
  · show (PyData.canLay0 (.str "seq") && (PyData.canLayAll0 ds && true)) = true
    rw [lay_all fun d hd => (h d hd).can]
    kernel_rfl
  · rw [hp] at hq
    exact h p hq
def sp_stm (K : PySem.W.Frag) (n : Nat) : Sp := fun vs H Q _ => ∃ (F : Hp) (p : Addr) (deep loops : Nat), vs = [.ref p, .int (deep : Int), .int (loops : Int)] ∧ deep ≤ n ∧ Ex F H ∧ F p = none ∧ Src H p ∧ loops + deep < 900 ∧
  ∀ (F' H' : Hp) (v : V) (d : PyData), Gr (fun b => b = p) F H F' H' → F' p = none → Src H' p → Dp K F' v d → SD (max 1 deep) loops d → Q v H'
section
variable {P : Program} {w : World} {h : Heap} {K : PySem.W.Frag} {mg : Str → Option Value} {base : Heap}
theorem st_pre (n : Nat) (IH : ∀ m, m < n → Ok P w K mg base (m + 5) ("_law_statement", none) ["_law_source", "_law_deep", "_law_loops"] (sp_stm K m)) (T : Tx w h K mg) :
    Ok P w K mg base (n + 4) ("_law_statement", none) ["_law_source", "_law_deep", "_law_loops"] (fun vs H Q E => ∃ m, m < n ∧ sp_stm K m vs H Q E) := by
  cases n with
  | zero =>
    obtain ⟨fd, F⟩ := F_law_statement T
    refine ⟨fd, ⟨fun vs H Q E h => ?_, fun A outer s H args us vs Q E _ _ _ _ h => ?_⟩, F.bindsN (fun _ _ _ _ _ _ us hl => match us, hl with | [_, _, _], _ => rfl), F.kp⟩
    · obtain ⟨m, h, _⟩ := h
      exact absurd h (Nat.not_lt_zero _)
    · obtain ⟨m, h, _⟩ := h
      exact absurd h (Nat.not_lt_zero _)
  | succ n =>
    obtain ⟨fd, G, b, kp⟩ := IH n (Nat.lt_succ_self _)
    refine ⟨fd, G.imp fun vs H Q E h => ?_, b, kp⟩
    obtain ⟨m, hm, F, p, deep, loops, e, hd, r⟩ := h
    exact ⟨F, p, deep, loops, e, by omega, r⟩
abbrev N_law_statement : List Str := ["_law_source", "_law_deep", "_law_loops", "_law_kind", "_law_one_here", "_law_other", "_law_k"]
theorem sc_law_statement : FnScope N_law_statement ["_law_source", "_law_deep", "_law_loops"] (defScope sd_law_statement) := ⟨rfl, rfl, rfl, by decide +kernel, rfl, by decide +kernel, by decide +kernel⟩
theorem ok_law_statement (n : Nat) (IH : ∀ m, m < n → Ok P w K mg base (m + 5) ("_law_statement", none) ["_law_source", "_law_deep", "_law_loops"] (sp_stm K m)) (T : Tx w h K mg) : Ok P w K mg base (n+5) ("_law_statement", none) ["_law_source", "_law_deep", "_law_loops"] (sp_stm K n) := by
  obtain ⟨fd, F⟩ := F_law_statement T
  refine ⟨fd, ?_, F.bindsN (fun _ _ _ _ _ _ us hl => match us, hl with | [_, _, _], _ => rfl), F.kp⟩
  obtain ⟨fd_law_draw, G_law_draw, bi_law_draw, kp_law_draw⟩ := ok_law_draw (P := P) (base := base) T
  obtain ⟨fd_law_leaf, G_law_leaf, bi_law_leaf, kp_law_leaf⟩ := ok_law_leaf (P := P) (base := base) T
  obtain ⟨fd_law_one, G_law_one, bi_law_one, kp_law_one⟩ := ok_law_one (P := P) (base := base) T
  obtain ⟨fd_law_statement, G_law_statement, bi_law_statement, kp_law_statement⟩ : Ok P w K mg base (n + 4) ("_law_statement", none) ["_law_source", "_law_deep", "_law_loops"] (fun vs H Q E => ∃ m, m < n ∧ sp_stm K m vs H Q E) := st_pre n IH T
  refine F.ok sc_law_statement (fun vs H Q E h => ?_) (fun cdv A outer s H vs Q E hr h => ?_)
  · obtain ⟨F, p, deep, loops, rfl, hn, xF, fp, hp, hlp, q⟩ := h
    rfl
  · obtain ⟨F, p, deep, loops, rfl, hn, xF, fp, hp, hlp, q⟩ := h
    refine ⟨_, PSs.nox (pss_cons (ps_if (PW.pt (pw_or (pt_cmpR op_lt (pv 1) pe_int (nomark _)) (pw_or1 (pt_cmpR op_eq (pe_call G_law_draw (hr.mono (by omega)) rfl (g_law_draw T) kp_law_draw bi_law_draw .nil passF (pa_cons (pv 0) (pa_cons pe_int pa_nil))) pe_int (nomark _))))) (pss_one (ps_ret (pe_call G_law_leaf (hr.mono (by omega)) rfl (g_law_leaf T) kp_law_leaf bi_law_leaf .nil passF (pa_cons (pv 0) (pa_cons (pv 2) pa_nil))))) pss_nil) (pss_cons (ps_set (i := 3) sc_law_statement.nd rfl (Or.inl rfl) (pe_call G_law_one (hr.mono (by omega)) rfl (g_law_one T) kp_law_one bi_law_one .nil passF (pa_cons (pv 0) (pa_cons (pe_lst (pa_cons pe_str (pa_cons pe_str (pa_cons pe_str (pa_cons pe_str (pa_cons pe_str (pa_cons pe_str (pa_cons pe_str (pa_cons pe_str pa_nil))))))))) pa_nil)))) (pss_cons (ps_if (pt_cmpR op_eq (pv 3) pe_str (nomark _)) (pss_one (ps_ret (pe_tup (pa_cons (pv 3) (pa_cons (pe_callTy call_tuple_of rfl (fr_tuple T) b_tuple (pa_cons (pe_lc (own := [("_law_k", 6)]) rfl sc_law_statement.nd (pi_range1 rfl (fr_range T) (pa_cons (pe_op op_add pe_int (pe_call G_law_draw (hr.mono (by omega)) rfl (g_law_draw T) kp_law_draw bi_law_draw .nil passF (pa_cons (pv 0) (pa_cons pe_int pa_nil)))) pa_nil)) (blkOk_by (N := N_law_statement) (sc := defScope sd_law_statement) (by decide +kernel)) (fun _ _ _ _ _ => (pg_name (i := 6) sc_law_statement.nd rfl (Or.inl rfl))) (fun _ _ _ _ _ => pts_nil) (fun _ _ _ _ _ => (pe_call G_law_statement (hr.mono (by omega)) rfl (g_law_statement T) kp_law_statement bi_law_statement .nil passF (pa_cons (pv 0) (pa_cons (pe_op op_sub (pv 1) pe_int) (pa_cons (pv 2) pa_nil)))))) pa_nil)) pa_nil))))) pss_nil) (pss_cons (ps_if (pt_cmpR op_eq (pv 3) pe_str (nomark _)) (pss_one (ps_ret (pe_tup (pa_cons (pv 3) (pa_cons (pe_call G_law_one (hr.mono (by omega)) rfl (g_law_one T) kp_law_one bi_law_one .nil passF (pa_cons (pv 0) (pa_cons (pe_lst (pa_cons pe_str (pa_cons pe_str pa_nil))) pa_nil))) (pa_cons (pe_call G_law_statement (hr.mono (by omega)) rfl (g_law_statement T) kp_law_statement bi_law_statement .nil passF (pa_cons (pv 0) (pa_cons (pe_op op_sub (pv 1) pe_int) (pa_cons (pe_op op_add (pv 2) pe_int) pa_nil)))) pa_nil)))))) pss_nil) (pss_cons (ps_par rfl sc_law_statement.nd (i := 4) (j := 5) rfl rfl (by decide) rfl rfl (pa_cons (pe_call G_law_statement (hr.mono (by omega)) rfl (g_law_statement T) kp_law_statement bi_law_statement .nil passF (pa_cons (pv 0) (pa_cons (pe_op op_sub (pv 1) pe_int) (pa_cons (pv 2) pa_nil)))) (pa_cons (pe_call G_law_statement (hr.mono (by omega)) rfl (g_law_statement T) kp_law_statement bi_law_statement .nil passF (pa_cons (pv 0) (pa_cons (pe_op op_sub (pv 1) pe_int) (pa_cons (pv 2) pa_nil)))) pa_nil)) (by rfl)) (pss_one (ps_ret (pe_ifExp (pt_cmpR op_eq (pv 3) pe_str (nomark _)) (pe_tup (pa_cons (pv 3) (pa_cons pe_str (pa_cons (pv 4) (pa_cons (pv 5) pa_nil))))) (pe_tup (pa_cons (pv 3) (pa_cons (pv 4) (pa_cons (pv 5) pa_nil)))))))))))), ?_⟩
    have leafQ : ∀ {H1 : Hp}, Gr (fun b => b = p) F H F H1 → Src H1 p → sp_leaf K [.ref p, .int (loops : Int)] H1 Q (fun _ _ _ => False) := fun {H1} g hp1 => ⟨F, p, loops, rfl, g.fh, fp, hp1, by omega, fun F' H' v d g' f' s' dv sd => q F' H' v d (g.trans g') f' s' dv (sd.mono (by omega))⟩
    refine ⟨_, rfl, _, _, rfl, rfl, _, rfl, ite_of (fun h1 => ?_) (fun h1 => ?_)⟩
    · exact ⟨_, rfl, _, rfl, leafQ (Gr.refl xF) hp⟩
    have hd2 : 2 ≤ deep := by
      have := of_decide_eq_false h1
      omega
    obtain ⟨x, y, z, hp0⟩ := hp
    refine ⟨_, rfl, p, x, y, z, 7, rfl, hp0, by decide, by decide, fun x' y' z' v v0 v1 => ?_⟩
    generalize e1 : upd _ p _ = H1
    obtain ⟨s1, o1⟩ := set_of e1
    clear e1
    have g1 : Gr (fun b => b = p) F H F H1 := Gr.set xF rfl fp o1
    refine ⟨rfl, _, rfl, ite_of (fun h2 => ?_) (fun h2 => ?_)⟩
    · exact ⟨_, rfl, _, rfl, leafQ g1 ⟨_, _, _, s1⟩⟩
    refine ⟨_, rfl, sz (by simp), ?_⟩
    intro p2 n2
    generalize e2 : upd _ p2 _ = H2
    obtain ⟨x2, s2, o2⟩ := new_of e2 n2
    clear e2
    refine ⟨p, p2, ["if", "while", "seq", "seq", "try", "final", "final", "final"], rfl, ⟨_, _, _, x2 _ _ s1⟩, s2, (fun e => by rw [e, s1] at n2; cases n2), (by simp), (by simp), fun H3 k hk hp3 o3 => ?_⟩
    have g2 := g1.trans (Gr.new g1.fh x2)
    have g3 : Gr (fun b => b = p) F H F H3 := g2.trans (Gr.set g2.fh rfl fp o3)
    have fin : ∀ {F4 H4 H5 : Hp} {q5 : Addr} {xs : List V} {ds : List PyData}, Gr (fun b => b = p) F H F4 H4 → F4 p = none → H4 q5 = none → H5 q5 = some (.tup xs) → (∀ b, b ≠ q5 → H5 b = H4 b) → Src H4 p → DpAll K F4 xs ds → SD deep loops (.tuple ds) → Q (.ref q5) H5 := fun {F4 H4 H5 q5 xs ds} g f4 n5 s5 o5 sp da sd => by
      have pq : p ≠ q5 := fun z => by
        obtain ⟨b1, b2, b3, hb⟩ := sp
        rw [z, n5] at hb
        cases hb
      refine q (upd F4 q5 (.tup xs)) H5 _ _ (g.trans (Gr.frz g.fh n5 s5 o5)) (by rw [upd_ne pq]; exact f4) ?_ (.tup (Evl.st_of upd_same) (dpA_ex (exu (Evl.Ex.refl _) (ex_none g.fh n5)) da)) (sd.mono (by omega))
      obtain ⟨b1, b2, b3, hb⟩ := sp
      exact ⟨b1, b2, b3, by rw [o5 p pq]; exact hb⟩
    have hdi : ((deep : Int) - 1) = ((deep - 1 : Nat) : Int) := by omega
    have hmx : max 1 (deep - 1) = deep - 1 := by omega
    have rec_ : ∀ {F4 H4 : Hp} {lp : Nat} {li : Int} {Q' : VK}, li = (lp : Int) → Gr (fun b => b = p) F H F4 H4 → F4 p = none → Src H4 p → lp + deep ≤ 900 → (∀ (F' H' : Hp) (v : V) (d : PyData), Gr (fun b => b = p) F4 H4 F' H' → F' p = none → Src H' p → Dp K F' v d → SD (deep - 1) lp d → Q' v H') →
        (∃ m, m < n ∧ sp_stm K m [.ref p, .int ((deep : Int) - 1), .int li] H4 Q' (fun _ _ _ => False)) := fun {F4 H4 lp li Q'} el g f4 s4 hl hq => by
      rw [hdi, el]
      exact ⟨deep - 1, by omega, F4, p, deep - 1, lp, rfl, Nat.le_refl _, g.fh, f4, s4, by omega, fun F' H' v d g' f' s' dv sd => hq F' H' v d g' f' s' dv (by rw [hmx] at sd; exact sd)⟩
    simp only [List.mem_cons, List.not_mem_nil, or_false] at hk
    by_cases hks : k = "seq"
    · subst hks
      refine ⟨_, rfl, rfl, _, rfl, itT rfl ?_⟩
      obtain ⟨b1, b2, b3, hb⟩ := hp3
      refine ⟨_, rfl, _, rfl, p, b1, b2, b3, 3, rfl, hb, by decide, by decide, fun x' y' z' c c0 c1 => ?_⟩
      generalize e4 : upd _ p _ = H4
      obtain ⟨s4, o4⟩ := set_of e4
      clear e4
      have g4 : Gr (fun b => b = p) F H F H4 := g3.trans (Gr.set g3.fh rfl fp o4)
      refine ⟨_, _, rfl, rfl, _, rfl, (by omega), (by omega), fun D nD => ?_⟩
      obtain ⟨cn, hcn⟩ : ∃ cn : Nat, ((1 : Int) + c).toNat = cn := ⟨_, rfl⟩
      rw [hcn]
      have nDH : H D = none := by
        cases e8 : H D with
        | none => rfl
        | some o =>
          by_cases hDp : D = p
          · rw [hDp, s4] at nD; cases nD
          · rw [g4.kp D o e8 hDp] at nD; cases nD
      have hDp : D ≠ p := fun e => by rw [e, s4] at nD; cases nD
      refine lc_it (walk_range (lo := 0) (n := cn)) (fun i H' => ∃ (F5 : Hp) (vs : List V) (ds : List PyData), Gr (fun b => b = p) F H F5 H' ∧ F5 p = none ∧ Src H' p ∧ F5 D = none ∧ H' D = some (.lst vs) ∧ DpAll K F5 vs ds ∧ vs.length = i ∧ ∀ d ∈ ds, SD (deep - 1) loops d) ?_ ?_ ?_ ?_
      · refine ⟨F, [], [], g4.trans (Gr.new g4.fh (exu (Evl.Ex.refl _) nD)), fp, ⟨x', y', z', by rw [upd_ne hDp.symm]; exact s4⟩, ex_none g4.fh nD, upd_same, .nil, rfl, fun d hd => by cases hd⟩
      · exact fun _ _ _ _ => True.intro
      · rintro i v Ja Jb hi ⟨F5, vs, ds, g5, f5, s5, fD, lD, da, hv, hsd⟩ ⟨rfl, rfl⟩
        refine ⟨rfl, _, rfl, _, rfl, _, _, rfl, rfl, _, rfl, rec_ rfl g5 f5 s5 (by omega) fun F6 H6 va d6 g6 f6 s6 dva sda => ?_⟩
        have l6 := g6.kp D _ lD hDp
        have fD6 : F6 D = none := g6.nw D (by rw [lD]; exact fun z => nomatch z) fD hDp
        have g56 := g5.trans g6
        refine ⟨vs, l6, szl (by omega), F6, vs ++ [va], ds ++ [d6], ⟨g56.ff, exm g56.fh fD6, g56.nw, fun b o e hb => by rw [upd_ne (ne_of_none e nDH)]; exact g56.kp b o e hb⟩, f6, ?_, fD6, upd_same, dpA_app (dpA_ex g6.ff da) (.cons dva .nil), by rw [List.length_append, hv] <;> rfl, fun d hd => ?_⟩
        · obtain ⟨a1, a2, a3, ha⟩ := s6
          exact ⟨a1, a2, a3, by rw [upd_ne hDp.symm]; exact ha⟩
        · rcases List.mem_append.mp hd with hd | hd
          · exact hsd d hd
          · rw [List.mem_singleton.mp hd]; exact sda
      rintro H5 ⟨F5, vs, ds, g5, f5, s5, fD, lD, da, hv, hsd⟩
      refine ⟨D, vs, rfl, .inl ⟨Evl.sq_of lD, ?_⟩⟩
      intro p8 n8
      generalize e8 : upd _ p8 _ = H8
      obtain ⟨x8, s8, o8⟩ := new_of e8 n8
      clear e8
      refine ⟨sz (by simp), ?_⟩
      intro p9 n9
      generalize e9 : upd _ p9 _ = H9
      obtain ⟨x9, s9, o9⟩ := new_of e9 n9
      clear e9
      have hdl : ds.length = cn := by rw [← hv, dpA_len da]
      have p8p : p ≠ p8 := fun e => by obtain ⟨a1, a2, a3, ha⟩ := s5; rw [← e, ha] at n8; cases n8
      have g8 := g5.trans (Gr.frz g5.fh n8 s8 o8)
      obtain ⟨dm, rfl⟩ : ∃ dm, deep = dm + 1 := ⟨deep - 1, by omega⟩
      refine fin (ds := [.str "seq", .tuple ds]) g8 (by rw [upd_ne p8p]; exact f5) n9 s9 o9 (by obtain ⟨a1, a2, a3, ha⟩ := s5; exact ⟨a1, a2, a3, x8 _ _ ha⟩) (.cons (.str _) (.cons (.tup (Evl.st_of upd_same) (dpA_ex (exu (Evl.Ex.refl _) (ex_none g5.fh n8)) da)) .nil)) (sd_seq (fun e => by rw [e] at hdl; simp at hdl; omega) (by omega) hsd)
    refine ⟨_, rfl, rfl, _, rfl, itF (decide_eq_false fun z => hks (V.str.inj z)) ?_⟩
    by_cases hkw : k = "while"
    · subst hkw
      refine ⟨_, rfl, rfl, _, rfl, itT rfl ?_⟩
      refine ⟨_, rfl, _, rfl, sz (by simp), ?_⟩
      intro p4 n4
      generalize e4 : upd _ p4 _ = H4
      obtain ⟨x4, s4, o4⟩ := new_of e4 n4
      clear e4
      refine ⟨p, p4, ["a", "w"], rfl, (by obtain ⟨b1, b2, b3, hb⟩ := hp3; exact ⟨b1, b2, b3, x4 _ _ hb⟩), s4, (fun e => by obtain ⟨b1, b2, b3, hb⟩ := hp3; rw [e, hb] at n4; cases n4), (by simp), (by simp), fun H5 nm hnm hp5 o5 => ?_⟩
      have g4 := g3.trans (Gr.new g3.fh x4)
      have g5 : Gr (fun b => b = p) F H F H5 := g4.trans (Gr.set g4.fh rfl fp o5)
      have hli : (loops : Int) + 1 = ((loops + 1 : Nat) : Int) := by omega
      obtain ⟨dm, rfl⟩ : ∃ dm, deep = dm + 1 := ⟨deep - 1, by omega⟩
      refine ⟨_, rfl, _, rfl, _, _, rfl, rfl, _, rfl, _, _, rfl, rfl, ?_⟩
      refine rec_ hli g5 fp hp5 (by omega) fun F6 H6 va da g6 f6 s6 dva sda => ?_
      refine ⟨sz (by simp), ?_⟩
      intro p7 n7
      generalize e7 : upd _ p7 _ = H7
      obtain ⟨x7, s7, o7⟩ := new_of e7 n7
      clear e7
      exact fin (g5.trans g6) f6 n7 s7 o7 s6 (.cons (.str _) (.cons (.str _) (.cons dva .nil))) (sd_whl (by simp [lNames] at hnm ⊢; rcases hnm with h | h <;> simp [h]) sda)
    refine ⟨_, rfl, rfl, _, rfl, itF (decide_eq_false fun z => hkw (V.str.inj z)) ?_⟩
    obtain ⟨dm, rfl⟩ : ∃ dm, deep = dm + 1 := ⟨deep - 1, by omega⟩
    refine ⟨_, rfl, _, rfl, _, _, rfl, rfl, _, rfl, rec_ rfl g3 fp hp3 (by omega) fun F4 H4 va da g4 f4 s4 dva sda => ?_⟩
    refine ⟨_, rfl, _, rfl, _, _, rfl, rfl, _, rfl, rec_ rfl (g3.trans g4) f4 s4 (by omega) fun F5 H5 vb db g5 f5 s5 dvb sdb => ⟨_, _, rfl, ?_⟩⟩
    have g345 := (g3.trans g4).trans g5
    have dva5 := dp_ex g5.ff dva
    refine ⟨_, rfl, rfl, _, rfl, ite_of (fun h6 => ?_) (fun h6 => ?_)⟩
    · obtain rfl : k = "if" := V.str.inj (of_decide_eq_true h6)
      refine ⟨_, rfl, _, rfl, _, rfl, sz (by simp), ?_⟩
      intro p7 n7
      generalize e7 : upd _ p7 _ = H7
      obtain ⟨x7, s7, o7⟩ := new_of e7 n7
      clear e7
      exact fin g345 f5 n7 s7 o7 s5 (.cons (.str _) (.cons (.str _) (.cons dva5 (.cons dvb .nil)))) (sd_if sda sdb)
    · have hki : k ≠ "if" := fun z => of_decide_eq_false h6 (by rw [z])
      refine ⟨_, rfl, _, rfl, _, rfl, sz (by simp), ?_⟩
      intro p7 n7
      generalize e7 : upd _ p7 _ = H7
      obtain ⟨x7, s7, o7⟩ := new_of e7 n7
      clear e7
      exact fin g345 f5 n7 s7 o7 s5 (.cons (.str _) (.cons dva5 (.cons dvb .nil))) (sd_two (by
        rcases hk with z | z | z | z | z | z | z | z
        · exact absurd z hki
        · exact absurd z hkw
        · exact absurd z hks
        · exact absurd z hks
        · exact .inl z
        · exact .inr z
        · exact .inr z
        · exact .inr z) sda sdb)
theorem ok_stm (T : Tx w h K mg) (n : Nat) : Ok P w K mg base (n + 5) ("_law_statement", none) ["_law_source", "_law_deep", "_law_loops"] (sp_stm K n) := by
  induction n using Nat.strongRecOn with
  | ind n ih => exact ok_law_statement n ih T
end

end Fc

set_option maxRecDepth 100000
set_option maxHeartbeats 4000000
namespace Fc
open PySem PySem.Spec PyProof.Rows L2 FcR
open Evl (Ex)
theorem Builds.keeps : ∀ {m : Nat} {st : List WIt} {rows fin : List Row}, Builds m st rows fin → ∀ c, c < rows.length → fin[c]?.map Row.d = rows[c]?.map Row.d
  | _, _, _, _, .done _, _, _ => rfl
  | _, _, _, _, .step ok h, c, hc => by rw [Builds.keeps h c (by rw [addRow_len]; omega), addRow_d hc]
theorem Builds.first {m : Nat} {it : WIt} {fin : List Row} (b : Builds m [it] [] fin) {r : Row} (hr : fin[0]? = some r) : r.d = it.d := by
  cases b with
  | step ok h =>
    have z := Builds.keeps h 0 (by rw [addRow_len]; exact Nat.zero_lt_succ _)
    have y : (addRow [] it.d it.par)[0]? = some ⟨it.d, it.par, []⟩ := addRow_new (rows := [])
    rw [hr, y] at z
    exact Option.some.inj z
/-- the most that a drawn statement weighs -/
def wMax : Nat → Nat
  | 0 => 0
  | k + 1 => 1 + 3 * wMax k
theorem sum_le {f : Nat → Nat} {m : Nat} : ∀ (l : List Nat), (∀ i ∈ l, f i ≤ m) → (l.map f).sum ≤ l.length * m
  | [], _ => Nat.zero_le _
  | a :: l, h => by
    rw [List.map_cons, List.sum_cons, List.length_cons, Nat.succ_mul]
    have := h a List.mem_cons_self
    have := sum_le l fun i hi => h i (List.mem_cons_of_mem _ hi)
    omega
theorem okS_sd {k loops : Nat} {d : PyData} (h : SD k loops d) : ∀ {deep blocks : Nat}, deep + k ≤ 101 → blocks + k ≤ 26 → ∃ w, w ≤ wMax k ∧ OkS loops deep blocks w d := by
  induction h with
  | @mk k loops d st cl sz l3 ps ih =>
    intro deep blocks h1 h2
    have hx : ∀ i, ∃ w, ∀ p, (partsD d)[i]? = some p → w ≤ wMax k ∧ OkS (loops + wl d) (deep + 1) (blocks + (if kindD d = "final" ∧ i = 1 then 1 else 0)) w p := fun i => by
      cases e : (partsD d)[i]? with
      | none => exact ⟨0, fun p hp => by cases hp⟩
      | some p =>
        have hm := List.mem_of_getElem? e
        obtain ⟨w, a, b⟩ := ih p hm (deep := deep + 1) (blocks := blocks + (if kindD d = "final" ∧ i = 1 then 1 else 0)) (by omega) (by split <;> omega)
        exact ⟨w, fun q hq => by cases hq; exact ⟨a, b⟩⟩
    refine ⟨_, ?_, .mk (fun i => Classical.choose (hx i)) st (by omega) (by omega) fun i p hp => (Classical.choose_spec (hx i) p hp).2⟩
    have z := sum_le (f := fun i => Classical.choose (hx i)) (m := wMax k) (List.range (partsD d).length) fun i hi => by
      have li : i < (partsD d).length := List.mem_range.mp hi
      exact (Classical.choose_spec (hx i) _ (List.getElem?_eq_getElem li)).1
    rw [List.length_range] at z
    have e3 : (partsD d).length * wMax k ≤ 3 * wMax k := Nat.mul_le_mul_right _ l3
    show 1 + _ ≤ 1 + 3 * wMax k
    omega
theorem hd_sd {k loops : Nat} {d : PyData} (h : SD k loops d) : HD k d := by
  induction h with
  | mk st cl sz l3 ps ih => exact .mk fun p hp => ih p hp
theorem idx_map {l : List Nat} (nd : l.Nodup) (f : Nat → Nat) : l.map (fun c => f (l.idxOf c)) = (List.range l.length).map f := by
  apply List.ext_getElem?
  intro i
  rw [List.getElem?_map, List.getElem?_map]
  by_cases h : i < l.length
  · rw [List.getElem?_eq_getElem h, List.getElem?_range h]
    have hm : l[i] ∈ l := List.getElem_mem h
    have lt : l.idxOf l[i] < l.length := List.idxOf_lt_length_of_mem hm
    have e : l[l.idxOf l[i]]? = some l[i] := by
      rw [List.getElem?_eq_getElem lt, List.getElem_idxOf lt]
    have z := nd_get nd e (List.getElem?_eq_getElem h)
    show some (f (l.idxOf l[i])) = some (f i)
    rw [z]
  · rw [List.getElem?_eq_none (by omega), List.getElem?_eq_none (by rw [List.length_range]; omega)] <;> rfl
theorem wg_of {rows : List Row} {lp : Nat → Nat} (W : TW rows lp) : ∀ {a b c w : Nat} {d : PyData}, OkS a b c w d → ∀ {n : Nat} {r : Row}, rows[n]? = some r → r.d = d → FcM.Wg (tabOf rows) w n := by
  intro a b c w d h
  induction h with
  | @mk loops deep blocks d wt st hd hb ps ih =>
    intro n r hr e
    have hl : n < rows.length := (List.getElem?_eq_some_iff.mp hr).1
    obtain ⟨s1, s2, s3⟩ := W.sv n r hr
    have hnd : ((tabOf rows).nd n).ch = r.ch := by rw [tab_nd hr, ← s3]
    have nd : r.ch.Nodup := by
      have := W.wf.nd n hl
      rw [hnd] at this
      exact this
    have e1 : ((List.range (partsD d).length).map wt).sum = (((tabOf rows).nd n).ch.map fun c => wt (r.ch.idxOf c)).sum := by
      rw [hnd, idx_map nd, s2, e]
    rw [e1]
    refine .mk _ fun c hc => ?_
    rw [hnd] at hc
    have lt : r.ch.idxOf c < r.ch.length := List.idxOf_lt_length_of_mem hc
    have e2 : r.ch[r.ch.idxOf c]? = some c := by rw [List.getElem?_eq_getElem lt, List.getElem_idxOf lt]
    obtain ⟨r', x1, x2⟩ := W.pr n r hr _ c e2
    exact ih _ r'.d (by rw [← e]; exact x2) x1 rfl
/-- all that is known of a drawn code -/
theorem drawn_code {k : Nat} {d : PyData} (h : SD k 0 d) (hk : k ≤ 6) : ∃ N fin lp, Builds N [⟨d, none, 1, 0, 0⟩] [] fin ∧ TW fin lp ∧ fin.length ≤ 400 ∧ FcM.Hg (tabOf fin) k 0 ∧ ∃ w, w ≤ 400 ∧ FcM.Wg (tabOf fin) w 0 := by
  obtain ⟨w, hw, ok⟩ := okS_sd h (deep := 1) (blocks := 0) (by omega) (by omega)
  have h6 : wMax k ≤ 364 := by
    have : k = 0 ∨ k = 1 ∨ k = 2 ∨ k = 3 ∨ k = 4 ∨ k = 5 ∨ k = 6 := by omega
    rcases this with z | z | z | z | z | z | z <;> subst z <;> decide
  obtain ⟨fin, b, l⟩ := builds_of w [⟨d, none, 1, 0, 0⟩] [] (by have := OkL.cons (it := ⟨d, none, 1, 0, 0⟩) ok .nil; simpa using this) (by simp; omega)
  have hne : 0 < fin.length := by
    rw [l]
    cases ok
    simp
    omega
  obtain ⟨ls, bi⟩ := BI.all b (BI.start d)
  have W := tw_of bi hne
  obtain ⟨r, hr⟩ := row_at hne
  have e : r.d = d := Builds.first b hr
  exact ⟨w, fin, _, b, W, by rw [l]; simp; omega, hg_of W (hd_sd h) hr e, w, by omega, wg_of W ok hr e⟩

end Fc

set_option maxRecDepth 100000
set_option maxHeartbeats 4000000
namespace Fc
open PySem PySem.Spec PyProof.Rows L2 FcR
open Evl (Ex)
open FcM (Way Node Tab Pd Rs Wt)
/-! ### plain parts that several laws need  -/
theorem intsV_app (l : List Nat) (n : Nat) : intsV l ++ [.int (n : Int)] = intsV (l ++ [n]) := by unfold intsV; rw [List.map_append] <;> rfl
theorem intsV_len (l : List Nat) : (intsV l).length = l.length := by unfold intsV; rw [List.length_map]
theorem dp_ints {K : PySem.W.Frag} {H : Hp} : ∀ l : List Nat, DpAll K H (intsV l) (l.map fun n : Nat => PyData.int (n : Int))
  | [] => .nil
  | _ :: l => .cons (.int _) (dp_ints l)
theorem can_ints : ∀ l : List Nat, PyData.canLayAll0 (l.map fun n : Nat => PyData.int (n : Int)) = true
  | [] => rfl
  | _ :: l => can_ints l
theorem dep_ints (l : List Nat) : PyData.depthAll (l.map fun n : Nat => PyData.int (n : Int)) ≤ 1 := by
  induction l with
  | nil => decide
  | cons a l ih =>
    show max (PyData.depth (.int (a : Int))) (PyData.depthAll (l.map fun n : Nat => PyData.int (n : Int))) ≤ 1
    have : PyData.depth (.int (a : Int)) ≤ 1 := by simp [PyData.depth]
    omega
theorem kind_fin {d : Node} (h : kindN d = "final") : ∃ a b, d = .fin a b := by
  cases d with
  | fin a b => exact ⟨a, b, rfl⟩
  | do_ => exact absurd h (by decide +kernel)
  | call => exact absurd h (by decide +kernel)
  | ret => exact absurd h (by decide +kernel)
  | rai => exact absurd h (by decide +kernel)
  | brk k => exact absurd (show ("break" : Str) = "final" from h) (by decide +kernel)
  | cnt k => exact absurd (show ("continue" : Str) = "final" from h) (by decide +kernel)
  | iff a b => exact absurd (show ("if" : Str) = "final" from h) (by decide +kernel)
  | whl a => exact absurd (show ("while" : Str) = "final" from h) (by decide +kernel)
  | seq l => exact absurd (show ("seq" : Str) = "final" from h) (by decide +kernel)
  | tr a b => exact absurd (show ("try" : Str) = "final" from h) (by decide +kernel)
theorem lay_len {t : Tab} {lp : Nat → Nat} (W : t.WF lp) {n : Nat} {l : List Nat} (h : FcM.Lay t n l) (hp : ∀ n p, n < t.len → t.pr n = some p → p < n) : n < t.len → l.length ≤ n := by
  induction h with
  | top h => exact fun _ => Nat.zero_le _
  | @blk n p a l h hd hn r ih =>
    intro hn'
    have := hp n p hn' h
    have := ih (W.pu n p hn' h)
    simp
    omega
  | @up n p l h hd r ih =>
    intro hn'
    have := hp n p hn' h
    have := ih (W.pu n p hn' h)
    omega

end Fc

set_option maxRecDepth 100000
set_option maxHeartbeats 4000000
namespace Fc
open PySem PySem.Spec PyProof.Rows L2 FcR
open Evl (Ex)
open FcM (Way Node Tab Pd Rs Wt)
theorem sd_parts {e : PyData} (h : ∃ k l, SD k l e) : PyData.canLay0 e = true ∧ szD e ∧ ∀ x ∈ partsD e, ∃ k l, SD k l x := by
  obtain ⟨k, l, h⟩ := h
  cases h with
  | mk st cl sz l3 ps => exact ⟨cl, sz, fun x hx => ⟨_, _, ps x hx⟩⟩
theorem int_none {n m : Int} (h : n = m) : (!decide (V.int n = V.int m)) = false := by rw [h]; simp
/-! ### all that is known of a code that Code takes -/
structure DC (m : Nat) (d : PyData) (N : Nat) (fin : List Row) (lp : Nat → Nat) : Prop where
  bd : Builds N [⟨d, none, 1, 0, 0⟩] [] fin
  tw : TW fin lp
  fl : fin.length ≤ 400
  hg : FcM.Hg (tabOf fin) m 0
  wg : ∃ w, w ≤ 400 ∧ FcM.Wg (tabOf fin) w 0
theorem dc_of {m w : Nat} {d : PyData} (ok : OkS 0 1 0 w d) (hw : w ≤ 400) (hd : HD m d) : ∃ N fin lp, DC m d N fin lp := by
  obtain ⟨fin, b, l⟩ := builds_of w [⟨d, none, 1, 0, 0⟩] [] (by have := OkL.cons (it := ⟨d, none, 1, 0, 0⟩) ok .nil; simpa using this) (by simp; omega)
  have hne : 0 < fin.length := by
    rw [l]
    cases ok
    simp
    omega
  obtain ⟨ls, bi⟩ := BI.all b (BI.start d)
  have W := tw_of bi hne
  obtain ⟨r, hr⟩ := row_at hne
  have e : r.d = d := Builds.first b hr
  exact ⟨w, fin, _, b, W, by rw [l]; simp; omega, hg_of W hd hr e, w, hw, wg_of W ok hr e⟩
theorem okS_fin {loops deep blocks wa wb : Nat} {a b : PyData} (ha : OkS loops (deep + 1) blocks wa a) (hb : OkS loops (deep + 1) (blocks + 1) wb b) (hd : deep ≤ 100) (hk : blocks ≤ 25) : OkS loops deep blocks (1 + (wa + wb)) (.tuple [.str "final", a, b]) := by
  have z := OkS.mk (loops := loops) (deep := deep) (blocks := blocks) (d := .tuple [.str "final", a, b]) (fun i => if i = 0 then wa else wb) rfl hd hk fun i p hp => by
    have hp : [a, b][i]? = some p := hp
    match i, hp with
    | 0, hp => cases hp; exact ha
    | 1, hp => cases hp; exact hb
  have e : ((List.range (partsD (.tuple [.str "final", a, b])).length).map fun i => if i = 0 then wa else wb).sum = wa + wb := by
    show ((List.range 2).map fun i => if i = 0 then wa else wb).sum = wa + wb
    simp [List.range_succ]
  rw [e] at z
  exact z
theorem okS_try {loops deep blocks wa wb : Nat} {a b : PyData} (ha : OkS loops (deep + 1) blocks wa a) (hb : OkS loops (deep + 1) blocks wb b) (hd : deep ≤ 100) (hk : blocks ≤ 25) : OkS loops deep blocks (1 + (wa + wb)) (.tuple [.str "try", a, b]) := by
  have z := OkS.mk (loops := loops) (deep := deep) (blocks := blocks) (d := .tuple [.str "try", a, b]) (fun i => if i = 0 then wa else wb) rfl hd hk fun i p hp => by
    have hp : [a, b][i]? = some p := hp
    match i, hp with
    | 0, hp => cases hp; exact ha
    | 1, hp => cases hp; exact hb
  have e : ((List.range (partsD (.tuple [.str "try", a, b])).length).map fun i => if i = 0 then wa else wb).sum = wa + wb := by
    show ((List.range 2).map fun i => if i = 0 then wa else wb).sum = wa + wb
    simp [List.range_succ]
  rw [e] at z
  exact z
theorem okS_seq2 {loops deep blocks wa wb : Nat} {a b : PyData} (ha : OkS loops (deep + 1) blocks wa a) (hb : OkS loops (deep + 1) blocks wb b) (hd : deep ≤ 100) (hk : blocks ≤ 25) : OkS loops deep blocks (1 + (wa + wb)) (.tuple [.str "seq", .tuple [a, b]]) := by
  have z := OkS.mk (loops := loops) (deep := deep) (blocks := blocks) (d := .tuple [.str "seq", .tuple [a, b]]) (fun i => if i = 0 then wa else wb) rfl hd hk fun i p hp => by
    have hp : [a, b][i]? = some p := hp
    match i, hp with
    | 0, hp => cases hp; exact ha
    | 1, hp => cases hp; exact hb
  have e : ((List.range (partsD (.tuple [.str "seq", .tuple [a, b]])).length).map fun i => if i = 0 then wa else wb).sum = wa + wb := by
    show ((List.range 2).map fun i => if i = 0 then wa else wb).sum = wa + wb
    simp [List.range_succ]
  rw [e] at z
  exact z
theorem okS_leaf {loops deep blocks : Nat} {d : PyData} (h : isStm d (loops : Int) = true) (e : partsD d = []) (hd : deep ≤ 100) (hk : blocks ≤ 25) : OkS loops deep blocks 1 d := by
  have z := OkS.mk (loops := loops) (deep := deep) (blocks := blocks) (d := d) (fun _ => 0) h hd hk fun i p hp => by rw [e] at hp; simp at hp
  rw [e] at z
  exact z

end Fc

set_option maxRecDepth 100000
set_option maxHeartbeats 4000000
namespace Fc
open PySem PySem.Spec PyProof.Rows L2 FcR
open Evl (Ex)
/-! ### answers that are refused -/
def BadA (K : PySem.W.Frag) (H : Hp) (u : V) : Prop := (∃ n : Int, u = .int n ∧ (decide (0 ≤ n) && decide (n ≤ 1)) = false) ∨
  (∃ t b1 b2, (∀ H', Ex H H' → TyX K H' u t) ∧ PySem.W.kitOne K t (.type "int") = some b1 ∧ PySem.W.kitOne K t (.type "bool") = some b2 ∧ (b1 && !b2) = false)
theorem BadA.ex {K : PySem.W.Frag} {H H' : Hp} {u : V} (b : BadA K H u) (e : Ex H H') : BadA K H' u := by
  rcases b with z | ⟨t, b1, b2, ty, r⟩
  · exact .inl z
  · exact .inr ⟨t, b1, b2, fun H2 e2 => ty H2 (e.trans e2), r⟩
inductive BadAns (K : PySem.W.Frag) (H : Hp) : V → Int → Prop
  | no {v : V} {t : Value} (ty : ∀ H', Ex H H' → TyX K H' v t) (k : PySem.W.kitOne K t (.type "list") = some false) : BadAns K H v (-1)
  | long {a : Addr} {xs : List V} (s : SqL K H a xs) (h : 1000 < xs.length) : BadAns K H (.ref a) (-1)
  | at_ {a : Addr} {xs post : List V} {u : V} {pre : List Bool} (s : SqL K H a xs) (e : xs = pre.map bV ++ u :: post) (h : xs.length ≤ 1000) (b : BadA K H u) : BadAns K H (.ref a) (pre.length : Int)

theorem BadAns.ex {K : PySem.W.Frag} {H H' : Hp} {v : V} {i : Int} (b : BadAns K H v i) (e : Ex H H') : BadAns K H' v i := by
  cases b with
  | no ty k => exact .no (fun H2 e2 => ty H2 (e.trans e2)) k
  | long s h => exact .long (Evl.ex_l e s) h
  | at_ s e1 h b => exact .at_ (Evl.ex_l e s) e1 h (b.ex e)
theorem k_ll {K : PySem.W.Frag} : PySem.W.kitOne K (.type "list") (.type "list") = some true := kit_ty (by decide +kernel)
def sp_check_answersX (K : PySem.W.Frag) : Sp := fun vs H Q E => ∃ (v : V) (i : Int), vs = [v] ∧ BadAns K H v i ∧ RaisesA K "InvalidAnswers" "at" H (.int i) E
def sp_ansX (K : PySem.W.Frag) : Sp := fun vs H Q E => ∃ (c v : V) (i : Int), vs = [c, v] ∧ BadAns K H v i ∧ RaisesA K "InvalidAnswers" "at" H (.int i) E
section
variable {P : Program} {w : World} {h : Heap} {K : PySem.W.Frag} {mg : Str → Option Value} {base : Heap}
theorem ok_check_answersX (T : Tx w h K mg) : Ok P w K mg base 3 ("check_answers", none) ["answers"] (sp_check_answersX K) := by
  obtain ⟨fd, F⟩ := F_check_answers T
  refine ⟨fd, ?_, F.bindsN (fun _ _ _ _ _ _ us hl => match us, hl with | [_], _ => rfl), F.kp⟩
  obtain ⟨fd_is_between, G_is_between, bi_is_between, kp_is_between⟩ := ok_is_between (P := P) (base := base) T
  obtain ⟨fd_InvalidAnswers___init__, G_InvalidAnswers___init__, bi_InvalidAnswers___init__, kp_InvalidAnswers___init__, FD_InvalidAnswers___init__⟩ := okF_InvalidAnswers___init__ (P := P) (base := base) T
  obtain ⟨tm_MOST_ANSWERS, m_MOST_ANSWERS⟩ := i_MOST_ANSWERS T
  refine F.ok sc_check_answers (fun vs H Q E h => ?_) (fun cdv A outer s H vs Q E hr h => ?_)
  · obtain ⟨v, i, rfl, b, ra⟩ := h
    rfl
  · obtain ⟨v, i, rfl, b, ra⟩ := h
    refine ⟨_, (pss_cons (ps_if (PW.pt (pw_or (pt_not (pt_val (pe_callB call_isi rfl (fr_isinstance T) b_isinstance (pa_cons (pv 0) (pa_cons (pe_bltn (v := .ty "list") rfl (fr_list T) b_list rfl) pa_nil))))) (pw_or1 (pt_cmpR op_gt (pe_callB call_len_seq rfl (fr_len T) b_len (pa_cons (pv 0) pa_nil)) (pe_glob (v := .int 1000) rfl m_MOST_ANSWERS ⟨_, rfl⟩) (nomark _))))) (pss_one (ps_raise rfl (takes_of rfl rfl rfl rfl) (FcX.pmk_X (x_InvalidAnswers T) (xi_InvalidAnswers T) G_InvalidAnswers___init__ (hr.mono (by decide)) bi_InvalidAnswers___init__ passF rfl (g_InvalidAnswers T) (pe_un un_neg pe_int)))) pss_nil) (pss_one (ps_for (passes_of rfl) rfl (pi_enum rfl (fr_enumerate T) (pa_cons (pv 0) pa_nil)) (pg_tup rfl (pgs_cons (pg_name (i := 1) sc_check_answers.nd rfl (Or.inl rfl)) (pgs_cons (pg_name (i := 2) sc_check_answers.nd rfl (Or.inl rfl)) pgs_nil))) (pss_one (ps_if (pt_not (pt_val (pe_call G_is_between (hr.mono (by decide)) rfl (g_is_between T) kp_is_between bi_is_between .nil (passes_call (takes_of rfl rfl rfl rfl) (fun _ _ _ _ h => h)) (pa_cons (pv 2) (pa_cons pe_int (pa_cons pe_int pa_nil)))))) (pss_one (ps_raise rfl (takes_of rfl rfl rfl rfl) (FcX.pmk_X (x_InvalidAnswers T) (xi_InvalidAnswers T) G_InvalidAnswers___init__ (hr.mono (by decide)) bi_InvalidAnswers___init__ passF rfl (g_InvalidAnswers T) (pv 1)))) pss_nil))))), ?_⟩
    have fin : ∀ H1, Ex H H1 → ∀ d, H1 d = none → E (.ref (He.ga K "InvalidAnswers")) (some d) (upd H1 d (.xd [("at", .int i)])) := fun H1 e d n => ra _ d (e.trans (exu (Evl.Ex.refl _) n)) (ex_none e n) upd_same
    cases b with
    | no ty k =>
      refine ⟨_, rfl, v, .ty "list", _, _, _, rfl, .ty _, ty _ (Evl.Ex.refl _), k, _, rfl, itT rfl ?_⟩
      refine ⟨_, rfl, _, rfl, fun d n => fin H (Evl.Ex.refl _) d n⟩
    | @long a xs s hl =>
      refine ⟨_, rfl, .ref a, .ty "list", _, _, _, rfl, .ty _, ty_lst s, k_ll, _, rfl, itF rfl ?_⟩
      refine ⟨_, rfl, a, _, rfl, .inl s, _, _, rfl, rfl, _, rfl, itT (decide_eq_true (by omega)) ?_⟩
      refine ⟨_, rfl, _, rfl, fun d n => fin H (Evl.Ex.refl _) d n⟩
    | @at_ a xs post u pre s e hl b =>
      refine ⟨_, rfl, .ref a, .ty "list", _, _, _, rfl, .ty _, ty_lst s, k_ll, _, rfl, itF rfl ?_⟩
      refine ⟨_, rfl, a, _, rfl, .inl s, _, _, rfl, rfl, _, rfl, itF (decide_eq_false (by omega)) ?_⟩
      refine ⟨_, rfl, a, _, rfl, s, ?_⟩
      refine for_it (walk_enum (xs := xs)) (fun j σ' H' => j ≤ pre.length ∧ Ex H H' ∧ ∃ o1 o2, σ' = [some (.ref a), o1, o2]) ?_ ?_ ?_ ?_
      · exact ⟨Nat.zero_le _, Evl.Ex.refl _, _, _, rfl⟩
      · exact fun i σ' H' _ ⟨_, e, _⟩ => Evl.ex_l e s
      · rintro j v σ' H1 H2 hi ⟨hj, e1, o1, o2, rfl⟩ ⟨tp, u1, u2, rfl, n2, rfl, z1, z2⟩
        cases z1
        replace z2 : xs[j]? = some u2 := z2
        have e2 : Ex H (upd H1 tp (.tup [.int (j : Nat), u2])) := e1.trans (exu (Evl.Ex.refl _) n2)
        refine ⟨tp, _, rfl, Evl.st_of upd_same, rfl, _, _, rfl, _, _, rfl, rfl, ?_⟩
        rcases Nat.lt_or_ge j pre.length with hlt | hge
        · obtain ⟨x, rfl⟩ : ∃ x, u2 = bV x := by
            rw [e, List.getElem?_append_left (by rw [List.length_map]; exact hlt)] at z2
            obtain ⟨x, _, e⟩ := List.mem_map.mp (List.mem_of_getElem? z2)
            exact ⟨x, e.symm⟩
          refine ⟨_, rfl, bV x, 0, 1, rfl, .inl ⟨_, rfl, _, rfl, itF (by cases x <;> rfl) ⟨hlt, e2, _, _, rfl⟩⟩⟩
        · obtain rfl : j = pre.length := Nat.le_antisymm hj hge
          obtain rfl : u = u2 := by
            rw [e, List.getElem?_append_right (by rw [List.length_map]; exact Nat.le_refl _), List.length_map, Nat.sub_self] at z2
            exact Option.some.inj z2
          rcases b.ex e2 with ⟨n, rfl, hb⟩ | ⟨t, b1, b2, ty, k1, k2, hb⟩
          · exact ⟨_, rfl, _, 0, 1, rfl, .inl ⟨n, rfl, _, rfl, itT (by rw [hb]; rfl) ⟨_, rfl, _, rfl, fun d n => fin _ e2 d n⟩⟩⟩
          · exact ⟨_, rfl, u, 0, 1, rfl, .inr ⟨t, b1, b2, ty _ (Evl.Ex.refl _), k1, k2, hb, _, rfl, itT rfl ⟨_, rfl, _, rfl, fun d n => fin _ e2 d n⟩⟩⟩
      · rintro σ' H' ⟨hj, _⟩
        refine absurd (show xs.length ≤ pre.length from hj) ?_
        rw [e, List.length_append, List.length_map, List.length_cons]
        omega
theorem ok_runX (T : Tx w h K mg) : Ok P w K mg base 6 ("run", none) ["code", "answers"] (sp_ansX K) := by
  obtain ⟨fd, F⟩ := F_run T
  refine ⟨fd, ?_, F.bindsN (fun _ _ _ _ _ _ us hl => match us, hl with | [_, _], _ => rfl), F.kp⟩
  obtain ⟨fd_check_answers, G_check_answers, bi_check_answers, kp_check_answers⟩ := ok_check_answersX (P := P) (base := base) T
  obtain ⟨fd_Run___init__, G_Run___init__, bi_Run___init__, kp_Run___init__⟩ := ok_Run___init__ (P := P) (base := base) T
  obtain ⟨fd_Walker___init__, G_Walker___init__, bi_Walker___init__, kp_Walker___init__⟩ := ok_Walker___init__ (P := P) (base := base) T
  obtain ⟨fd_Walker_answer, G_Walker_answer, bi_Walker_answer, kp_Walker_answer⟩ := ok_Walker_answer (P := P) (base := base) T
  obtain ⟨fd_Walker_go_on, G_Walker_go_on, bi_Walker_go_on, kp_Walker_go_on⟩ := ok_Walker_go_on (P := P) (base := base) T
  refine F.ok sc_run (fun vs H Q E h => ?_) (fun cdv A outer s H vs Q E hr h => ?_)
  · obtain ⟨c, v, i, rfl, b, ra⟩ := h
    rfl
  · obtain ⟨c, v, i, rfl, b, ra⟩ := h
    refine ⟨_, (pss_cons (ps_expr (pe_call G_check_answers (hr.mono (by decide)) rfl (g_check_answers T) kp_check_answers bi_check_answers .nil (passes_call (takes_of rfl rfl rfl rfl) (fun _ _ _ _ h => h)) (pa_cons (pv 1) pa_nil))) (pss_cons (ps_set (i := 2) sc_run.nd rfl (Or.inl rfl) (pe_make (mk_Walker T) G_Walker___init__ (hr.mono (by decide)) rfl (g_Walker T) bi_Walker___init__ .nil (passes_call (takes_of rfl rfl rfl rfl) (fun _ _ _ _ h => h)) (pa_cons (pv 0) pa_nil))) (pss_cons (ps_par rfl sc_run.nd (i := 3) (j := 4) rfl rfl (by decide) rfl rfl (pa_cons (pe_meth0 (pv 2) (c_Walker T) (me_Walker_go_on T) G_Walker_go_on (hr.mono (by decide)) bi_Walker_go_on .nil (passes_call (takes_of rfl rfl rfl rfl) (fun _ _ _ _ h => h))) (pa_cons pe_int pa_nil)) (by rfl)) (pss_cons (ps_while (passes_of rfl) (PW.pt (pw_and (pt_cmpR op_isN (pe_fld (pv 2) rfl) pe_non (nomark _)) (pw_and1 (pt_cmpR op_lt (pv 4) (pe_callB call_len_seq rfl (fr_len T) b_len (pa_cons (pv 1) pa_nil)) (nomark _))))) (pss_cons (ps_expr (pe_bm PySem.F.plainAttrs_list PySem.F.slot_list_extend PySem.F.type_list_extend mt_extend (pv 3) (pa_cons (pe_meth (pv 2) (c_Walker T) (me_Walker_answer T) G_Walker_answer (hr.mono (by decide)) bi_Walker_answer .nil (passes_call (takes_of rfl rfl rfl rfl) (fun _ _ _ _ h => h)) (pa_cons (pe_ix ix_list (pv 1) (pv 4) (fun _ _ => rfl)) pa_nil)) pa_nil))) (pss_one (ps_set (i := 4) sc_run.nd rfl (Or.inl rfl) (pe_op op_add (pv 4) pe_int))))) (pss_one (ps_ret (pe_make (mk_Run T) G_Run___init__ (hr.mono (by decide)) rfl (g_Run T) bi_Run___init__ .nil (passes_call (takes_of rfl rfl rfl rfl) (fun _ _ _ _ h => h)) (pa_cons (pv 3) (pa_cons (pv 4) (pa_cons (pe_ifExp (pt_cmpR op_isN (pe_fld (pv 2) rfl) pe_non (nomark _)) pe_str (pe_fld (pv 2) rfl)) pa_nil)))))))))), ?_⟩
    exact ⟨_, rfl, v, i, rfl, b, ra⟩
end

end Fc

set_option maxRecDepth 100000
set_option maxHeartbeats 4000000
namespace Fc
open PySem PySem.Spec PyProof.Rows L2 FcR
open Evl (Ex)
open FcM (Way Node Tab Pd)
def sp_Sinit (K : PySem.W.Frag) : Sp := fun vs H Q _ => ∃ (F : Hp) (A : CAd) (rows : List Row) (lp : Nat → Nat) (p dx : Addr) (k e N : Nat) (cf : FcM.Cfg), vs = [.ref p, .ref A.p] ∧ H p = some (.ins (He.ga K "Session") dx []) ∧ CodeH K F F A rows ∧ TW rows lp ∧ Ex F H ∧ F p = none ∧
  FcM.Ent (tabOf rows) k 0 e ∧ FcM.Re (tabOf rows) [] 1000 N ⟨.inl e, [], 0, []⟩ cf ∧ cf.vs.length ≤ 90000 ∧ (∀ w, cf.at_ = .inr w → FcM.WOk 0 w) ∧
  ∀ (F' H' : Hp) (S : SesA) (s : Nat) (ts : List Addr), S.p = p → (∀ b, S.M b → b = p ∨ H b = none) → Gr (fun b => b = p) F H F' H' → Ses K F' H' A rows lp S [] s ts cf → Q .non H'
def sp_sget (K : PySem.W.Frag) (f : FcM.Cfg → List Bool → List V) : Sp := fun vs H Q _ => ∃ (F : Hp) (A : CAd) (rows : List Row) (lp : Nat → Nat) (S : SesA) (bits : List Bool) (s : Nat) (ts : List Addr) (cf : FcM.Cfg), vs = [.ref S.p] ∧ Ses K F H A rows lp S bits s ts cf ∧ ∀ H' a, Ex H H' → H a = none → H' a = some (.lst (f cf bits)) → Q (.ref a) H'
def sp_snow (K : PySem.W.Frag) : Sp := fun vs H Q _ => ∃ (F : Hp) (A : CAd) (rows : List Row) (lp : Nat → Nat) (S : SesA) (bits : List Bool) (s : Nat) (ts : List Addr) (cf : FcM.Cfg), vs = [.ref S.p] ∧ Ses K F H A rows lp S bits s ts cf ∧
  ∀ (H' : Hp) (tp l : Addr) (ts' : List Addr), Ex H H' → H tp = none → H l = none → tp ≠ l → H' tp = some (.tup [momS cf.at_, .ref l]) → H' l = some (.lst (ts'.map V.ref)) → PdAt K F ts' (momP cf.at_ cf.pd) → Q (.ref tp) H'
def sp_sans (K : PySem.W.Frag) : Sp := fun vs H Q _ => ∃ (F : Hp) (A : CAd) (rows : List Row) (lp : Nat → Nat) (S : SesA) (bits : List Bool) (s : Nat) (ts : List Addr) (cf : FcM.Cfg) (x : Bool) (N : Nat) (cf' : FcM.Cfg), vs = [.ref S.p, bV x] ∧ Ses K F H A rows lp S bits s ts cf ∧ (∃ n, cf.at_ = .inl n) ∧ bits.length < 200 ∧
  FcM.Re (tabOf rows) (bits ++ [x]) 1000 N cf cf' ∧ cf'.vs.length ≤ 90000 ∧ (∀ w, cf'.at_ = .inr w → FcM.WOk 0 w) ∧
  ∀ (F' H' : Hp) (s' : Nat) (ts' : List Addr) (v : V), Gr S.M F H F' H' → Ses K F' H' A rows lp S (bits ++ [x]) s' ts' cf' → Q v H'
def sp_sansX (K : PySem.W.Frag) : Sp := fun vs H Q E => ∃ (F : Hp) (A : CAd) (rows : List Row) (lp : Nat → Nat) (S : SesA) (bits : List Bool) (s : Nat) (ts : List Addr) (cf : FcM.Cfg) (v : V), vs = [.ref S.p, v] ∧ Ses K F H A rows lp S bits s ts cf ∧
  ((BadN K H v 2 ∧ RaisesA K "InvalidAnswers" "at" H (.int (-1)) E) ∨ (∃ x w, v = bV x ∧ cf.at_ = .inr w ∧ RaisesA K "NotWaiting" "end" H (.str (endS w)) E) ∨ (∃ x n, v = bV x ∧ cf.at_ = .inl n ∧ 200 ≤ bits.length ∧ RaisesA K "LimitExceeded" "limit" H (.int 200) E))
def sp_undoX (K : PySem.W.Frag) : Sp := fun vs H Q E => ∃ (F : Hp) (A : CAd) (rows : List Row) (lp : Nat → Nat) (S : SesA) (bits : List Bool) (s : Nat) (ts : List Addr) (cf : FcM.Cfg) (v : V), vs = [.ref S.p, v] ∧ Ses K F H A rows lp S bits s ts cf ∧ BadN K H v (bits.length + 1) ∧ RaisesA K "InvalidBound" "bound" H v E
section
variable {P : Program} {w : World} {h : Heap} {K : PySem.W.Frag} {mg : Str → Option Value} {base : Heap}
abbrev N_Session___init__ : List Str := ["self", "code"]
theorem sc_Session___init__ : FnScope N_Session___init__ ["self", "code"] (defScope sd_Session___init__) := ⟨rfl, rfl, rfl, by decide +kernel, rfl, by decide +kernel, by decide +kernel⟩
theorem ok_Session___init__ (T : Tx w h K mg) : Ok P w K mg base 7 ("Session", some "__init__") ["self", "code"] (sp_Sinit K) := by
  obtain ⟨fd, F⟩ := F_Session___init__ T
  refine ⟨fd, ?_, F.bindsN (fun _ _ _ _ _ _ us hl => match us, hl with | [_, _], _ => rfl), F.kp⟩
  obtain ⟨fd_Session_begin, G_Session_begin, bi_Session_begin, kp_Session_begin⟩ := ok_Session_begin (P := P) (base := base) T
  refine F.ok sc_Session___init__ (fun vs H Q E h => ?_) (fun cdv A outer s H vs Q E hr h => ?_)
  · obtain ⟨F, A, rows, lp, p, dx, k, e, N, cf, rfl, hp, C, W, xF, Fp, he, re, hv, hok, Qq⟩ := h
    rfl
  · obtain ⟨F, A, rows, lp, p, dx, k, e, N, cf, rfl, hp, C, W, xF, Fp, he, re, hv, hok, Qq⟩ := h
    refine ⟨_, PSs.nox (pss_cons (ps_fld (pv 0) (pv 1) rfl) (pss_cons (ps_fld (pv 0) (pe_lst pa_nil) rfl) (pss_one (ps_expr (pe_meth0 (pv 0) (c_Session T) (me_Session_begin T) G_Session_begin (hr.mono (by decide)) bi_Session_begin .nil passF))))), ?_⟩
    refine ⟨_, rfl, _, rfl, p, _, dx, _, rfl, hp, c_Session T, na_Session_source T, (by simp), ?_⟩
    rw [fi_Session_0]
    generalize e1 : upd _ p _ = H1
    obtain ⟨s1, o1⟩ := set_of e1
    clear e1
    refine ⟨sz (by simp), ?_⟩
    intro p2 n2
    generalize e2 : upd _ p2 _ = H2
    obtain ⟨x2, s2, o2⟩ := new_of e2 n2
    clear e2
    have p2p : p2 ≠ p := fun z => by rw [z, s1] at n2; cases n2
    refine ⟨_, rfl, p, _, dx, _, rfl, x2 _ _ s1, c_Session T, na_Session_given T, (by simp), ?_⟩
    rw [fi_Session_1]
    generalize e3 : upd _ p _ = H3
    obtain ⟨s3, o3⟩ := set_of e3
    clear e3
    have xF1 : Ex F H1 := set_ex xF Fp o1
    have xF3 : Ex F H3 := set_ex (xF1.trans x2) Fp o3
    have F2 : F p2 = none := ex_none xF1 n2
    have g3 : Gr (fun b => b = p) F H F H3 := ((Gr.set (M := fun b => b = p) xF rfl Fp o1).trans (Gr.new xF1 x2)).trans (Gr.set (xF1.trans x2) rfl Fp o3)
    have us := (re.us (Nat.zero_le _)).2
    refine ⟨_, rfl, p, _, _, rfl, s3, (fs_ses (.inl rfl)).2.2.1, ?_⟩
    refine ⟨F, A, rows, lp, p, dx, p2, _, [], k, e, N, cf, rfl, C, W, xF3, Fp, F2, p2p.symm, s3, .inl rfl, (by rw [o3 p2 p2p]; exact s2), (by simp), he, re, Nat.eq_zero_of_le_zero us, hv, hok, fun F4 H4 S s ts eP eG f1 f2 f3 g4 R4 => ?_⟩
    have nb : ∀ b, H3 b = none → H b = none := fun b hb => by
      cases z : H b with
      | none => rfl
      | some o => rw [g3.kp b o z (fun y => by rw [y, s3] at hb; cases hb)] at hb; cases hb
    refine Qq F4 H4 S s ts eP (fun b hb => ?_) (g3.trans g4) R4
    unfold SesA.M SesA.all at hb
    simp only [List.mem_cons, List.not_mem_nil, or_false] at hb
    rcases hb with rfl | rfl | rfl | rfl | rfl
    · exact .inl eP
    · right
      rw [eG]
      rw [o1 p2 p2p] at n2
      exact n2
    · exact .inr (nb _ f3)
    · exact .inr (nb _ f1)
    · exact .inr (nb _ f2)
abbrev N_Session_answers : List Str := ["self"]
theorem sc_Session_answers : FnScope N_Session_answers ["self"] (defScope sd_Session_answers) := ⟨rfl, rfl, rfl, by decide +kernel, rfl, by decide +kernel, by decide +kernel⟩
theorem ok_Session_answers (T : Tx w h K mg) : Ok P w K mg base 1 ("Session", some "answers") ["self"] (sp_sget K (fun _ bits => bits.map bV)) := by
  obtain ⟨fd, F⟩ := F_Session_answers T
  refine ⟨fd, ?_, F.bindsN (fun _ _ _ _ _ _ us hl => match us, hl with | [_], _ => rfl), F.kp⟩
  refine F.ok sc_Session_answers (fun vs H Q E h => ?_) (fun cdv A outer s H vs Q E hr h => ?_)
  · obtain ⟨F, A, rows, lp, S, bits, s, ts, cf, rfl, R, Qq⟩ := h
    rfl
  · obtain ⟨F, A, rows, lp, S, bits, s, ts, cf, rfl, R, Qq⟩ := h
    refine ⟨_, PSs.nox (pss_one (ps_ret (pe_callTy call_list_of rfl (fr_list T) b_list (pa_cons (pe_fld (pv 0) rfl) pa_nil)))), ?_⟩
    refine ⟨_, rfl, S.p, _, _, _, _, rfl, R.ob, c_Session T, na_Session_given T, fl_Session_given _ _ _ _, S.g, _, rfl, .inl (Evl.sq_of R.gl), ?_⟩
    intro p1 n1
    generalize e1 : upd _ p1 _ = H1
    obtain ⟨x1, s1, o1⟩ := new_of e1 n1
    clear e1
    exact Qq H1 p1 x1 n1 s1
abbrev N_Session_places : List Str := ["self"]
theorem sc_Session_places : FnScope N_Session_places ["self"] (defScope sd_Session_places) := ⟨rfl, rfl, rfl, by decide +kernel, rfl, by decide +kernel, by decide +kernel⟩
theorem ok_Session_places (T : Tx w h K mg) : Ok P w K mg base 1 ("Session", some "places") ["self"] (sp_sget K (fun cf _ => intsV cf.vs)) := by
  obtain ⟨fd, F⟩ := F_Session_places T
  refine ⟨fd, ?_, F.bindsN (fun _ _ _ _ _ _ us hl => match us, hl with | [_], _ => rfl), F.kp⟩
  refine F.ok sc_Session_places (fun vs H Q E h => ?_) (fun cdv A outer s H vs Q E hr h => ?_)
  · obtain ⟨F, A, rows, lp, S, bits, s, ts, cf, rfl, R, Qq⟩ := h
    rfl
  · obtain ⟨F, A, rows, lp, S, bits, s, ts, cf, rfl, R, Qq⟩ := h
    refine ⟨_, PSs.nox (pss_one (ps_ret (pe_callTy call_list_of rfl (fr_list T) b_list (pa_cons (pe_fld (pv 0) rfl) pa_nil)))), ?_⟩
    refine ⟨_, rfl, S.p, _, _, _, _, rfl, R.ob, c_Session T, na_Session_done T, fl_Session_done _ _ _ _, S.d, _, rfl, .inl (Evl.sq_of R.dl), ?_⟩
    intro p1 n1
    generalize e1 : upd _ p1 _ = H1
    obtain ⟨x1, s1, o1⟩ := new_of e1 n1
    clear e1
    exact Qq H1 p1 x1 n1 s1
abbrev N_Session_now : List Str := ["self"]
theorem sc_Session_now : FnScope N_Session_now ["self"] (defScope sd_Session_now) := ⟨rfl, rfl, rfl, by decide +kernel, rfl, by decide +kernel, by decide +kernel⟩
theorem ok_Session_now (T : Tx w h K mg) : Ok P w K mg base 2 ("Session", some "now") ["self"] (sp_snow K) := by
  obtain ⟨fd, F⟩ := F_Session_now T
  refine ⟨fd, ?_, F.bindsN (fun _ _ _ _ _ _ us hl => match us, hl with | [_], _ => rfl), F.kp⟩
  obtain ⟨fd_Walker_moment, G_Walker_moment, bi_Walker_moment, kp_Walker_moment⟩ := ok_Walker_moment (P := P) (base := base) T
  refine F.ok sc_Session_now (fun vs H Q E h => ?_) (fun cdv A outer s H vs Q E hr h => ?_)
  · obtain ⟨F, A, rows, lp, S, bits, s, ts, cf, rfl, R, Qq⟩ := h
    rfl
  · obtain ⟨F, A, rows, lp, S, bits, s, ts, cf, rfl, R, Qq⟩ := h
    refine ⟨_, PSs.nox (pss_one (ps_ret (pe_meth0 (pe_fld (pv 0) rfl) (c_Walker T) (me_Walker_moment T) G_Walker_moment (hr.mono (by decide)) bi_Walker_moment .nil passF))), ?_⟩
    refine ⟨_, rfl, S.p, _, _, _, _, rfl, R.ob, c_Session T, na_Session_walker T, fl_Session_walker _ _ _ _, S.q, _, _, rfl, R.ws.ob, fm_Walker_moment _ _ _ _, ?_⟩
    exact ⟨F, A, S.q, S.qx, S.pp, s, ts, cf.at_, cf.pd, rfl, R.x, R.ws, Qq⟩
abbrev N_Session_answer : List Str := ["self", "value", "found"]
theorem sc_Session_answer : FnScope N_Session_answer ["self", "value"] (defScope sd_Session_answer) := ⟨rfl, rfl, rfl, by decide +kernel, rfl, by decide +kernel, by decide +kernel⟩
theorem ok_Session_answer (T : Tx w h K mg) : Ok P w K mg base 6 ("Session", some "answer") ["self", "value"] (sp_sans K) := by
  obtain ⟨fd, F⟩ := F_Session_answer T
  refine ⟨fd, ?_, F.bindsN (fun _ _ _ _ _ _ us hl => match us, hl with | [_, _], _ => rfl), F.kp⟩
  obtain ⟨fd_is_between, G_is_between, bi_is_between, kp_is_between⟩ := ok_is_between (P := P) (base := base) T
  obtain ⟨fd_Walker_answer, G_Walker_answer, bi_Walker_answer, kp_Walker_answer⟩ := ok_Walker_answer (P := P) (base := base) T
  obtain ⟨tm_MOST_GIVEN, m_MOST_GIVEN⟩ := i_MOST_GIVEN T
  refine F.ok sc_Session_answer (fun vs H Q E h => ?_) (fun cdv A outer s H vs Q E hr h => ?_)
  · obtain ⟨F, A, rows, lp, S, bits, s, ts, cf, x, N, cf', rfl, R, hat, hb, re, hv, hok, Qq⟩ := h
    rfl
  · obtain ⟨F, A, rows, lp, S, bits, s, ts, cf, x, N, cf', rfl, R, hat, hb, re, hv, hok, Qq⟩ := h
    refine ⟨_, PSs.nox (pss_cons (ps_if (pt_not (pt_val (pe_call G_is_between (hr.mono (by decide)) rfl (g_is_between T) kp_is_between bi_is_between .nil passF (pa_cons (pv 1) (pa_cons pe_int (pa_cons pe_int pa_nil)))))) (pss_one ps_never) pss_nil) (pss_cons (ps_if (pt_cmpR op_notN (pe_fld (pe_fld (pv 0) rfl) rfl) pe_non (nomark _)) (pss_one ps_never) pss_nil) (pss_cons (ps_if (pt_cmpR op_ge (pe_callB call_len_seq rfl (fr_len T) b_len (pa_cons (pe_fld (pv 0) rfl) pa_nil)) (pe_glob (v := .int 200) rfl m_MOST_GIVEN ⟨_, rfl⟩) (nomark _)) (pss_one ps_never) pss_nil) (pss_cons (ps_expr (pe_bm PySem.F.plainAttrs_list PySem.F.slot_list_append PySem.F.type_list_append mt_append (pe_fld (pv 0) rfl) (pa_cons (pv 1) pa_nil))) (pss_cons (ps_set (i := 2) sc_Session_answer.nd rfl (Or.inl rfl) (pe_meth (pe_fld (pv 0) rfl) (c_Walker T) (me_Walker_answer T) G_Walker_answer (hr.mono (by decide)) bi_Walker_answer .nil passF (pa_cons (pv 1) pa_nil))) (pss_cons (ps_expr (pe_bm PySem.F.plainAttrs_list PySem.F.slot_list_extend PySem.F.type_list_extend mt_extend (pe_fld (pv 0) rfl) (pa_cons (pv 2) pa_nil))) (pss_one (ps_ret (pv 2))))))))), ?_⟩
    obtain ⟨n, hat⟩ := hat
    obtain ⟨nd1, nd2⟩ := List.nodup_cons.mp R.nd
    obtain ⟨nd3, nd4⟩ := List.nodup_cons.mp nd2
    obtain ⟨nd5, nd6⟩ := List.nodup_cons.mp nd4
    simp only [List.mem_cons, List.not_mem_nil, or_false, not_or] at nd1 nd3 nd5
    have ws0 := R.ws
    have hn : n = s := R.ws.sp n hat
    subst hn
    rw [hat] at ws0
    refine ⟨_, rfl, bV x, 0, 1, rfl, .inl ⟨_, rfl, _, rfl, itF (by cases x <;> rfl) ?_⟩⟩
    refine ⟨_, rfl, S.p, _, _, _, _, rfl, R.ob, c_Session T, na_Session_walker T, fl_Session_walker _ _ _ _, S.q, _, _, _, _, rfl, ws0.ob, c_Walker T, na_Walker_end T, fl_Walker_end _ _ _ _, rfl, _, rfl, itF rfl ?_⟩
    refine ⟨_, rfl, S.p, _, _, _, _, rfl, R.ob, c_Session T, na_Session_given T, fl_Session_given _ _ _ _, S.g, _, rfl, .inl (Evl.sq_of R.gl), _, _, rfl, rfl, _, rfl, itF (by rw [List.length_map]; exact decide_eq_false (by omega)) ?_⟩
    refine ⟨_, rfl, S.p, _, _, _, _, rfl, R.ob, c_Session T, na_Session_given T, fl_Session_given _ _ _ _, Or.inl ⟨rfl, _, Evl.sq_of R.gl⟩, _, rfl, S.g, _, _, rfl, rfl, R.gl, szl (by rw [List.length_map]; omega), ?_⟩
    generalize e1 : upd _ S.g _ = H1
    obtain ⟨s1, o1⟩ := set_of e1
    clear e1
    have eb : bits.map bV ++ [bV x] = (bits ++ [x]).map bV := by rw [List.map_append] <;> rfl
    rw [eb] at s1
    have xF1 : Ex F H1 := set_ex R.x R.fg o1
    have ob1 : H1 S.p = _ := (o1 S.p nd1.1).trans R.ob
    have ws1 : WS K F H1 A S.q S.qx S.pp n ts (.inl n) cf.pd := ⟨by rw [o1 S.q (fun z => nd3.2.1 z.symm)]; exact ws0.ob, ws0.sp, by rw [o1 S.pp (fun z => nd3.2.2 z.symm)]; exact ws0.pl, ws0.pa, ws0.fq, ws0.fp, ws0.ne⟩
    have dl1 : H1 S.d = some (.lst (intsV cf.vs)) := by rw [o1 S.d (fun z => nd3.1 z.symm)]; exact R.dl
    have hu : (bits ++ [x])[cf.us]? = some x := by rw [R.us]; simp
    have ecf : cf = ⟨.inl n, cf.pd, cf.us, cf.vs⟩ := by
      cases cf
      dsimp only at hat
      subst hat
      rfl
    have ha : FcM.asks ((tabOf rows).nd n) = true := by
      have st := R.st
      rw [ecf] at st
      cases st with
      | wait h _ => exact h
    have R1 : Rn K F H1 A rows lp S.q S.qx S.pp (bits ++ [x]) cf' N n ts (.inl n) cf.pd cf.us cf.vs := ⟨R.c, R.w, xF1, fun m z => by cases z; exact R.sl n hat, ws1, by rw [← ecf]; exact re, hv, hok⟩
    refine ⟨_, rfl, S.p, _, _, _, _, rfl, ob1, c_Session T, na_Session_walker T, fl_Session_walker _ _ _ _, S.q, _, _, rfl, ws1.ob, fm_Walker_answer _ _ _ _, _, rfl, ?_⟩
    refine ⟨F, A, rows, lp, S.q, S.qx, S.pp, bits ++ [x], cf', N, n, ts, cf.pd, cf.us, cf.vs, x, rfl, R1, ha, hu, fun F2 H2 s2 ts2 r2 P2 N2 ds p2 g2 R2 hN hA n2 f2 l2 => ?_⟩
    have nM : ∀ {b}, b = S.p ∨ b = S.g ∨ b = S.d → ¬ (b = S.q ∨ b = S.pp) := fun {b} hb z => by
      rcases hb with rfl | rfl | rfl
      · exact z.elim nd1.2.2.1 nd1.2.2.2
      · exact z.elim nd3.2.1 nd3.2.2
      · exact z.elim nd5.1 nd5.2
    have ob2 := g2.kp S.p _ ob1 (nM (.inl rfl))
    have gl2 := g2.kp S.g _ s1 (nM (.inr (.inl rfl)))
    have dl2 := g2.kp S.d _ dl1 (nM (.inr (.inr rfl)))
    have fs2 : F2 S.p = none := g2.nw S.p (by rw [ob1]; exact fun z => nomatch z) R.fs (nM (.inl rfl))
    have fg2 : F2 S.g = none := g2.nw S.g (by rw [s1]; exact fun z => nomatch z) R.fg (nM (.inr (.inl rfl)))
    have fd2 : F2 S.d = none := g2.nw S.d (by rw [dl1]; exact fun z => nomatch z) R.fd (nM (.inr (.inr rfl)))
    have lv2 : (cf.vs ++ ds).length ≤ 90000 := Nat.le_trans R2.re.vs R2.nv
    refine ⟨_, rfl, S.p, _, _, _, _, rfl, ob2, c_Session T, na_Session_done T, fl_Session_done _ _ _ _, Or.inl ⟨rfl, _, Evl.sq_of dl2⟩, _, rfl, S.d, p2, _, _, rfl, rfl, dl2, l2, sz (by unfold intsV; simp at lv2; simp; omega), ?_⟩
    generalize e3 : upd _ S.d _ = H3
    obtain ⟨s3, o3⟩ := set_of e3
    clear e3
    have hcf : cf' = ⟨r2, P2, cf.us + 1, cf.vs ++ ds⟩ := by
      cases r2 with
      | inr w' => exact R2.re.ended
      | inl m => exact R2.re.waits (hA m rfl) (List.getElem?_eq_none (by rw [R.us]; simp))
    have mem : S.M S.p ∧ S.M S.g ∧ S.M S.d ∧ S.M S.q ∧ S.M S.pp := by simp [SesA.M, SesA.all]
    have g3 : Gr S.M F H F2 H3 := ((Gr.set R.x mem.2.1 R.fg o1).trans (g2.mono fun b z => by rcases z with rfl | rfl; exact mem.2.2.2.1; exact mem.2.2.2.2)).trans (Gr.set g2.fh mem.2.2.1 fd2 o3)
    refine ⟨_, rfl, Qq F2 H3 s2 ts2 _ g3 ⟨R2.c, R2.w, g3.fh, by rw [o3 S.p nd1.2.1]; exact ob2, by rw [o3 S.g nd3.1]; exact gl2, ?_, ?_, fs2, fg2, fd2, R.nd, R2.re.stopped, R2.re.last, ?_, ?_, hv, hok⟩⟩
    · rw [s3, hcf]
      unfold intsV
      rw [List.map_append]
    · rw [hcf]
      exact ⟨by rw [o3 S.q (fun z => nd5.1 z.symm)]; exact R2.ws.ob, R2.ws.sp, by rw [o3 S.pp (fun z => nd5.2 z.symm)]; exact R2.ws.pl, R2.ws.pa, R2.ws.fq, R2.ws.fp, R2.ws.ne⟩
    · rw [hcf]
      exact R2.sl
    · rw [hcf]
      show cf.us + 1 = _
      rw [R.us]
      simp
end

end Fc

set_option maxRecDepth 100000
set_option maxHeartbeats 4000000
namespace Fc
open PySem PySem.Spec PyProof.Rows L2 FcR
open Evl (Ex)
open FcM (Way Node Tab Pd)
def sp_undo (K : PySem.W.Frag) : Sp := fun vs H Q _ => ∃ (F : Hp) (A : CAd) (rows : List Row) (lp : Nat → Nat) (S : SesA) (bits : List Bool) (s : Nat) (ts : List Addr) (cf : FcM.Cfg) (c k e N : Nat) (cf' : FcM.Cfg), vs = [.ref S.p, .int (c : Int)] ∧ Ses K F H A rows lp S bits s ts cf ∧ c ≤ bits.length ∧ bits.length ≤ 1000 ∧
  FcM.Ent (tabOf rows) k 0 e ∧ FcM.Re (tabOf rows) (bits.take (bits.length - c)) 1000 N ⟨.inl e, [], 0, []⟩ cf' ∧ cf'.us = bits.length - c ∧ cf'.vs.length ≤ 90000 ∧ (∀ w, cf'.at_ = .inr w → FcM.WOk 0 w) ∧
  ∀ (F' H' : Hp) (S' : SesA) (s' : Nat) (ts' : List Addr), S'.p = S.p → (∀ b, S'.M b → b = S.p ∨ H b = none) → Gr (fun b => b = S.p) F H F' H' → Ses K F' H' A rows lp S' (bits.take (bits.length - c)) s' ts' cf' → Q .non H'
section
variable {P : Program} {w : World} {h : Heap} {K : PySem.W.Frag} {mg : Str → Option Value} {base : Heap}
theorem ok_Session_answerX (T : Tx w h K mg) : Ok P w K mg base 6 ("Session", some "answer") ["self", "value"] (sp_sansX K) := by
  obtain ⟨fd, F⟩ := F_Session_answer T
  refine ⟨fd, ?_, F.bindsN (fun _ _ _ _ _ _ us hl => match us, hl with | [_, _], _ => rfl), F.kp⟩
  obtain ⟨fd_is_between, G_is_between, bi_is_between, kp_is_between⟩ := ok_is_between (P := P) (base := base) T
  obtain ⟨fd_InvalidAnswers___init__, G_InvalidAnswers___init__, bi_InvalidAnswers___init__, kp_InvalidAnswers___init__, FD_InvalidAnswers___init__⟩ := okF_InvalidAnswers___init__ (P := P) (base := base) T
  obtain ⟨fd_LimitExceeded___init__, G_LimitExceeded___init__, bi_LimitExceeded___init__, kp_LimitExceeded___init__, FD_LimitExceeded___init__⟩ := okF_LimitExceeded___init__ (P := P) (base := base) T
  obtain ⟨fd_NotWaiting___init__, G_NotWaiting___init__, bi_NotWaiting___init__, kp_NotWaiting___init__, FD_NotWaiting___init__⟩ := okF_NotWaiting___init__ (P := P) (base := base) T
  obtain ⟨fd_Walker_answer, G_Walker_answer, bi_Walker_answer, kp_Walker_answer⟩ := ok_Walker_answer (P := P) (base := base) T
  obtain ⟨tm_MOST_GIVEN, m_MOST_GIVEN⟩ := i_MOST_GIVEN T
  refine F.ok sc_Session_answer (fun vs H Q E h => ?_) (fun cdv A outer s H vs Q E hr h => ?_)
  · obtain ⟨F, A, rows, lp, S, bits, s, ts, cf, v, rfl, R, alt⟩ := h
    rfl
  · obtain ⟨F, A, rows, lp, S, bits, s, ts, cf, v, rfl, R, alt⟩ := h
    refine ⟨_, (pss_cons (ps_if (pt_not (pt_val (pe_call G_is_between (hr.mono (by decide)) rfl (g_is_between T) kp_is_between bi_is_between .nil (passes_call (takes_of rfl rfl rfl rfl) (fun _ _ _ _ h => h)) (pa_cons (pv 1) (pa_cons pe_int (pa_cons pe_int pa_nil)))))) (pss_one (ps_raise rfl (takes_of rfl rfl rfl rfl) (FcX.pmk_X (x_InvalidAnswers T) (xi_InvalidAnswers T) G_InvalidAnswers___init__ (hr.mono (by decide)) bi_InvalidAnswers___init__ passF rfl (g_InvalidAnswers T) (pe_un un_neg pe_int)))) pss_nil) (pss_cons (ps_if (pt_cmpR op_notN (pe_fld (pe_fld (pv 0) rfl) rfl) pe_non (nomark _)) (pss_one (ps_raise rfl (takes_of rfl rfl rfl rfl) (FcX.pmk_X (x_NotWaiting T) (xi_NotWaiting T) G_NotWaiting___init__ (hr.mono (by decide)) bi_NotWaiting___init__ passF rfl (g_NotWaiting T) (pe_fld (pe_fld (pv 0) rfl) rfl)))) pss_nil) (pss_cons (ps_if (pt_cmpR op_ge (pe_callB call_len_seq rfl (fr_len T) b_len (pa_cons (pe_fld (pv 0) rfl) pa_nil)) (pe_glob (v := .int 200) rfl m_MOST_GIVEN ⟨_, rfl⟩) (nomark _)) (pss_one (ps_raise rfl (takes_of rfl rfl rfl rfl) (FcX.pmk_X (x_LimitExceeded T) (xi_LimitExceeded T) G_LimitExceeded___init__ (hr.mono (by decide)) bi_LimitExceeded___init__ passF rfl (g_LimitExceeded T) (pe_glob (v := .int 200) rfl m_MOST_GIVEN ⟨_, rfl⟩)))) pss_nil) (pss_cons (ps_expr (pe_bm PySem.F.plainAttrs_list PySem.F.slot_list_append PySem.F.type_list_append mt_append (pe_fld (pv 0) rfl) (pa_cons (pv 1) pa_nil))) (pss_cons (ps_set (i := 2) sc_Session_answer.nd rfl (Or.inl rfl) (pe_meth (pe_fld (pv 0) rfl) (c_Walker T) (me_Walker_answer T) G_Walker_answer (hr.mono (by decide)) bi_Walker_answer .nil (passes_call (takes_of rfl rfl rfl rfl) (fun _ _ _ _ h => h)) (pa_cons (pv 1) pa_nil))) (pss_cons (ps_expr (pe_bm PySem.F.plainAttrs_list PySem.F.slot_list_extend PySem.F.type_list_extend mt_extend (pe_fld (pv 0) rfl) (pa_cons (pv 2) pa_nil))) (pss_one (ps_ret (pv 2))))))))), ?_⟩
    have fin : ∀ {C f : Str} {y : V}, RaisesA K C f H y E → ∀ d, H d = none → E (.ref (He.ga K C)) (some d) (upd H d (.xd [(f, y)])) := fun ra d n => ra _ d (exu (Evl.Ex.refl _) n) n upd_same
    rcases alt with ⟨bd, ra⟩ | ⟨x, w', rfl, hat, ra⟩ | ⟨x, n, rfl, hat, hl, ra⟩
    · rcases bd with ⟨i, rfl, hb⟩ | ⟨t, b1, b2, ty, k1, k2, hb⟩
      · exact ⟨_, rfl, _, 0, 1, rfl, .inl ⟨i, rfl, _, rfl, itT (by have hb : (decide (0 ≤ i) && decide (i ≤ 1)) = false := hb; rw [hb]; rfl) ⟨_, rfl, _, rfl, fun d n => fin ra d n⟩⟩⟩
      · exact ⟨_, rfl, v, 0, 1, rfl, .inr ⟨t, b1, b2, ty _ (Evl.Ex.refl _), k1, k2, hb, _, rfl, itT rfl ⟨_, rfl, _, rfl, fun d n => fin ra d n⟩⟩⟩
    · have ws0 := R.ws
      rw [hat] at ws0
      refine ⟨_, rfl, bV x, 0, 1, rfl, .inl ⟨_, rfl, _, rfl, itF (by cases x <;> rfl) ?_⟩⟩
      refine ⟨_, rfl, S.p, _, _, _, _, rfl, R.ob, c_Session T, na_Session_walker T, fl_Session_walker _ _ _ _, S.q, _, _, _, _, rfl, ws0.ob, c_Walker T, na_Walker_end T, fl_Walker_end _ _ _ _, rfl, _, rfl, itT rfl ?_⟩
      refine ⟨_, rfl, S.p, _, _, _, _, rfl, R.ob, c_Session T, na_Session_walker T, fl_Session_walker _ _ _ _, S.q, _, _, _, _, rfl, ws0.ob, c_Walker T, na_Walker_end T, fl_Walker_end _ _ _ _, _, rfl, fun d n => fin ra d n⟩
    · have ws0 := R.ws
      rw [hat] at ws0
      refine ⟨_, rfl, bV x, 0, 1, rfl, .inl ⟨_, rfl, _, rfl, itF (by cases x <;> rfl) ?_⟩⟩
      refine ⟨_, rfl, S.p, _, _, _, _, rfl, R.ob, c_Session T, na_Session_walker T, fl_Session_walker _ _ _ _, S.q, _, _, _, _, rfl, ws0.ob, c_Walker T, na_Walker_end T, fl_Walker_end _ _ _ _, rfl, _, rfl, itF rfl ?_⟩
      refine ⟨_, rfl, S.p, _, _, _, _, rfl, R.ob, c_Session T, na_Session_given T, fl_Session_given _ _ _ _, S.g, _, rfl, .inl (Evl.sq_of R.gl), _, _, rfl, rfl, _, rfl, itT (by rw [List.length_map]; exact decide_eq_true (by omega)) ?_⟩
      exact ⟨_, rfl, fun d n => fin ra d n⟩
abbrev N_Session_undo : List Str := ["self", "count"]
theorem sc_Session_undo : FnScope N_Session_undo ["self", "count"] (defScope sd_Session_undo) := ⟨rfl, rfl, rfl, by decide +kernel, rfl, by decide +kernel, by decide +kernel⟩
theorem ok_Session_undo (T : Tx w h K mg) : Ok P w K mg base 7 ("Session", some "undo") ["self", "count"] (sp_undo K) := by
  obtain ⟨fd, F⟩ := F_Session_undo T
  refine ⟨fd, ?_, F.bindsN (fun _ _ _ _ _ _ us hl => match us, hl with | [_, _], _ => rfl), F.kp⟩
  obtain ⟨fd_is_between, G_is_between, bi_is_between, kp_is_between⟩ := ok_is_between (P := P) (base := base) T
  obtain ⟨fd_Session_begin, G_Session_begin, bi_Session_begin, kp_Session_begin⟩ := ok_Session_begin (P := P) (base := base) T
  refine F.ok sc_Session_undo (fun vs H Q E h => ?_) (fun cdv A outer s H vs Q E hr h => ?_)
  · obtain ⟨F, A, rows, lp, S, bits, s, ts, cf, c, k, e, N, cf', rfl, R, hc, hb, he, re, hus, hv, hok, Qq⟩ := h
    rfl
  · obtain ⟨F, A, rows, lp, S, bits, s, ts, cf, c, k, e, N, cf', rfl, R, hc, hb, he, re, hus, hv, hok, Qq⟩ := h
    refine ⟨_, PSs.nox (pss_cons (ps_if (pt_not (pt_val (pe_call G_is_between (hr.mono (by decide)) rfl (g_is_between T) kp_is_between bi_is_between .nil passF (pa_cons (pv 1) (pa_cons pe_int (pa_cons (pe_callB call_len_seq rfl (fr_len T) b_len (pa_cons (pe_fld (pv 0) rfl) pa_nil)) pa_nil)))))) (pss_one ps_never) pss_nil) (pss_cons (ps_fld (pv 0) (pe_slice sl_list (pe_fld (pv 0) rfl) po_none (po_some (pe_op op_sub (pe_callB call_len_seq rfl (fr_len T) b_len (pa_cons (pe_fld (pv 0) rfl) pa_nil)) (pv 1)))) rfl) (pss_one (ps_expr (pe_meth0 (pv 0) (c_Session T) (me_Session_begin T) G_Session_begin (hr.mono (by decide)) bi_Session_begin .nil passF))))), ?_⟩
    refine ⟨_, rfl, _, rfl, S.p, _, _, _, _, rfl, R.ob, c_Session T, na_Session_given T, fl_Session_given _ _ _ _, S.g, _, rfl, .inl (Evl.sq_of R.gl), ?_⟩
    refine ⟨_, _, _, rfl, .inl ⟨_, rfl, _, rfl, itF (by rw [List.length_map, decide_eq_true (by omega), decide_eq_true (by omega)] <;> rfl) ?_⟩⟩
    refine ⟨_, rfl, S.p, _, _, _, _, rfl, R.ob, c_Session T, na_Session_given T, fl_Session_given _ _ _ _, _, rfl, S.p, _, _, _, _, rfl, R.ob, c_Session T, na_Session_given T, fl_Session_given _ _ _ _, S.g, _, rfl, .inl (Evl.sq_of R.gl), ?_⟩
    refine ⟨_, rfl, _, _, rfl, rfl, _, rfl, S.g, _, rfl, Evl.sq_of R.gl, ?_⟩
    intro p1 n1
    generalize e1 : upd _ p1 _ = H1
    obtain ⟨x1, s1, o1⟩ := new_of e1 n1
    clear e1
    have e1 : ((bits.map bV).length : Int) - (c : Int) = ((bits.length - c : Nat) : Int) := by rw [List.length_map]; omega
    rw [e1, cut_to, ← List.map_take] at s1
    have pn : S.p ≠ p1 := fun z => by rw [← z, R.ob] at n1; cases n1
    refine ⟨_, rfl, S.p, _, S.dx, _, rfl, x1 _ _ R.ob, c_Session T, na_Session_given T, (by simp [fl_Session]), ?_⟩
    rw [fp_Session_given]
    generalize e2 : upd _ S.p _ = H2
    obtain ⟨s2, o2⟩ := set_of e2
    clear e2
    have xF2 : Ex F H2 := set_ex (R.x.trans x1) R.fs o2
    have g2 : Gr (fun b => b = S.p) F H F H2 := (Gr.new R.x x1).trans (Gr.set (R.x.trans x1) rfl R.fs o2)
    refine ⟨_, rfl, S.p, _, _, rfl, s2, (fs_ses (.inr ⟨_, _, rfl⟩)).2.2.1, ?_⟩
    refine ⟨F, A, rows, lp, S.p, S.dx, p1, _, _, k, e, N, cf', rfl, R.c, R.w, xF2, R.fs, ex_none R.x n1, pn, s2, .inr ⟨_, _, rfl⟩, (by rw [o2 p1 pn.symm]; exact s1), (by rw [List.length_take]; omega), he, re, (by rw [hus, List.length_take]; omega), hv, hok, fun F4 H4 S' s' ts' eP eG f1 f2 f3 g4 R4 => ?_⟩
    have nb : ∀ b, H2 b = none → H b = none := fun b hb => by
      cases z : H b with
      | none => rfl
      | some o => rw [g2.kp b o z (fun y => by rw [y, s2] at hb; cases hb)] at hb; cases hb
    refine Qq F4 H4 S' s' ts' eP (fun b hb => ?_) (g2.trans g4) R4
    unfold SesA.M SesA.all at hb
    simp only [List.mem_cons, List.not_mem_nil, or_false] at hb
    rcases hb with rfl | rfl | rfl | rfl | rfl
    · exact .inl eP
    · right
      rw [eG]
      exact n1
    · exact .inr (nb _ f3)
    · exact .inr (nb _ f1)
    · exact .inr (nb _ f2)
theorem ok_Session_undoX (T : Tx w h K mg) : Ok P w K mg base 7 ("Session", some "undo") ["self", "count"] (sp_undoX K) := by
  obtain ⟨fd, F⟩ := F_Session_undo T
  refine ⟨fd, ?_, F.bindsN (fun _ _ _ _ _ _ us hl => match us, hl with | [_, _], _ => rfl), F.kp⟩
  obtain ⟨fd_is_between, G_is_between, bi_is_between, kp_is_between⟩ := ok_is_between (P := P) (base := base) T
  obtain ⟨fd_InvalidBound___init__, G_InvalidBound___init__, bi_InvalidBound___init__, kp_InvalidBound___init__, FD_InvalidBound___init__⟩ := okF_InvalidBound___init__ (P := P) (base := base) T
  obtain ⟨fd_Session_begin, G_Session_begin, bi_Session_begin, kp_Session_begin⟩ := ok_Session_begin (P := P) (base := base) T
  refine F.ok sc_Session_undo (fun vs H Q E h => ?_) (fun cdv A outer s H vs Q E hr h => ?_)
  · obtain ⟨F, A, rows, lp, S, bits, s, ts, cf, v, rfl, R, bd, ra⟩ := h
    rfl
  · obtain ⟨F, A, rows, lp, S, bits, s, ts, cf, v, rfl, R, bd, ra⟩ := h
    refine ⟨_, (pss_cons (ps_if (pt_not (pt_val (pe_call G_is_between (hr.mono (by decide)) rfl (g_is_between T) kp_is_between bi_is_between .nil (passes_call (takes_of rfl rfl rfl rfl) (fun _ _ _ _ h => h)) (pa_cons (pv 1) (pa_cons pe_int (pa_cons (pe_callB call_len_seq rfl (fr_len T) b_len (pa_cons (pe_fld (pv 0) rfl) pa_nil)) pa_nil)))))) (pss_one (ps_raise rfl (takes_of rfl rfl rfl rfl) (FcX.pmk_X (x_InvalidBound T) (xi_InvalidBound T) G_InvalidBound___init__ (hr.mono (by decide)) bi_InvalidBound___init__ passF rfl (g_InvalidBound T) (pv 1)))) pss_nil) (pss_cons (ps_fld (pv 0) (pe_slice sl_list (pe_fld (pv 0) rfl) po_none (po_some (pe_op op_sub (pe_callB call_len_seq rfl (fr_len T) b_len (pa_cons (pe_fld (pv 0) rfl) pa_nil)) (pv 1)))) rfl) (pss_one (ps_expr (pe_meth0 (pv 0) (c_Session T) (me_Session_begin T) G_Session_begin (hr.mono (by decide)) bi_Session_begin .nil (passes_call (takes_of rfl rfl rfl rfl) (fun _ _ _ _ h => h))))))), ?_⟩
    have fin : ∀ d, H d = none → E (.ref (He.ga K "InvalidBound")) (some d) (upd H d (.xd [("bound", v)])) := fun d n => ra _ d (exu (Evl.Ex.refl _) n) n upd_same
    refine ⟨_, rfl, _, rfl, S.p, _, _, _, _, rfl, R.ob, c_Session T, na_Session_given T, fl_Session_given _ _ _ _, S.g, _, rfl, .inl (Evl.sq_of R.gl), ?_⟩
    rw [List.length_map]
    rcases bd with ⟨i, rfl, hb⟩ | ⟨t, b1, b2, ty, k1, k2, hb⟩
    · have e : (((bits.length + 1 : Nat) : Int) - 1) = (bits.length : Int) := by omega
      rw [e] at hb
      exact ⟨_, _, _, rfl, .inl ⟨i, rfl, _, rfl, itT (by rw [hb]; rfl) ⟨_, rfl, _, rfl, fun d n => fin d n⟩⟩⟩
    · exact ⟨v, _, _, rfl, .inr ⟨t, b1, b2, ty _ (Evl.Ex.refl _), k1, k2, hb, _, rfl, itT rfl ⟨_, rfl, _, rfl, fun d n => fin d n⟩⟩⟩
end

end Fc

set_option maxRecDepth 100000
set_option maxHeartbeats 4000000
namespace Fc
open PySem PySem.Spec PyProof.Rows L2 FcR
open Evl (Ex)
/-! ### what _law_refused tells of a lambda (k01, k02) -/
theorem DpE_ex {K : PySem.W.Frag} {H H' : Hp} {v : V} {d : PyData} (e : Ex H H') (h : FcL.DpE K H v d) : FcL.DpE K H' v d := by
  cases h with
  | dp h c => exact .dp (dp_ex e h) c
  | dict h => exact .dict (e _ _ h)
/-- a value that repr can tell -/
def Shown (K : PySem.W.Frag) (H : Hp) (v : V) (d : PyData) : Prop := FcL.DpE K H v d ∧ d.showable = true ∧ d.depth ≤ 64 ∧ d.shown.length ≤ sizeLine
theorem Shown.ex {K : PySem.W.Frag} {H H' : Hp} {v : V} {d : PyData} (e : Ex H H') (h : Shown K H v d) : Shown K H' v d := ⟨DpE_ex e h.1, h.2⟩
theorem shI {K : PySem.W.Frag} {H : Hp} {i : Int} (h : i.natAbs < 10 ^ 12) : Shown K H (.int i) (.int i) := by
  refine ⟨.dp (.int i) rfl, ?_, by simp [PyData.depth], sz (Nat.le_trans (PyData.shown_int_le h) (by decide))⟩
  simp only [PyData.showable, decide_eq_true_eq]
  exact log2_small (Nat.lt_of_lt_of_le h (by decide +kernel))
def sp_refused (P : Program) (w : World) (K : PySem.W.Frag) (mg : Str → Option Value) (base : Heap) : Sp := fun vs H Q _ => ∃ (f : Addr) (v : V) (F : FcL.LF) (ds : List V) (fr : List Str) (sp : FcL.LSp) (ws : List (Option V)) (d : PyData), vs = [.ref f, v] ∧ FcL.LOk P w K mg base 7 F ds fr sp ∧ FcL.LamAt H f F ds ∧ FcL.CellsB base F.cl fr ws ∧ Shown K H v d ∧
  (∀ (Q' : VK) (E' : XK), RaisesA K "InvalidNumber" "number" H v E' → sp ws H Q' E') ∧ ∀ H', Ex H H' → Q (.bl true) H'
section
variable {P : Program} {w : World} {h : Heap} {K : PySem.W.Frag} {mg : Str → Option Value} {base : Heap}
end

end Fc

set_option maxRecDepth 100000
set_option maxHeartbeats 4000000
namespace Fc
open PySem PySem.Spec PyProof.Rows L2 FcR
open Evl (Ex)
/-! ### tables -/
/-- the tables of the defs that make lambdas -/
def TM (K : PySem.W.Frag) : Addr → Prop := fun b => ∃ p ∈ FcL.tabT K tfL, p.1 = b
theorem gr_T {K : PySem.W.Frag} {F H H1 : Hp} (x : Ex F H) (ft : ∀ b, TM K b → F b = none) (e : FcL.ExtT (FcL.tabT K tfL) H H1) : Gr (TM K) F H F H1 :=
  ⟨Evl.Ex.refl _, fun b o h => e b o (x b o h) fun p hp z => (by rw [ft b ⟨p, hp, z⟩] at h; cases h), fun _ _ h _ => h, fun b o h hn => e b o h fun p hp z => hn ⟨p, hp, z⟩⟩
abbrev Tb (K : PySem.W.Frag) (H : Hp) : Prop := LamX.Tabs (FcL.tabT K tfL) H
theorem noT {K : PySem.W.Frag} {H : Hp} {b : Addr} (tb : Tb K H) (h : TM K b) : ∃ ps, H b = some (.tbl ps) := by
  obtain ⟨p, hp, z⟩ := h
  obtain ⟨ps, h1, _⟩ := tb p hp
  exact ⟨ps, by rw [← z]; exact h1⟩
theorem tb_kp {K : PySem.W.Frag} {H H' : Hp} {p : Addr} (tb : Tb K H) (sr : Src H p) (kp : ∀ b o, H b = some o → b ≠ p → H' b = some o) : Tb K H' := fun q hq => by
  obtain ⟨x, y, z, hp⟩ := sr
  obtain ⟨ps, h1, h2, h3⟩ := tb q hq
  refine ⟨ps, kp _ _ h1 (fun e => by rw [e, hp] at h1; cases h1), h2, fun pos cv hc => ?_⟩
  obtain ⟨c, e1, e2⟩ := h3 pos cv hc
  exact ⟨c, e1, kp _ _ e2 (fun e => by rw [e, hp] at e2; unfold LamX.CodeO at e2; cases e2)⟩

end Fc

set_option maxRecDepth 100000
set_option maxHeartbeats 4000000
namespace Fc
open PySem PySem.Spec PyProof.Rows L2 FcR
open Evl (Ex)
open FcM (Way Node Tab Pd)
/-! ### _law_said of k76 -/
def saidT : List (Str × Str × Str) := [("InvalidAnswers", "at", "answers"), ("NotWaiting", "end", "end"), ("LimitExceeded", "limit", "limit")]
def sp_said76 (P : Program) (w : World) (K : PySem.W.Frag) (mg : Str → Option Value) (base : Heap) : Sp := fun vs H Q _ => ∃ (f : Addr) (F : FcL.LF) (ds : List V) (fr : List Str) (sp : FcL.LSp) (ws : List (Option V)), vs = [.ref f] ∧ FcL.LOk P w K mg base 8 F ds fr sp ∧ FcL.LamAt H f F ds ∧ FcL.CellsB base F.cl fr ws ∧
  ((∃ C fd k y, (C, fd, k) ∈ saidT ∧ (∀ (Q' : VK) (E' : XK), RaisesA K C fd H y E' → sp ws H Q' E') ∧ ∀ H' t, Ex H H' → H t = none → H' t = some (.tup [.str k, y]) → Q (.ref t) H') ∨
   (∃ y d, Shown K H y d ∧ (∀ (Q' : VK) (E' : XK), RaisesA K "InvalidBound" "bound" H y E' → sp ws H Q' E') ∧ ∀ H' t, Ex H H' → H t = none → H' t = some (.tup [.str "bound", .str d.shown]) → Q (.ref t) H') ∨
   (∃ G : Hp → Prop, (∀ (Q' : VK) (E' : XK), (∀ v H', G H' → Q' v H') → sp ws H Q' E') ∧ ∀ H', G H' → Q .non H'))
section
variable {P : Program} {w : World} {h : Heap} {K : PySem.W.Frag} {mg : Str → Option Value} {base : Heap}
abbrev N_law_said : List Str := ["_law_call", "_law_found", "e"]
theorem sc_law_said : FnScope N_law_said ["_law_call"] (defScope sd_law_said) := ⟨rfl, rfl, rfl, by decide +kernel, rfl, by decide +kernel, by decide +kernel⟩
theorem ok_law_said (T : Tx w h K mg) : ∃ fd, (∀ base, FcL.FnG P w K mg base 10 (He.fAd K ("_law_said", none)) fd ["_law_call"] (sp_said76 P w K mg base)) ∧ Binds K fd ["_law_call"] [] ∧ PySem.W.keepIn K (.ref (He.fAd K ("_law_said", none))) = true := by
  obtain ⟨fd, F⟩ := F_law_said T
  refine ⟨fd, fun base => ?_, F.bindsN (fun _ _ _ _ _ _ us hl => match us, hl with | [_], _ => rfl), F.kp⟩
  refine FcL.okG (at_ := ("_law_said", none)) F sc_law_said (fun vs H Q E h => ?_) (fun cdv A outer s H vs Q E hgd hcd hr h => ?_)
  · obtain ⟨f, F, ds, fr, sp, ws, rfl, lo, la, ce, alt⟩ := h
    rfl
  · have hun : (A.deeper (envOfC "_law_said" (defScope sd_law_said) s.heap.objs.size (He.fAd K ("_law_said", none)) cdv)).units + 100 < cLine := by have := hr.un; omega
    obtain ⟨f, F, ds, fr, sp, ws, rfl, lo, la, ce, alt⟩ := h
    refine ⟨_, PSs.nox (pss_cons (ps_set (i := 1) sc_law_said.nd rfl (Or.inl rfl) pe_non) (pss_cons (FcX.ps_try_mix rfl rfl sc_law_said.nd takes_none5 (fun W pn xe tk pw => (pss_one (ps_expr (show PE _ _ (FcL.tCallLam base 0 (fun F ds fr sp => FcL.LOk P w K mg base 8 F ds fr sp) W) from FcL.pe_callLam (i := 0) (k := 8) (S := fun F ds fr sp => FcL.LOk P w K mg base 8 F ds fr sp) (fun _ _ _ _ h => h) (hr.mono (by decide)) rfl (by first | exact Or.inl rfl | exact Or.inr (Or.inl rfl) | exact Or.inr (Or.inr rfl)) tk)))) (.as (i := 2) rfl rfl ⟨rfl, by decide, .inl (g_InvalidAnswers T)⟩ (fun a oe cls d pn hz hf => (pss_one (ps_set (i := 1) sc_law_said.nd rfl (Or.inl rfl) (pe_tup (pa_cons pe_str (pa_cons (pe_xf (FcX.XC.xf (x_InvalidAnswers T)) (xi_InvalidAnswers T).no hz hf (pv 2)) pa_nil)))))) (.as (i := 2) rfl rfl ⟨rfl, by decide, .inl (g_NotWaiting T)⟩ (fun a oe cls d pn hz hf => (pss_one (ps_set (i := 1) sc_law_said.nd rfl (Or.inl rfl) (pe_tup (pa_cons pe_str (pa_cons (pe_xf (FcX.XC.xf (x_NotWaiting T)) (xi_NotWaiting T).no hz hf (pv 2)) pa_nil)))))) (.as (i := 2) rfl rfl ⟨rfl, by decide, .inl (g_InvalidBound T)⟩ (fun a oe cls d pn hz hf => (pss_one (ps_set (i := 1) sc_law_said.nd rfl (Or.inl rfl) (pe_tup (pa_cons pe_str (pa_cons (pe_callB (show CallR _ _ (FcL.rRepr K) from FcL.call_repr (show _ = some [] from hgd) hun) rfl (fr_repr T) b_repr (pa_cons (pe_xf (FcX.XC.xf (x_InvalidBound T)) (xi_InvalidBound T).no hz hf (pv 2)) pa_nil)) pa_nil)))))) (.as (i := 2) rfl rfl ⟨rfl, by decide, .inl (g_LimitExceeded T)⟩ (fun a oe cls d pn hz hf => (pss_one (ps_set (i := 1) sc_law_said.nd rfl (Or.inl rfl) (pe_tup (pa_cons pe_str (pa_cons (pe_xf (FcX.XC.xf (x_LimitExceeded T)) (xi_LimitExceeded T).no hz hf (pv 2)) pa_nil)))))) (.cons ⟨rfl, by decide, .inl (g_CopyError T)⟩ (fun a oe cls d pn hz hf => (pss_one (ps_set (i := 1) sc_law_said.nd rfl (Or.inl rfl) (pe_tup (pa_cons pe_str (pa_cons pe_non pa_nil)))))) .nil)))))) (pss_one (ps_ret (pv 1))))), ?_⟩
    rcases alt with ⟨C, fd', k, y, hm, hq, Qq⟩ | ⟨y, d, sh, hq, Qq⟩ | ⟨G, hq, Qq⟩
    · unfold saidT at hm
      simp only [List.mem_cons, List.not_mem_nil, or_false, Prod.mk.injEq] at hm
      rcases hm with ⟨rfl, rfl, rfl⟩ | ⟨rfl, rfl, rfl⟩ | ⟨rfl, rfl, rfl⟩
      · refine ⟨f, F, ds, fr, sp, ws, rfl, lo, la, ce, hq _ _ fun H1 x e1 n1 h1 => ?_⟩
        refine ⟨true, FcX.xh_own (xh T) (c := "InvalidAnswers") (d := "InvalidAnswers") (by decide) (by decide), fun _ a na => ?_, fun z => by cases z⟩
        refine ⟨_, rfl, rfl, rfl, x, _, _, rfl, h1, rfl, sz (by simp), ?_⟩
        intro p2 n2
        generalize e2 : upd _ p2 _ = H2
        obtain ⟨x2, s2, o2⟩ := new_of e2 n2
        clear e2
        exact ⟨_, rfl, Qq H2 p2 (e1.trans x2) (ex_none e1 n2) s2⟩
      · refine ⟨f, F, ds, fr, sp, ws, rfl, lo, la, ce, hq _ _ fun H1 x e1 n1 h1 => ?_⟩
        refine ⟨false, FcX.xh_own (xh T) (c := "NotWaiting") (d := "InvalidAnswers") (by decide) (by decide), (fun z => by cases z), fun _ => ?_⟩
        refine ⟨true, FcX.xh_own (xh T) (c := "NotWaiting") (d := "NotWaiting") (by decide) (by decide), fun _ a na => ?_, fun z => by cases z⟩
        refine ⟨_, rfl, rfl, rfl, x, _, _, rfl, h1, rfl, sz (by simp), ?_⟩
        intro p2 n2
        generalize e2 : upd _ p2 _ = H2
        obtain ⟨x2, s2, o2⟩ := new_of e2 n2
        clear e2
        exact ⟨_, rfl, Qq H2 p2 (e1.trans x2) (ex_none e1 n2) s2⟩
      · refine ⟨f, F, ds, fr, sp, ws, rfl, lo, la, ce, hq _ _ fun H1 x e1 n1 h1 => ?_⟩
        refine ⟨false, FcX.xh_own (xh T) (c := "LimitExceeded") (d := "InvalidAnswers") (by decide) (by decide), (fun z => by cases z), fun _ => ?_⟩
        refine ⟨false, FcX.xh_own (xh T) (c := "LimitExceeded") (d := "NotWaiting") (by decide) (by decide), (fun z => by cases z), fun _ => ?_⟩
        refine ⟨false, FcX.xh_own (xh T) (c := "LimitExceeded") (d := "InvalidBound") (by decide) (by decide), (fun z => by cases z), fun _ => ?_⟩
        refine ⟨true, FcX.xh_own (xh T) (c := "LimitExceeded") (d := "LimitExceeded") (by decide) (by decide), fun _ a na => ?_, fun z => by cases z⟩
        refine ⟨_, rfl, rfl, rfl, x, _, _, rfl, h1, rfl, sz (by simp), ?_⟩
        intro p2 n2
        generalize e2 : upd _ p2 _ = H2
        obtain ⟨x2, s2, o2⟩ := new_of e2 n2
        clear e2
        exact ⟨_, rfl, Qq H2 p2 (e1.trans x2) (ex_none e1 n2) s2⟩
    · refine ⟨f, F, ds, fr, sp, ws, rfl, lo, la, ce, hq _ _ fun H1 x e1 n1 h1 => ?_⟩
      obtain ⟨dv, s1, s2', s3⟩ := sh.ex e1
      refine ⟨false, FcX.xh_own (xh T) (c := "InvalidBound") (d := "InvalidAnswers") (by decide) (by decide), (fun z => by cases z), fun _ => ?_⟩
      refine ⟨false, FcX.xh_own (xh T) (c := "InvalidBound") (d := "NotWaiting") (by decide) (by decide), (fun z => by cases z), fun _ => ?_⟩
      refine ⟨true, FcX.xh_own (xh T) (c := "InvalidBound") (d := "InvalidBound") (by decide) (by decide), fun _ a na => ?_, fun z => by cases z⟩
      refine ⟨_, rfl, rfl, rfl, x, _, _, rfl, h1, rfl, y, d, rfl, dv, s1, s2', s3, sz (by simp), ?_⟩
      intro p2 n2
      generalize e2 : upd _ p2 _ = H2
      obtain ⟨x2, s2, o2⟩ := new_of e2 n2
      clear e2
      exact ⟨_, rfl, Qq H2 p2 (e1.trans x2) (ex_none e1 n2) s2⟩
    · refine ⟨f, F, ds, fr, sp, ws, rfl, lo, la, ce, ?_⟩
      exact hq _ _ fun v H' hG => ⟨_, rfl, Qq H' hG⟩
end

end Fc

set_option maxRecDepth 100000
set_option maxHeartbeats 4000000
namespace Fc
open PySem PySem.Spec PyProof.Rows L2 FcR
open Evl (Ex)
open FcM (Way Node Tab Pd)
/-! ### _law_refused_right of k76 -/
def pd7 (x : Nat × Way) : PyData := .tuple [.int (x.1 : Int), wayD x.2]
theorem pdAt_dp7 {K : PySem.W.Frag} {F : Hp} : ∀ {ts : List Addr} {P : Pd}, PdAt K F ts P → DpAll K F (ts.map V.ref) (P.map pd7)
  | _, _, .nil => .nil
  | _, _, .cons h hd _ r => .cons (.tup (Evl.st_of h) (.cons (.int _) (.cons hd .nil))) (pdAt_dp7 r)
def mom7 : Nat ⊕ Way → PyData
  | .inl n => .int (n : Int)
  | .inr w => .str (endS w)
theorem dp_mom7 {K : PySem.W.Frag} {F : Hp} (r : Nat ⊕ Way) : Dp K F (momS r) (mom7 r) := by
  cases r with
  | inl n => exact .int _
  | inr w => exact .str _
def now7 (cf : FcM.Cfg) : PyData := .tuple [mom7 cf.at_, .list ((momP cf.at_ cf.pd).map pd7)]
def kept7 (cf : FcM.Cfg) (bits : List Bool) : PyData := .tuple [.list (bits.map bD), .list (cf.vs.map fun n : Nat => PyData.int (n : Int)), now7 cf]
theorem can_all7 {α : Type} {f : α → PyData} (h : ∀ a, PyData.canLay0 (f a) = true) (l : List α) : PyData.canLayAll0 (l.map f) = true := canAll fun d hd => by
  obtain ⟨a, _, e⟩ := List.mem_map.mp hd
  rw [← e]
  exact h a
theorem can_way7 (w : Way) : PyData.canLay0 (wayD w) = true := by
  cases w <;> kernel_rfl
theorem can_pd7 (x : Nat × Way) : PyData.canLay0 (pd7 x) = true := by
  show (true && (PyData.canLay0 (wayD x.2) && true)) = true
  rw [can_way7] <;> rfl
theorem can_now7 (cf : FcM.Cfg) : PyData.canLay0 (now7 cf) = true := by
  show (PyData.canLay0 (mom7 cf.at_) && (PyData.canLayAll0 ((momP cf.at_ cf.pd).map pd7) && true)) = true
  rw [can_all7 can_pd7]
  cases cf.at_ with
  | inl n => rfl
  | inr w => cases w <;> kernel_rfl
theorem can_kept7 (cf : FcM.Cfg) (bits : List Bool) : PyData.canLay0 (kept7 cf bits) = true := by
  show (PyData.canLayAll0 (bits.map bD) && (PyData.canLayAll0 (cf.vs.map fun n : Nat => PyData.int (n : Int)) && (PyData.canLay0 (now7 cf) && true))) = true
  rw [can_all7 (fun b => rfl), can_ints, can_now7] <;> rfl
theorem depA7 {α : Type} {f : α → PyData} {m : Nat} (h : ∀ a, (f a).depth ≤ m) : ∀ l : List α, PyData.depthAll (l.map f) ≤ m
  | [] => Nat.zero_le _
  | a :: l => by
    have := h a
    have := depA7 h l
    simp only [List.map_cons, PyData.depthAll]
    omega
theorem dep_now7 (cf : FcM.Cfg) : (now7 cf).depth ≤ 50 := by
  have h1 : ∀ x, (pd7 x).depth ≤ 20 := fun x => by
    obtain ⟨n, w⟩ := x
    cases w <;> simp only [pd7, wayD, wayL, PyData.depth, PyData.depthAll] <;> omega
  have h2 := depA7 h1 (momP cf.at_ cf.pd)
  have h3 : (mom7 cf.at_).depth ≤ 20 := by cases cf.at_ <;> simp [mom7, PyData.depth]
  simp only [now7, PyData.depth, PyData.depthAll]
  omega
theorem dep_kept7 (cf : FcM.Cfg) (bits : List Bool) : (kept7 cf bits).depth ≤ 150 := by
  have h1 := depA7 (f := bD) (m := 20) (fun b => by simp [bD, PyData.depth]) bits
  have h2 := dep_ints cf.vs
  have h3 := dep_now7 cf
  simp only [kept7, PyData.depth, PyData.depthAll]
  omega
theorem Ses.noT {K : PySem.W.Frag} {F H : Hp} {A : CAd} {rows : List Row} {lp : Nat → Nat} {S : SesA} {bits : List Bool} {s : Nat} {ts : List Addr} {cf : FcM.Cfg} (R : Ses K F H A rows lp S bits s ts cf) (tb : Tb K H) : ∀ b, TM K b → ¬ S.M b := fun b hb hm => by
  obtain ⟨ps, hps⟩ := _root_.Fc.noT tb hb
  unfold SesA.M SesA.all at hm
  simp only [List.mem_cons, List.not_mem_nil, or_false] at hm
  rcases hm with rfl | rfl | rfl | rfl | rfl
  · rw [R.ob] at hps; cases hps
  · rw [R.gl] at hps; cases hps
  · rw [R.dl] at hps; cases hps
  · rw [R.ws.ob] at hps; cases hps
  · rw [R.ws.pl] at hps; cases hps
def sp_ref76 (K : PySem.W.Frag) : Sp := fun vs H Q _ => ∃ (F : Hp) (A : CAd) (rows : List Row) (lp : Nat → Nat) (S : SesA) (bits : List Bool) (s : Nat) (ts : List Addr) (cf : FcM.Cfg) (a : Addr) (k e N : Nat), vs = [.ref S.p, .ref A.p, .ref a] ∧ Ses K F H A rows lp S bits s ts cf ∧ F a = some (.lst (bits.map bV)) ∧ bits.length ≤ 200 ∧
  FcM.Ent (tabOf rows) k 0 e ∧ FcM.Re (tabOf rows) bits 1000 N ⟨.inl e, [], 0, []⟩ cf ∧ (∀ b, TM K b → F b = none) ∧ Tb K H ∧ ∀ H', Gr (TM K) F H F H' → Tb K H' → Q (.bl true) H'
theorem odd7a {K : PySem.W.Frag} {F : Hp} {p q : Addr} (kp : F p = some (.lst [.int 1])) (kq : F q = some (.dK [])) : ∀ x ∈ [V.int 2, .int (-1), .bl true, .bl false, .non, .str "1", .ref p, .ref q, .int (10 ^ 30)], BadN K F x 2 := fun x hx => by
  simp only [List.mem_cons, List.not_mem_nil, or_false] at hx
  rcases hx with rfl | rfl | rfl | rfl | rfl | rfl | rfl | rfl | rfl
  · exact .inl ⟨_, rfl, rfl⟩
  · exact .inl ⟨_, rfl, rfl⟩
  · exact badNB _
  · exact badNB _
  · exact badNT (.inl rfl) fun _ _ => .base .non
  · exact badNT (.inr (.inl rfl)) fun _ _ => .base (.str _)
  · exact badNT (.inr (.inr (.inl rfl))) fun _ e => ty_lst (Evl.sq_of (e _ _ kp))
  · exact badNT (.inr (.inr (.inr (.inr rfl)))) fun _ e => .base (.dK (e _ _ kq))
  · exact .inl ⟨_, rfl, by decide⟩
theorem can_sh7 : ∀ n : Nat, n < 201 → PyData.canLay0 (.str (PyData.shown (.int ((n : Int) + 1)))) = true := by decide +kernel
theorem odd7b {K : PySem.W.Frag} {F : Hp} {n : Nat} {p q : Addr} (h4 : n ≤ 200) (kp : F p = some (.lst [.int 0])) (kq : F q = some (.dK [])) : ∀ x ∈ [V.int (-1), .int ((n : Int) + 1), .bl true, .non, .str "0", .ref p, .ref q, .int (10 ^ 30)], BadN K F x (n + 1) ∧ ∃ d, Shown K F x d ∧ PyData.canLay0 (.str d.shown) = true := fun x hx => by
  simp only [List.mem_cons, List.not_mem_nil, or_false] at hx
  rcases hx with rfl | rfl | rfl | rfl | rfl | rfl | rfl | rfl
  · exact ⟨.inl ⟨_, rfl, by simp⟩, _, shI (by decide), by decide +kernel⟩
  · exact ⟨.inl ⟨_, rfl, by simp; omega⟩, _, shI (by omega), can_sh7 n (by omega)⟩
  · exact ⟨badNB _, .bool true, ⟨.dp (.bl _) rfl, rfl, by decide, by decide +kernel⟩, by decide +kernel⟩
  · exact ⟨badNT (.inl rfl) fun _ _ => .base .non, .none, ⟨.dp .non rfl, rfl, by decide, by decide +kernel⟩, by decide +kernel⟩
  · exact ⟨badNT (.inr (.inl rfl)) fun _ _ => .base (.str _), .str "0", ⟨.dp (.str _) (by decide +kernel), rfl, by decide +kernel, by decide +kernel⟩, by decide +kernel⟩
  · exact ⟨badNT (.inr (.inr (.inl rfl))) fun _ e => ty_lst (Evl.sq_of (e _ _ kp)), .list [.int 0], ⟨.dp (.lst (Evl.sq_of kp) (.cons (.int _) .nil)) rfl, by decide +kernel, by decide +kernel, by decide +kernel⟩, by decide +kernel⟩
  · exact ⟨badNT (.inr (.inr (.inr (.inr rfl)))) fun _ e => .base (.dK (e _ _ kq)), .dict [], ⟨.dict kq, by decide +kernel, by decide +kernel, by decide +kernel⟩, by decide +kernel⟩
  · refine ⟨.inl ⟨_, rfl, ?_⟩, .int (10 ^ 30), ⟨.dp (.int _) rfl, by decide +kernel, by decide +kernel, by decide +kernel⟩, by decide +kernel⟩
    have h30 : (400 : Int) < 10 ^ 30 := by decide
    rw [decide_eq_false (p := (10 : Int) ^ 30 ≤ ((n + 1 : Nat) : Int) - 1) (by omega)]
    simp
theorem grow7 {F H H' : Hp} (x : Ex F H) (e : Ex H H') (L : List Addr) (n : ∀ b ∈ L, H b = none) : Gr (fun _ => False) F H (frz F H' L) H' :=
  ⟨frz_ex fun b hb => ex_none x (n b hb), frz_le (x.trans e), fun b h1 h2 _ => by rw [frz_out (fun z => h1 (n b z))]; exact h2, fun b o h _ => e b o h⟩
theorem tm_grow7 {K : PySem.W.Frag} {F H H' : Hp} {L : List Addr} (ft : ∀ b, TM K b → F b = none) (tb : Tb K H) (n : ∀ b ∈ L, H b = none) : ∀ b, TM K b → frz F H' L b = none := fun b hb => by
  obtain ⟨ps, hps⟩ := noT tb hb
  rw [frz_out (fun z => by rw [n b z] at hps; cases hps)]
  exact ft b hb
section
variable {P : Program} {w : World} {h : Heap} {K : PySem.W.Frag} {mg : Str → Option Value} {base : Heap}
abbrev N_law_refused_right : List Str := ["_law_session", "_law_code", "_law_answers", "_law_kept", "_law_end", "_law_odd", "_law_value"]
theorem sc_law_refused_right : FnScope N_law_refused_right ["_law_session", "_law_code", "_law_answers"] (defScope sd_law_refused_right) := ⟨rfl, rfl, rfl, by decide +kernel, rfl, by decide +kernel, by decide +kernel⟩
theorem ok_law_refused_right (TB : FcL.TabG K base mg tfL) (T : Tx w h K mg) : FcL.OkG P w K mg base 12 ("_law_refused_right", none) ["_law_session", "_law_code", "_law_answers"] (sp_ref76 K) := by
  obtain ⟨fd, F⟩ := F_law_refused_right T
  refine ⟨fd, ?_, F.bindsN (fun _ _ _ _ _ _ us hl => match us, hl with | [_, _, _], _ => rfl), F.kp⟩
  obtain ⟨fd_law_said, G_law_said, bi_law_said, kp_law_said⟩ := ok_law_said (P := P) T
  obtain ⟨fd_run, G_run, bi_run, kp_run⟩ := ok_run (P := P) (base := base) T
  obtain ⟨fd_Session_answers, G_Session_answers, bi_Session_answers, kp_Session_answers⟩ := ok_Session_answers (P := P) (base := base) T
  obtain ⟨fd_Session_now, G_Session_now, bi_Session_now, kp_Session_now⟩ := ok_Session_now (P := P) (base := base) T
  obtain ⟨fd_Session_places, G_Session_places, bi_Session_places, kp_Session_places⟩ := ok_Session_places (P := P) (base := base) T
  refine FcL.okG (at_ := ("_law_refused_right", none)) F sc_law_refused_right (fun vs H Q E h => ?_) (fun cdv A outer s H vs Q E hgd hcd hr h => ?_)
  · obtain ⟨F, A, rows, lp, S, bits, s, ts, cf, a, k, e, N, rfl, R, ha, hb, he, re, ft, tb, q⟩ := h
    rfl
  · have hun : (A.deeper (envOfC "_law_refused_right" (defScope sd_law_refused_right) s.heap.objs.size (He.fAd K ("_law_refused_right", none)) cdv)).units + 100 < cLine := by have := hr.un; omega
    obtain ⟨F, A, rows, lp, S, bits, s, ts, cf, a, k, e, N, rfl, R, ha, hb, he, re, ft, tb, q⟩ := h
    refine ⟨_, PSs.nox (pss_cons (ps_set (i := 3) sc_law_refused_right.nd rfl (Or.inl rfl) (pe_tup (pa_cons (pe_meth0 (pv 0) (c_Session T) (me_Session_answers T) G_Session_answers (hr.mono (by decide)) bi_Session_answers .nil passF) (pa_cons (pe_meth0 (pv 0) (c_Session T) (me_Session_places T) G_Session_places (hr.mono (by decide)) bi_Session_places .nil passF) (pa_cons (pe_meth0 (pv 0) (c_Session T) (me_Session_now T) G_Session_now (hr.mono (by decide)) bi_Session_now .nil passF) pa_nil))))) (pss_cons (ps_for PassesOwn.never rfl (pi_list (pe_lst (pa_cons pe_int (pa_cons (pe_un un_neg pe_int) (pa_cons pe_bl (pa_cons pe_bl (pa_cons pe_non (pa_cons pe_str (pa_cons (pe_lst (pa_cons pe_int pa_nil)) (pa_cons pe_dnewK (pa_cons (pe_op op_pow pe_int pe_int) pa_nil))))))))))) (pg_name (i := 5) sc_law_refused_right.nd rfl (Or.inr rfl)) (pss_one (ps_if (pt_cmpR (op_neM hr) (FcL.pe_callG (fun b _ => G_law_said b) (show _ = some [] from hgd) (hr.mono (by decide)) rfl (g_law_said T) kp_law_said bi_law_said (fun _ => rfl) (pa_cons (FcL.pe_lam (T := FcL.tabT K tfL) (P := (He.cT K ("_law_refused_right", none)).2) (fr := ["_law_session", "_law_odd"]) (js := [0, 5]) (TB _ (List.mem_of_getElem? (i := 0) rfl)) hcd (FcL.tabT_m (i := 0) rfl) (FcL.tabT_u (tnd T) (i := 0) rfl) (by show NdefX.ndefB (defScope sd_law_refused_right) _ _ = true; decide +kernel) rfl rfl) pa_nil)) (pe_tup (pa_cons pe_str (pa_cons (pe_un un_neg pe_int) pa_nil))) (nomark _)) (pss_one (ps_ret pe_bl)) pss_nil))) (pss_cons (ps_for PassesOwn.never rfl (pi_list (pe_lst (pa_cons (pe_un un_neg pe_int) (pa_cons (pe_op op_add (pe_callB call_len_seq rfl (fr_len T) b_len (pa_cons (pv 2) pa_nil)) pe_int) (pa_cons pe_bl (pa_cons pe_non (pa_cons pe_str (pa_cons (pe_lst (pa_cons pe_int pa_nil)) (pa_cons pe_dnewK (pa_cons (pe_op op_pow pe_int pe_int) pa_nil)))))))))) (pg_name (i := 5) sc_law_refused_right.nd rfl (Or.inr rfl)) (pss_one (ps_if (pt_cmpR (op_neM hr) (FcL.pe_callG (fun b _ => G_law_said b) (show _ = some [] from hgd) (hr.mono (by decide)) rfl (g_law_said T) kp_law_said bi_law_said (fun _ => rfl) (pa_cons (FcL.pe_lam (T := FcL.tabT K tfL) (P := (He.cT K ("_law_refused_right", none)).2) (fr := ["_law_session", "_law_odd"]) (js := [0, 5]) (TB _ (List.mem_of_getElem? (i := 0) rfl)) hcd (FcL.tabT_m (i := 0) rfl) (FcL.tabT_u (tnd T) (i := 0) rfl) (by show NdefX.ndefB (defScope sd_law_refused_right) _ _ = true; decide +kernel) rfl rfl) pa_nil)) (pe_tup (pa_cons pe_str (pa_cons (pe_callB (show CallR _ _ (FcL.rRepr K) from FcL.call_repr (show _ = some [] from hgd) hun) rfl (fr_repr T) b_repr (pa_cons (pv 5) pa_nil)) pa_nil))) (nomark _)) (pss_one (ps_ret pe_bl)) pss_nil))) (pss_cons (ps_set (i := 4) sc_law_refused_right.nd rfl (Or.inl rfl) (pe_fld (pe_call G_run (hr.mono (by decide)) rfl (g_run T) kp_run bi_run .nil passF (pa_cons (pv 1) (pa_cons (pv 2) pa_nil))) rfl)) (pss_cons (ps_for PassesOwn.never rfl (pi_list (pe_op op_rep (pe_lst (pa_cons pe_int (pa_cons pe_int pa_nil))) (pe_callTy call_int1 rfl (fr_int T) b_int (pa_cons (pe_cmpR op_ne (pv 4) pe_str (nomark _)) pa_nil)))) (pg_name (i := 6) sc_law_refused_right.nd rfl (Or.inr rfl)) (pss_one (ps_if (pt_cmpR (op_neM hr) (FcL.pe_callG (fun b _ => G_law_said b) (show _ = some [] from hgd) (hr.mono (by decide)) rfl (g_law_said T) kp_law_said bi_law_said (fun _ => rfl) (pa_cons (FcL.pe_lam (T := FcL.tabT K tfL) (P := (He.cT K ("_law_refused_right", none)).2) (fr := ["_law_session", "_law_value"]) (js := [0, 6]) (TB _ (List.mem_of_getElem? (i := 0) rfl)) hcd (FcL.tabT_m (i := 0) rfl) (FcL.tabT_u (tnd T) (i := 0) rfl) (by show NdefX.ndefB (defScope sd_law_refused_right) _ _ = true; decide +kernel) rfl rfl) pa_nil)) (pe_tup (pa_cons pe_str (pa_cons (pv 4) pa_nil))) (nomark _)) (pss_one (ps_ret pe_bl)) pss_nil))) (pss_one (ps_ret (pe_cmpR (op_eqM hr) (pe_tup (pa_cons (pe_meth0 (pv 0) (c_Session T) (me_Session_answers T) G_Session_answers (hr.mono (by decide)) bi_Session_answers .nil passF) (pa_cons (pe_meth0 (pv 0) (c_Session T) (me_Session_places T) G_Session_places (hr.mono (by decide)) bi_Session_places .nil passF) (pa_cons (pe_meth0 (pv 0) (c_Session T) (me_Session_now T) G_Session_now (hr.mono (by decide)) bi_Session_now .nil passF) pa_nil)))) (pv 3) (nomark _))))))))), ?_⟩
    -- what is kept
    refine ⟨_, rfl, S.p, _, _, rfl, R.ob, fm_Session_answers _ _ _ _, F, A, rows, lp, S, bits, s, ts, cf, rfl, R, fun H1 p1 x1 n1 s1 => ?_⟩
    have R1 := R.new x1
    refine ⟨_, rfl, S.p, _, _, rfl, R1.ob, fm_Session_places _ _ _ _, F, A, rows, lp, S, bits, s, ts, cf, rfl, R1, fun H2 p2 x2 n2 s2 => ?_⟩
    have R2 := R1.new x2
    refine ⟨_, rfl, S.p, _, _, rfl, R2.ob, fm_Session_now _ _ _ _, F, A, rows, lp, S, bits, s, ts, cf, rfl, R2, fun H3 tp l3 ts3 x3 nt nl tl s3 sl3 pa3 => ?_⟩
    have R3 := R2.new x3
    refine ⟨sz (by simp), ?_⟩
    intro p4 n4
    generalize e4 : upd _ p4 _ = H4
    obtain ⟨x4, s4, o4⟩ := new_of e4 n4
    clear e4
    have R4 := R3.new x4
    have x14 : Ex H H4 := x1.trans (x2.trans (x3.trans x4))
    have nL : ∀ b ∈ [p1, p2, tp, l3, p4], H b = none := fun b hb => by
      simp only [List.mem_cons, List.not_mem_nil, or_false] at hb
      rcases hb with rfl | rfl | rfl | rfl | rfl
      · exact n1
      · exact ex_none x1 n2
      · exact ex_none (x1.trans x2) nt
      · exact ex_none (x1.trans x2) nl
      · exact ex_none (x1.trans (x2.trans x3)) n4
    have g4 := grow7 R.x x14 _ nL
    have ft4 : ∀ b, TM K b → frz F H4 [p1, p2, tp, l3, p4] b = none := tm_grow7 ft tb nL
    have R5 := R.gr g4 fun _ z => z.elim
    have in4 : ∀ {b o}, b ∈ [p1, p2, tp, l3, p4] → H4 b = some o → frz F H4 [p1, p2, tp, l3, p4] b = some o := fun hb e => by rw [frz_in hb]; exact e
    have dk : Dp K (frz F H4 [p1, p2, tp, l3, p4]) (.ref p4) (kept7 cf bits) := .tup (Evl.st_of (in4 (by simp) s4)) (.cons (.lst (Evl.sq_of (in4 (by simp) (x4 _ _ (x3 _ _ (x2 _ _ s1))))) (dpA_bits bits)) (.cons (.lst (Evl.sq_of (in4 (by simp) (x4 _ _ (x3 _ _ s2)))) (dp_ints _)) (.cons (.tup (Evl.st_of (in4 (by simp) (x4 _ _ s3))) (.cons (dp_mom7 _) (.cons (.lst (Evl.sq_of (in4 (by simp) (x4 _ _ sl3))) (pdAt_dp7 (pa3.ex g4.ff))) .nil))) .nil)))
    have ha5 := g4.ff _ _ ha
    have tb4 : Tb K H4 := LamX.Tabs.ext tb fun b o h => x14 b o h
    clear in4 nL
    generalize frz F H4 [p1, p2, tp, l3, p4] = F5 at *
    -- the first odd ones
    refine ⟨1, rfl, sz (by simp), ?_⟩
    intro p6 n6
    generalize e6 : upd _ p6 _ = H6
    obtain ⟨x6, s6, o6⟩ := new_of e6 n6
    clear e6
    intro p7 n7
    generalize e7 : upd _ p7 _ = H7
    obtain ⟨x7, s7, o7⟩ := new_of e7 n7
    clear e7
    refine ⟨_, _, rfl, rfl, ⟨by decide, by decide, by decide⟩, sz (by simp), ?_⟩
    intro p8 n8
    generalize e8 : upd _ p8 _ = H8
    obtain ⟨x8, s8, o8⟩ := new_of e8 n8
    clear e8
    refine ⟨p8, rfl, ⟨_, Evl.sq_of s8⟩, ?_⟩
    have e1030 : (10 : Int) ^ (30 : Int).toNat = 10 ^ 30 := by decide
    dsimp only at s8
    rw [e1030] at s8
    have x48 : Ex H4 H8 := x6.trans (x7.trans x8)
    have nL8 : ∀ b ∈ [p6, p7, p8], H4 b = none := fun b hb => by
      simp only [List.mem_cons, List.not_mem_nil, or_false] at hb
      rcases hb with rfl | rfl | rfl
      · exact n6
      · exact ex_none x6 n7
      · exact ex_none (x6.trans x7) n8
    have g8 := grow7 R5.x x48 _ nL8
    have ft8 : ∀ b, TM K b → frz F5 H8 [p6, p7, p8] b = none := tm_grow7 ft4 tb4 nL8
    have R8 := R5.gr g8 fun _ z => z.elim
    have in8 : ∀ {b o}, b ∈ [p6, p7, p8] → H8 b = some o → frz F5 H8 [p6, p7, p8] b = some o := fun hb e => by rw [frz_in hb]; exact e
    have k6 := in8 (by simp) (x8 _ _ (x7 _ _ s6))
    have k7 := in8 (by simp) (x8 _ _ s7)
    have k8 := in8 (by simp) s8
    have tb8 : Tb K H8 := LamX.Tabs.ext tb4 fun b o h => x48 b o h
    have dk8 := dp_ex g8.ff dk
    have ha8 := g8.ff _ _ ha5
    have g48 : Gr (fun _ => False) F H F5 H8 := g4.trans ⟨Evl.Ex.refl _, (g8.ff).trans g8.fh, fun _ _ h _ => h, fun b o h _ => x48 b o h⟩
    have FF8 := g4.ff.trans g8.ff
    clear in8 nL8
    generalize frz F5 H8 [p6, p7, p8] = F8 at *
    have odd := odd7a (K := K) (F := F8) k6 k7
    refine for_it (walk_list (xs := [V.int 2, .int (-1), .bl true, .bl false, .non, .str "1", .ref p6, .ref p7, .int (10 ^ 30)])) (fun j σ' H' => Gr (TM K) F8 H8 F8 H' ∧ Tb K H' ∧ ∃ o4 o5 o6, σ' = [some (.ref S.p), some (.ref A.p), some (.ref a), some (.ref p4), o4, o5, o6]) ?_ ?_ ?_ ?_
    · exact ⟨Gr.refl g8.fh, tb8, _, _, _, rfl⟩
    · exact fun i σ' H' _ ⟨g, _⟩ => Evl.sq_of (g.fh _ _ k8)
    · rintro jj vj σ' Hc H9 hj ⟨g9, t9, o4, o5, o6, rfl⟩ ⟨rfl, hvj⟩
      have bd := odd vj (List.mem_of_getElem? hvj)
      refine ⟨t9, fun f0 cl0 c0 dV0 H10 eT0 nn0 t10 nf0 la0 cp0 => ?_⟩
      obtain ⟨L0, hL0, la0⟩ : ∃ L, L = _ ∧ FcL.LamAt H10 f0 L [] := ⟨_, rfl, la0⟩
      have g10 : Gr (TM K) F8 H8 F8 H10 := g9.trans (gr_T g9.fh ft8 eT0)
      have R10 := R8.gr g10 (R8.noT tb8)
      refine fun base' gr => ?_
      refine ⟨f0, L0, [], ["_law_session", "_law_odd"], fun ws H Q E => ∃ a b, ws = [some a, some b] ∧ sp_sansX K [a, b] H Q E, [some (.ref S.p), some vj], rfl, ?_, la0, ?_, .inl ⟨"InvalidAnswers", "at", "answers", .int (-1), (by simp [saidT]), fun Q' E' ra => ⟨_, _, rfl, F8, A, rows, lp, S, bits, s, ts, cf, vj, rfl, R10, .inl ⟨bd.ex g10.fh, ra⟩⟩, fun H11 t x11 nt st => ?_⟩⟩
      · subst hL0
        refine FcL.LOk.mono (j := 7) (FcL.lok_of (N := ["_law_session", "_law_odd"]) (ps := []) (fr := ["_law_session", "_law_odd"]) (NdefX.nscope_by (by dsimp only; decide +kernel)) rfl (fun s pm ctv us r z => z.elim (fun z => by cases r; obtain ⟨z1, _⟩ := z; dsimp only at z1; subst z1; exact .of_eq rfl) (fun z => by cases r; obtain ⟨_, _, _, _, z, _⟩ := z; exact absurd rfl z)) (fun A outer s H f ws Q E hr hl h => ?_)) (by decide)
        obtain ⟨a, b, rfl, F, A, rows, lp, S, bits, s, ts, cf, v, e, R, alt⟩ := h
        cases e
        exact ⟨_, (FcX.pe_methS (heldOf (ok_Session_answerX (P := P) (base := base') T)) (pv 0) (c_Session T) (me_Session_answer T) (hr.mono (by decide)) (takes_of rfl rfl rfl rfl) (pa_cons (pv 1) pa_nil)), _, rfl, S.p, _, _, rfl, R.ob, fm_Session_answer _ _ _ _, _, rfl, _, rfl, F, A, rows, lp, S, bits, s, ts, cf, _, rfl, R, alt⟩
      · subst hL0
        exact gr.cells _ cl0 _ _ rfl rfl cp0
      refine ⟨1, rfl, sz (by simp), ?_⟩
      intro p12 n12
      generalize e12 : upd _ p12 _ = H12
      obtain ⟨x12, s12, o12⟩ := new_of e12 n12
      clear e12
      refine ⟨.tuple [.str "answers", .int (-1)], .tuple [.str "answers", .int (-1)], .tup (Evl.st_of (x12 _ _ st)) (.cons (.str _) (.cons (.int _) .nil)), .tup (Evl.st_of s12) (.cons (.str _) (.cons (.int _) .nil)), (by kernel_rfl), (by kernel_rfl), by decide, _, rfl, itF (by decide +kernel) ?_⟩
      have g12 := g10.trans (Gr.new g10.fh (x11.trans x12))
      exact ⟨g12, LamX.Tabs.ext t10 fun b o h => x12 _ _ (x11 b o h), _, _, _, rfl⟩
    rintro σ' H13 ⟨g13, t13, o4, o5, o6, rfl⟩
    have R13 := R8.gr g13 (R8.noT tb8)
    refine ⟨1, rfl, _, rfl, a, _, rfl, .inl (Evl.sq_of (g13.fh _ _ ha8)), _, _, rfl, rfl, sz (by simp), ?_⟩
    intro p14 n14
    generalize e14 : upd _ p14 _ = H14
    obtain ⟨x14, s14, o14⟩ := new_of e14 n14
    clear e14
    intro p15 n15
    generalize e15 : upd _ p15 _ = H15
    obtain ⟨x15, s15, o15⟩ := new_of e15 n15
    clear e15
    refine ⟨_, _, rfl, rfl, ⟨by decide, by decide, by decide⟩, sz (by simp), ?_⟩
    intro p16 n16
    generalize e16 : upd _ p16 _ = H16
    obtain ⟨x16, s16, o16⟩ := new_of e16 n16
    clear e16
    refine ⟨p16, rfl, ⟨_, Evl.sq_of s16⟩, ?_⟩
    dsimp only at s16
    rw [e1030, List.length_map] at s16
    have x136 : Ex H13 H16 := x14.trans (x15.trans x16)
    have nL16 : ∀ b ∈ [p14, p15, p16], H13 b = none := fun b hb => by
      simp only [List.mem_cons, List.not_mem_nil, or_false] at hb
      rcases hb with rfl | rfl | rfl
      · exact n14
      · exact ex_none x14 n15
      · exact ex_none (x14.trans x15) n16
    have g16 := grow7 R13.x x136 _ nL16
    have ft16 : ∀ b, TM K b → frz F8 H16 [p14, p15, p16] b = none := tm_grow7 ft8 t13 nL16
    have R16 := R13.gr g16 fun _ z => z.elim
    have in16 : ∀ {b o}, b ∈ [p14, p15, p16] → H16 b = some o → frz F8 H16 [p14, p15, p16] b = some o := fun hb e => by rw [frz_in hb]; exact e
    have k14 := in16 (by simp) (x16 _ _ (x15 _ _ s14))
    have k15 := in16 (by simp) (x16 _ _ s15)
    have k16 := in16 (by simp) s16
    have tb16 : Tb K H16 := LamX.Tabs.ext t13 fun b o h => x136 b o h
    have dk16 := dp_ex g16.ff dk8
    have ha16 := g16.ff _ _ ha8
    have FF16 := FF8.trans g16.ff
    clear in16 nL16
    generalize frz F8 H16 [p14, p15, p16] = F16 at *
    have odd2 := odd7b (K := K) (F := F16) (n := bits.length) hb k14 k15
    refine for_it (walk_list (xs := [V.int (-1), .int ((bits.length : Int) + 1), .bl true, .non, .str "0", .ref p14, .ref p15, .int (10 ^ 30)])) (fun j σ' H' => Gr (TM K) F16 H16 F16 H' ∧ Tb K H' ∧ ∃ o4 o5 o6, σ' = [some (.ref S.p), some (.ref A.p), some (.ref a), some (.ref p4), o4, o5, o6]) ?_ ?_ ?_ ?_
    · exact ⟨Gr.refl g16.fh, tb16, _, _, _, rfl⟩
    · exact fun i σ' H' _ ⟨g, _⟩ => Evl.sq_of (g.fh _ _ k16)
    · rintro jj vj σ' Hc H19 hj ⟨g19, t19, o4, o5, o6, rfl⟩ ⟨rfl, hvj⟩
      obtain ⟨bd, dd, sh, cs⟩ := odd2 vj (List.mem_of_getElem? hvj)
      refine ⟨t19, fun f0 cl0 c0 dV0 H20 eT0 nn0 t20 nf0 la0 cp0 => ?_⟩
      obtain ⟨L0, hL0, la0⟩ : ∃ L, L = _ ∧ FcL.LamAt H20 f0 L [] := ⟨_, rfl, la0⟩
      have g20 : Gr (TM K) F16 H16 F16 H20 := g19.trans (gr_T g19.fh ft16 eT0)
      have R20 := R16.gr g20 (R16.noT tb16)
      refine fun base' gr => ?_
      refine ⟨f0, L0, [], ["_law_session", "_law_odd"], fun ws H Q E => ∃ a b, ws = [some a, some b] ∧ sp_undoX K [a, b] H Q E, [some (.ref S.p), some vj], rfl, ?_, la0, ?_, .inr (.inl ⟨vj, dd, sh.ex g20.fh, fun Q' E' ra => ⟨_, _, rfl, F16, A, rows, lp, S, bits, s, ts, cf, vj, rfl, R20, bd.ex g20.fh, ra⟩, fun H21 t x21 nt st => ?_⟩)⟩
      · subst hL0
        refine FcL.LOk.mono (j := 8) (FcL.lok_of (N := ["_law_session", "_law_odd"]) (ps := []) (fr := ["_law_session", "_law_odd"]) (NdefX.nscope_by (by dsimp only; decide +kernel)) rfl (fun s pm ctv us r z => z.elim (fun z => by cases r; obtain ⟨z1, _⟩ := z; dsimp only at z1; subst z1; exact .of_eq rfl) (fun z => by cases r; obtain ⟨_, _, _, _, z, _⟩ := z; exact absurd rfl z)) (fun A outer s H f ws Q E hr hl h => ?_)) (by decide)
        obtain ⟨a, b, rfl, F, A, rows, lp, S, bits, s, ts, cf, v, e, R, alt⟩ := h
        cases e
        exact ⟨_, (FcX.pe_methS (heldOf (ok_Session_undoX (P := P) (base := base') T)) (pv 0) (c_Session T) (me_Session_undo T) (hr.mono (by decide)) (takes_of rfl rfl rfl rfl) (pa_cons (pv 1) pa_nil)), _, rfl, S.p, _, _, rfl, R.ob, fm_Session_undo _ _ _ _, _, rfl, _, rfl, F, A, rows, lp, S, bits, s, ts, cf, _, rfl, R, alt⟩
      · subst hL0
        exact gr.cells _ cl0 _ _ rfl rfl cp0
      obtain ⟨dv, z1, z2, z3⟩ := sh.ex (g20.fh.trans x21)
      refine ⟨_, rfl, vj, dd, rfl, dv, z1, z2, z3, sz (by simp), ?_⟩
      intro p22 n22
      generalize e22 : upd _ p22 _ = H22
      obtain ⟨x22, s22, o22⟩ := new_of e22 n22
      clear e22
      have cB : PyData.canLay0 (.tuple [.str "bound", .str dd.shown]) = true := by
        show (PyData.canLay0 (.str "bound") && (PyData.canLay0 (.str dd.shown) && true)) = true
        rw [cs]
        kernel_rfl
      refine ⟨.tuple [.str "bound", .str dd.shown], .tuple [.str "bound", .str dd.shown], .tup (Evl.st_of (x22 _ _ st)) (.cons (.str _) (.cons (.str _) .nil)), .tup (Evl.st_of s22) (.cons (.str _) (.cons (.str _) .nil)), cB, cB, (by simp [PyData.depth, PyData.depthAll]), _, rfl, itF (by rw [PySem.SeqAt.eqv_refl _ cB] <;> rfl) ?_⟩
      have g22 := g20.trans (Gr.new g20.fh (x21.trans x22))
      exact ⟨g22, LamX.Tabs.ext t20 fun b o h => x22 _ _ (x21 b o h), _, _, _, rfl⟩
    rintro σ' H23 ⟨g23, t23, o4, o5, o6, rfl⟩
    have R23 := R16.gr g23 (R16.noT tb16)
    -- the end
    refine ⟨_, rfl, _, rfl, F16, A, rows, lp, a, bits, k, e, N, cf, rfl, R23.c, R23.w, R23.x, Evl.sq_of ha16, by omega, he, re, R.nv, R.en, fun H24 q24 dx24 p24 x24 nq24 np24 hq24 hp24 => ?_⟩
    refine ⟨q24, _, _, _, _, rfl, hq24, c_Run T, na_Run_end T, fl_Run_end _ _ _, ?_⟩
    refine ⟨sz (by simp), ?_⟩
    intro p25 n25
    generalize e25 : upd _ p25 _ = H25
    obtain ⟨x25, s25, o25⟩ := new_of e25 n25
    clear e25
    obtain ⟨m, hm, m1, alt⟩ : ∃ m : Nat, (if (!decide (V.str (endT cf) = V.str "wait")) = true then (1 : Int) else 0) = (m : Int) ∧ m ≤ 1 ∧ (m = 0 ∨ ∃ w, cf.at_ = .inr w ∧ endT cf = endS w) := by
      cases hat : cf.at_ with
      | inl n =>
        have et : endT cf = "wait" := by unfold endT; rw [hat]
        exact ⟨0, by rw [et] <;> rfl, Nat.zero_le _, .inl rfl⟩
      | inr w =>
        have et : endT cf = endS w := by unfold endT; rw [hat]
        exact ⟨1, by rw [et]; cases w <;> kernel_rfl, Nat.le_refl _, .inr ⟨w, rfl, et⟩⟩
    refine ⟨_, rfl, rfl, .inr ⟨_, rfl, p25, (m : Int), _, rfl, congrArg V.int hm, s25, by omega, by omega, sz (by simp; omega), ?_⟩⟩
    intro p26 n26
    generalize e26 : upd _ p26 _ = H26
    obtain ⟨x26, s26, o26⟩ := new_of e26 n26
    clear e26
    refine ⟨p26, rfl, ⟨_, Evl.sq_of s26⟩, ?_⟩
    have isV : ∀ x ∈ (List.replicate (m : Int).toNat [V.int 0, V.int 1]).flatten, (∃ b, x = bV b) ∧ ∃ w, cf.at_ = .inr w ∧ endT cf = endS w := fun x hx => by
      rcases alt with rfl | h
      · simp at hx
      · refine ⟨?_, h⟩
        obtain ⟨l, hl, hx⟩ := List.mem_flatten.mp hx
        rw [List.eq_of_mem_replicate hl] at hx
        simp only [List.mem_cons, List.not_mem_nil, or_false] at hx
        rcases hx with rfl | rfl
        · exact ⟨false, rfl⟩
        · exact ⟨true, rfl⟩
    generalize (List.replicate (m : Int).toNat [V.int 0, V.int 1]).flatten = xs at s26 isV
    have x236 : Ex H23 H26 := x24.trans (x25.trans x26)
    have nL26 : ∀ b ∈ [p26], H23 b = none := fun b hb => by
      rw [List.mem_singleton.mp hb]
      exact ex_none (x24.trans x25) n26
    have g26 := grow7 R23.x x236 _ nL26
    have ft26 : ∀ b, TM K b → frz F16 H26 [p26] b = none := tm_grow7 ft16 t23 nL26
    have R26 := R23.gr g26 fun _ z => z.elim
    have k26 : frz F16 H26 [p26] p26 = some (.lst xs) := by rw [frz_in (by simp)]; exact s26
    have tb26 : Tb K H26 := LamX.Tabs.ext t23 fun b o h => x236 b o h
    have dk26 := dp_ex g26.ff dk16
    clear nL26
    generalize frz F16 H26 [p26] = F26 at *
    refine for_it (walk_list (xs := xs)) (fun j σ' H' => Gr (TM K) F26 H26 F26 H' ∧ Tb K H' ∧ ∃ o5 o6, σ' = [some (.ref S.p), some (.ref A.p), some (.ref a), some (.ref p4), some (.str (endT cf)), o5, o6]) ?_ ?_ ?_ ?_
    · exact ⟨Gr.refl g26.fh, tb26, _, _, rfl⟩
    · exact fun i σ' H' _ ⟨g, _⟩ => Evl.sq_of (g.fh _ _ k26)
    · rintro jj vj σ' Hc H29 hj ⟨g29, t29, o5, o6, rfl⟩ ⟨rfl, hvj⟩
      obtain ⟨⟨xb, rfl⟩, w, hat, et⟩ := isV vj (List.mem_of_getElem? hvj)
      refine ⟨t29, fun f0 cl0 c0 dV0 H30 eT0 nn0 t30 nf0 la0 cp0 => ?_⟩
      obtain ⟨L0, hL0, la0⟩ : ∃ L, L = _ ∧ FcL.LamAt H30 f0 L [] := ⟨_, rfl, la0⟩
      have g30 : Gr (TM K) F26 H26 F26 H30 := g29.trans (gr_T g29.fh ft26 eT0)
      have R30 := R26.gr g30 (R26.noT tb26)
      refine fun base' gr => ?_
      refine ⟨f0, L0, [], ["_law_session", "_law_value"], fun ws H Q E => ∃ a b, ws = [some a, some b] ∧ sp_sansX K [a, b] H Q E, [some (.ref S.p), some (bV xb)], rfl, ?_, la0, ?_, .inl ⟨"NotWaiting", "end", "end", .str (endS w), (by simp [saidT]), fun Q' E' ra => ⟨_, _, rfl, F26, A, rows, lp, S, bits, s, ts, cf, bV xb, rfl, R30, .inr (.inl ⟨xb, w, rfl, hat, ra⟩)⟩, fun H31 t x31 nt st => ?_⟩⟩
      · subst hL0
        refine FcL.LOk.mono (j := 7) (FcL.lok_of (N := ["_law_session", "_law_value"]) (ps := []) (fr := ["_law_session", "_law_value"]) (NdefX.nscope_by (by dsimp only; decide +kernel)) rfl (fun s pm ctv us r z => z.elim (fun z => by cases r; obtain ⟨z1, _⟩ := z; dsimp only at z1; subst z1; exact .of_eq rfl) (fun z => by cases r; obtain ⟨_, _, _, _, z, _⟩ := z; exact absurd rfl z)) (fun A outer s H f ws Q E hr hl h => ?_)) (by decide)
        obtain ⟨a, b, rfl, F, A, rows, lp, S, bits, s, ts, cf, v, e, R, alt⟩ := h
        cases e
        exact ⟨_, (FcX.pe_methS (heldOf (ok_Session_answerX (P := P) (base := base') T)) (pv 0) (c_Session T) (me_Session_answer T) (hr.mono (by decide)) (takes_of rfl rfl rfl rfl) (pa_cons (pv 1) pa_nil)), _, rfl, S.p, _, _, rfl, R.ob, fm_Session_answer _ _ _ _, _, rfl, _, rfl, F, A, rows, lp, S, bits, s, ts, cf, _, rfl, R, alt⟩
      · subst hL0
        exact gr.cells _ cl0 _ _ rfl rfl cp0
      refine ⟨_, rfl, sz (by simp), ?_⟩
      intro p32 n32
      generalize e32 : upd _ p32 _ = H32
      obtain ⟨x32, s32, o32⟩ := new_of e32 n32
      clear e32
      rw [et] at s32
      have cE : PyData.canLay0 (.tuple [.str "end", .str (endS w)]) = true := by cases w <;> kernel_rfl
      refine ⟨.tuple [.str "end", .str (endS w)], .tuple [.str "end", .str (endS w)], .tup (Evl.st_of (x32 _ _ st)) (.cons (.str _) (.cons (.str _) .nil)), .tup (Evl.st_of s32) (.cons (.str _) (.cons (.str _) .nil)), cE, cE, (by simp [PyData.depth, PyData.depthAll]), _, rfl, itF (by rw [PySem.SeqAt.eqv_refl _ cE] <;> rfl) ?_⟩
      have g32 := g30.trans (Gr.new g30.fh (x31.trans x32))
      exact ⟨g32, LamX.Tabs.ext t30 fun b o h => x32 _ _ (x31 b o h), _, _, rfl⟩
    rintro σ' H33 ⟨g33, t33, o5', o6', rfl⟩
    have R33 := R26.gr g33 (R26.noT tb26)
    -- nothing has changed
    refine ⟨_, rfl, S.p, _, _, rfl, R33.ob, fm_Session_answers _ _ _ _, F26, A, rows, lp, S, bits, s, ts, cf, rfl, R33, fun H34 p34 x34 n34 s34 => ?_⟩
    have R34 := R33.new x34
    refine ⟨_, rfl, S.p, _, _, rfl, R34.ob, fm_Session_places _ _ _ _, F26, A, rows, lp, S, bits, s, ts, cf, rfl, R34, fun H35 p35 x35 n35 s35 => ?_⟩
    have R35 := R34.new x35
    refine ⟨_, rfl, S.p, _, _, rfl, R35.ob, fm_Session_now _ _ _ _, F26, A, rows, lp, S, bits, s, ts, cf, rfl, R35, fun H36 tp36 l36 ts36 x36 nt36 nl36 tl36 s36 sl36 pa36 => ?_⟩
    refine ⟨sz (by simp), ?_⟩
    intro p37 n37
    generalize e37 : upd _ p37 _ = H37
    obtain ⟨x37, s37, o37⟩ := new_of e37 n37
    clear e37
    have x337 : Ex H33 H37 := x34.trans (x35.trans (x36.trans x37))
    have xF37 : Ex F26 H37 := g33.fh.trans x337
    refine ⟨_, rfl, kept7 cf bits, kept7 cf bits, .tup (Evl.st_of s37) (.cons (.lst (Evl.sq_of (x37 _ _ (x36 _ _ (x35 _ _ s34)))) (dpA_bits bits)) (.cons (.lst (Evl.sq_of (x37 _ _ (x36 _ _ s35))) (dp_ints _)) (.cons (.tup (Evl.st_of (x37 _ _ s36)) (.cons (dp_mom7 _) (.cons (.lst (Evl.sq_of (x37 _ _ sl36)) (pdAt_dp7 (pa36.ex xF37))) .nil))) .nil))), dp_ex xF37 dk26, can_kept7 _ _, can_kept7 _ _, Nat.le_trans (Nat.min_le_left _ _) (dep_kept7 _ _), ?_⟩
    rw [PySem.SeqAt.eqv_refl _ (can_kept7 _ _)]
    have no : ∀ {F1 Ha F2 Hb : Hp}, Gr (fun _ => False) F1 Ha F2 Hb → Gr (TM K) F1 Ha F2 Hb := fun g => g.mono fun _ z => z.elim
    have gAll : Gr (TM K) F H F26 H37 := ((((((no g4).trans (no g8)).trans g13).trans (no g16)).trans g23).trans (no g26)).trans (g33.trans (Gr.new g33.fh x337))
    exact q H37 ⟨Evl.Ex.refl _, gAll.ff.trans gAll.fh, fun _ _ h _ => h, gAll.kp⟩ (LamX.Tabs.ext t33 fun b o h => x337 b o h)
end

end Fc

set_option maxRecDepth 100000
set_option maxHeartbeats 4000000
namespace Fc
open PySem PySem.Spec PyProof.Rows L2 FcR
open Evl (Ex)
open FcM (Way Node Tab Pd)
/-! ### the while that is answered two hundred times (k76) -/
theorem builds_det7 {m : Nat} {st : List WIt} {rows fin : List Row} (b : Builds m st rows fin) : ∀ {m' : Nat} {fin' : List Row}, Builds m' st rows fin' → fin = fin' := by
  induction b with
  | done => intro m' fin' h; cases h; rfl
  | step ok h ih =>
    intro m' fin' h'
    cases h' with
    | step ok' h' => exact ih h'
theorem re_glue {t : Tab} {bits bits' : List Bool} {B : Nat} (hbb : ∀ (u : Nat) (x : Bool), bits[u]? = some x → bits'[u]? = some x) {N : Nat} {c d : FcM.Cfg} (h : FcM.Re t bits B N c d) : ∀ {M : Nat} {d' : FcM.Cfg}, FcM.Re t bits' B M d d' → ∃ L, FcM.Re t bits' B L c d' := by
  induction h with
  | stop h hb => exact fun h' => ⟨_, h'⟩
  | step h hb r ih =>
    intro M d' h'
    obtain ⟨L, re⟩ := ih h'
    refine ⟨L + 1, .step ?_ hb re⟩
    cases h with
    | ask ha hu dd => exact .ask ha (hbb _ _ hu) dd
    | on ha dd => exact .on ha dd
theorem bits_up {bits ys : List Bool} : ∀ (u : Nat) (x : Bool), bits[u]? = some x → (bits ++ ys)[u]? = some x := fun u x h => by
  rw [List.getElem?_append_left (List.getElem?_eq_some_iff.mp h).1]
  exact h
def cont7 : PyData := .tuple [.str "continue", .int 1]
def never7 : PyData := .tuple [.str "do", .str "never"]
def seq7 : PyData := .tuple [.str "seq", .tuple [cont7, never7]]
def if7 : PyData := .tuple [.str "if", .str "i", cont7, seq7]
def whl7 : PyData := .tuple [.str "while", .str "w", if7]
def rows7 : List Row := [⟨whl7, none, [1]⟩, ⟨if7, some 0, [2, 3]⟩, ⟨cont7, some 1, []⟩, ⟨seq7, some 1, [4, 5]⟩, ⟨cont7, some 3, []⟩, ⟨never7, some 3, []⟩]
structure T7 (t : Tab) : Prop where
  n0 : t.nd 0 = .whl 1
  n1 : t.nd 1 = .iff 2 3
  n2 : t.nd 2 = .cnt 1
  n3 : t.nd 3 = .seq [4, 5]
  n4 : t.nd 4 = .cnt 1
  p1 : t.pr 1 = some 0
  p2 : t.pr 2 = some 1
  p3 : t.pr 3 = some 1
  p4 : t.pr 4 = some 3
theorem t7 : T7 (tabOf rows7) := ⟨by kernel_rfl, by kernel_rfl, by kernel_rfl, by kernel_rfl, by kernel_rfl, rfl, rfl, rfl, rfl⟩
theorem ok7 (n : Nat) {d : PyData} {p : Option Nat} {a b c : Nat} (h : n < 400 ∧ a ≤ 100 ∧ c ≤ 25 ∧ isStm d (b : Int) = true) : okIt ⟨d, p, a, b, c⟩ n := h
theorem builds7 : Builds 6 [⟨whl7, none, 1, 0, 0⟩] [] rows7 := by
  refine .step (ok7 0 (by decide +kernel)) ?_
  show Builds 5 [⟨if7, some 0, 2, 1, 0⟩] [⟨whl7, none, []⟩] rows7
  refine .step (ok7 1 (by decide +kernel)) ?_
  show Builds 4 [⟨cont7, some 1, 3, 1, 0⟩, ⟨seq7, some 1, 3, 1, 0⟩] [⟨whl7, none, [1]⟩, ⟨if7, some 0, []⟩] rows7
  refine .step (ok7 2 (by decide +kernel)) ?_
  show Builds 3 [⟨seq7, some 1, 3, 1, 0⟩] [⟨whl7, none, [1]⟩, ⟨if7, some 0, [2]⟩, ⟨cont7, some 1, []⟩] rows7
  refine .step (ok7 3 (by decide +kernel)) ?_
  show Builds 2 [⟨cont7, some 3, 4, 1, 0⟩, ⟨never7, some 3, 4, 1, 0⟩] [⟨whl7, none, [1]⟩, ⟨if7, some 0, [2, 3]⟩, ⟨cont7, some 1, []⟩, ⟨seq7, some 1, []⟩] rows7
  refine .step (ok7 4 (by decide +kernel)) ?_
  show Builds 1 [⟨never7, some 3, 4, 1, 0⟩] [⟨whl7, none, [1]⟩, ⟨if7, some 0, [2, 3]⟩, ⟨cont7, some 1, []⟩, ⟨seq7, some 1, [4]⟩, ⟨cont7, some 3, []⟩] rows7
  refine .step (ok7 5 (by decide +kernel)) ?_
  exact .done rows7
section
variable {t : Tab} (T : T7 t) {bits : List Bool} {v : List Nat}
theorem T7.e0 (T : T7 t) : FcM.Ent t 0 0 0 := .here (fun l => by rw [T.n0]; exact fun z => nomatch z) (fun a b => by rw [T.n0]; exact fun z => nomatch z) (fun a b => by rw [T.n0]; exact fun z => nomatch z)
theorem T7.e1 (T : T7 t) : FcM.Ent t 0 1 1 := .here (fun l => by rw [T.n1]; exact fun z => nomatch z) (fun a b => by rw [T.n1]; exact fun z => nomatch z) (fun a b => by rw [T.n1]; exact fun z => nomatch z)
theorem T7.e2 (T : T7 t) : FcM.Ent t 0 2 2 := .here (fun l => by rw [T.n2]; exact fun z => nomatch z) (fun a b => by rw [T.n2]; exact fun z => nomatch z) (fun a b => by rw [T.n2]; exact fun z => nomatch z)
theorem T7.e4 (T : T7 t) : FcM.Ent t 0 4 4 := .here (fun l => by rw [T.n4]; exact fun z => nomatch z) (fun a b => by rw [T.n4]; exact fun z => nomatch z) (fun a b => by rw [T.n4]; exact fun z => nomatch z)
theorem T7.l1 (T : T7 t) : FcM.Lv t 1 (.cnt 1) [] (.inl 0) [] := .whlA T.p1 T.n0 rfl
theorem T7.l2 (T : T7 t) : FcM.Lv t 2 (.cnt 1) [] (.inl 0) [] := .iffU T.p2 T.n1 T.l1
theorem T7.l4 (T : T7 t) : FcM.Lv t 4 (.cnt 1) [] (.inl 0) [] := .seqU T.p4 T.n3 (.inl fun z => nomatch z) (.iffU T.p3 T.n1 T.l1)
theorem T7.a0 (T : T7 t) : FcM.asks (t.nd 0) = true := by rw [T.n0]; rfl
theorem T7.a1 (T : T7 t) : FcM.asks (t.nd 1) = true := by rw [T.n1]; rfl
/-- the while is answered with 1 -/
theorem T7.one (T : T7 t) : FcM.Re t (bits ++ [true]) 1000 1 ⟨.inl 0, [], bits.length, v⟩ ⟨.inl 1, [], bits.length + 1, v ++ [0]⟩ :=
  .step (.ask T.a0 (by simp) (.whlT T.n0 rfl T.e1)) (Nat.zero_le _) (.stop (.wait T.a1 (by simp)) (Nat.zero_le _))
/-- the if is answered -/
theorem T7.two (T : T7 t) (x : Bool) : ∃ c, FcM.Re t (bits ++ [x]) 1000 2 ⟨.inl 1, [], bits.length, v⟩ ⟨.inl 0, [], bits.length + 1, (v ++ [1]) ++ [c]⟩ := by
  cases x with
  | false => exact ⟨2, .step (FcM.Step.ask (x := false) T.a1 (by simp) (.iff T.n1 T.e2)) (Nat.zero_le _) (.step (.on (by rw [T.n2]; rfl) (.quiet (by rw [T.n2]; trivial) (by rw [T.n2]; exact T.l2))) (Nat.zero_le _) (.stop (.wait T.a0 (by simp)) (Nat.zero_le _)))⟩
  | true => exact ⟨4, .step (FcM.Step.ask (x := true) T.a1 (by simp) (.iff T.n1 (.seq T.n3 T.e4))) (Nat.zero_le _) (.step (.on (by rw [T.n4]; rfl) (.quiet (by rw [T.n4]; trivial) (by rw [T.n4]; exact T.l4))) (Nat.zero_le _) (.stop (.wait T.a0 (by simp)) (Nat.zero_le _)))⟩
end
def bits7 (x : Bool) : Nat → List Bool
  | 0 => []
  | k + 1 => (bits7 x k ++ [true]) ++ [x]
theorem bits7_len (x : Bool) : ∀ k, (bits7 x k).length = 2 * k
  | 0 => rfl
  | k + 1 => by
    show ((bits7 x k ++ [true]) ++ [x]).length = _
    rw [List.length_append, List.length_append, bits7_len x k]
    simp
    omega
theorem take7 (x : Bool) (k : Nat) : (bits7 x (k + 1)).take ((bits7 x (k + 1)).length - 1) = bits7 x k ++ [true] := by
  show ((bits7 x k ++ [true]) ++ [x]).take (((bits7 x k ++ [true]) ++ [x]).length - 1) = _
  have e : ((bits7 x k ++ [true]) ++ [x]).length - 1 = (bits7 x k ++ [true]).length := by simp
  rw [e, List.take_left']
  rfl
theorem runs7 {t : Tab} (T : T7 t) (x : Bool) : ∀ k, ∃ N v, FcM.Re t (bits7 x k) 1000 N ⟨.inl 0, [], 0, []⟩ ⟨.inl 0, [], (bits7 x k).length, v⟩ ∧ v.length = 3 * k
  | 0 => ⟨0, [], .stop (.wait T.a0 rfl) (Nat.zero_le _), rfl⟩
  | k + 1 => by
    obtain ⟨N, v, re, lv⟩ := runs7 T x k
    obtain ⟨L1, re1⟩ := re_glue bits_up re (T.one (bits := bits7 x k))
    have e : (bits7 x k).length + 1 = (bits7 x k ++ [true]).length := by simp
    rw [e] at re1
    obtain ⟨c, r2⟩ := T.two (bits := bits7 x k ++ [true]) (v := v ++ [0]) x
    obtain ⟨L2, re2⟩ := re_glue bits_up re1 r2
    have e2 : (bits7 x k ++ [true]).length + 1 = (bits7 x (k + 1)).length := by simp [bits7]
    rw [e2] at re2
    exact ⟨L2, _, re2, by simp; omega⟩
theorem sd7 : SD 4 0 whl7 := by
  have c1 : SD 2 1 cont7 := (sd_cnt (by decide) (by decide)).mono (by decide)
  have c2 : SD 1 1 cont7 := sd_cnt (by decide) (by decide)
  have n1 : SD 1 1 never7 := sd_leaf (by decide +kernel) (by decide +kernel) (fun k x r e => by cases e; decide +kernel) rfl
  have s1 : SD 2 1 seq7 := sd_seq (by simp) (by simp) fun p hp => by
    simp only [List.mem_cons, List.not_mem_nil, or_false] at hp
    rcases hp with rfl | rfl
    · exact c2
    · exact n1
  have i1 : SD 3 1 if7 := .mk (by decide +kernel) (by decide +kernel) (fun k x r e => by cases e; decide +kernel) (show 2 ≤ 3 by decide) fun p hp => by
    have hp : p ∈ [cont7, seq7] := hp
    simp only [List.mem_cons, List.not_mem_nil, or_false] at hp
    rcases hp with rfl | rfl
    · exact c1
    · exact s1
  exact .mk (by decide +kernel) (by decide +kernel) (fun k x r e => by cases e; decide +kernel) (show 1 ≤ 3 by decide) fun p hp => by
    have hp : p ∈ [if7] := hp
    rw [List.mem_singleton.mp hp]
    exact i1
theorem dc7 : ∃ N lp, DC 4 whl7 N rows7 lp := by
  obtain ⟨w, hw, ok⟩ := okS_sd sd7 (deep := 1) (blocks := 0) (by decide) (by decide)
  obtain ⟨N, fin, lp, dc⟩ := dc_of ok (by have : wMax 4 = 40 := rfl; omega) (hd_sd sd7)
  obtain rfl := builds_det7 dc.bd builds7
  exact ⟨N, lp, dc⟩
theorem Ses.kind {K : PySem.W.Frag} {F H : Hp} {A : CAd} {rows : List Row} {lp : Nat → Nat} {S : SesA} {bits : List Bool} {s : Nat} {ts : List Addr} {cf : FcM.Cfg} (R : Ses K F H A rows lp S bits s ts cf) : ∀ b, S.M b → (∃ l, H b = some (.lst l)) ∨ ∃ x y z, H b = some (.ins x y z) := fun b hb => by
  unfold SesA.M SesA.all at hb
  simp only [List.mem_cons, List.not_mem_nil, or_false] at hb
  rcases hb with rfl | rfl | rfl | rfl | rfl
  · exact .inr ⟨_, _, _, R.ob⟩
  · exact .inl ⟨_, R.gl⟩
  · exact .inl ⟨_, R.dl⟩
  · exact .inr ⟨_, _, _, R.ws.ob⟩
  · exact .inl ⟨_, R.ws.pl⟩
theorem Ses.tb {K : PySem.W.Frag} {F H H' : Hp} {A : CAd} {rows : List Row} {lp : Nat → Nat} {S : SesA} {bits : List Bool} {s : Nat} {ts : List Addr} {cf : FcM.Cfg} (R : Ses K F H A rows lp S bits s ts cf) (tb : Tb K H) (kp : ∀ b o, H b = some o → ¬ S.M b → H' b = some o) : Tb K H' := fun q hq => by
  obtain ⟨ps, h1, h2, h3⟩ := tb q hq
  refine ⟨ps, kp _ _ h1 (fun z => ?_), h2, fun pos cv hc => ?_⟩
  · rcases R.kind _ z with ⟨l, e⟩ | ⟨x, y, z, e⟩ <;> (rw [e] at h1; cases h1)
  obtain ⟨c, e1, e2⟩ := h3 pos cv hc
  refine ⟨c, e1, kp _ _ e2 fun z => ?_⟩
  unfold LamX.CodeO at e2
  rcases R.kind _ z with ⟨l, e⟩ | ⟨x, y, z, e⟩ <;> (rw [e] at e2; cases e2)
def sp_most (K : PySem.W.Frag) : Sp := fun vs H Q _ => ∃ x : Bool, vs = [bV x, .str "never"] ∧ Tb K H ∧ ∀ H', Q (.bl true) H'
section
variable {P : Program} {w : World} {h : Heap} {K : PySem.W.Frag} {mg : Str → Option Value} {base : Heap}
abbrev N_law_most_right : List Str := ["_law_value", "_law_text", "_law_code", "_law_k", "_law_session"]
theorem sc_law_most_right : FnScope N_law_most_right ["_law_value", "_law_text"] (defScope sd_law_most_right) := ⟨rfl, rfl, rfl, by decide +kernel, rfl, by decide +kernel, by decide +kernel⟩
theorem ok_law_most_right (TB : FcL.TabG K base mg tfL) (T : Tx w h K mg) : FcL.OkG P w K mg base 12 ("_law_most_right", none) ["_law_value", "_law_text"] (sp_most K) := by
  obtain ⟨fd, F⟩ := F_law_most_right T
  refine ⟨fd, ?_, F.bindsN (fun _ _ _ _ _ _ us hl => match us, hl with | [_, _], _ => rfl), F.kp⟩
  obtain ⟨fd_law_said, G_law_said, bi_law_said, kp_law_said⟩ := ok_law_said (P := P) T
  obtain ⟨fd_Code___init__, G_Code___init__, bi_Code___init__, kp_Code___init__⟩ := ok_Code___init__ (P := P) (base := base) T
  obtain ⟨fd_Session___init__, G_Session___init__, bi_Session___init__, kp_Session___init__⟩ := ok_Session___init__ (P := P) (base := base) T
  obtain ⟨fd_Session_answer, G_Session_answer, bi_Session_answer, kp_Session_answer⟩ := ok_Session_answer (P := P) (base := base) T
  obtain ⟨fd_Session_answers, G_Session_answers, bi_Session_answers, kp_Session_answers⟩ := ok_Session_answers (P := P) (base := base) T
  obtain ⟨fd_Session_now, G_Session_now, bi_Session_now, kp_Session_now⟩ := ok_Session_now (P := P) (base := base) T
  obtain ⟨fd_Session_undo, G_Session_undo, bi_Session_undo, kp_Session_undo⟩ := ok_Session_undo (P := P) (base := base) T
  refine FcL.okG (at_ := ("_law_most_right", none)) F sc_law_most_right (fun vs H Q E h => ?_) (fun cdv A outer s H vs Q E hgd hcd hr h => ?_)
  · obtain ⟨x, rfl, tb, q⟩ := h
    rfl
  · have hun : (A.deeper (envOfC "_law_most_right" (defScope sd_law_most_right) s.heap.objs.size (He.fAd K ("_law_most_right", none)) cdv)).units + 100 < cLine := by have := hr.un; omega
    obtain ⟨x, rfl, tb, q⟩ := h
    refine ⟨_, PSs.nox (pss_cons (ps_set (i := 2) sc_law_most_right.nd rfl (Or.inl rfl) (pe_make (mk_Code T) G_Code___init__ (hr.mono (by decide)) rfl (g_Code T) bi_Code___init__ .nil passF (pa_cons (pe_tup (pa_cons pe_str (pa_cons pe_str (pa_cons (pe_tup (pa_cons pe_str (pa_cons pe_str (pa_cons (pe_tup (pa_cons pe_str (pa_cons pe_int pa_nil))) (pa_cons (pe_tup (pa_cons pe_str (pa_cons (pe_tup (pa_cons (pe_tup (pa_cons pe_str (pa_cons pe_int pa_nil))) (pa_cons (pe_tup (pa_cons pe_str (pa_cons (pv 1) pa_nil))) pa_nil))) pa_nil))) pa_nil))))) pa_nil)))) pa_nil))) (pss_cons (ps_set (i := 4) sc_law_most_right.nd rfl (Or.inr rfl) (pe_make (mk_Session T) G_Session___init__ (hr.mono (by decide)) rfl (g_Session T) bi_Session___init__ .nil passF (pa_cons (pv 2) pa_nil))) (pss_cons (ps_for PassesOwn.never rfl (pi_range1 rfl (fr_range T) (pa_cons pe_int pa_nil)) (pg_name (i := 3) sc_law_most_right.nd rfl (Or.inl rfl)) (pss_cons (ps_expr (pe_meth (pv 4) (c_Session T) (me_Session_answer T) G_Session_answer (hr.mono (by decide)) bi_Session_answer .nil passF (pa_cons pe_int pa_nil))) (pss_one (ps_expr (pe_meth (pv 4) (c_Session T) (me_Session_answer T) G_Session_answer (hr.mono (by decide)) bi_Session_answer .nil passF (pa_cons (pv 0) pa_nil)))))) (pss_cons (ps_if (pt_cmpR (op_neM hr) (FcL.pe_callG (fun b _ => G_law_said b) (show _ = some [] from hgd) (hr.mono (by decide)) rfl (g_law_said T) kp_law_said bi_law_said (fun _ => rfl) (pa_cons (FcL.pe_lam (T := FcL.tabT K tfL) (P := (He.cT K ("_law_most_right", none)).2) (fr := ["_law_session"]) (js := [4]) (TB _ (List.mem_of_getElem? (i := 1) rfl)) hcd (FcL.tabT_m (i := 1) rfl) (FcL.tabT_u (tnd T) (i := 1) rfl) (by show NdefX.ndefB (defScope sd_law_most_right) _ _ = true; decide +kernel) rfl rfl) pa_nil)) (pe_tup (pa_cons pe_str (pa_cons pe_int pa_nil))) (nomark _)) (pss_one (ps_ret pe_bl)) pss_nil) (pss_cons (ps_if (pt_cmpR (op_neM hr) (FcL.pe_callG (fun b _ => G_law_said b) (show _ = some [] from hgd) (hr.mono (by decide)) rfl (g_law_said T) kp_law_said bi_law_said (fun _ => rfl) (pa_cons (FcL.pe_lam (T := FcL.tabT K tfL) (P := (He.cT K ("_law_most_right", none)).2) (fr := ["_law_session"]) (js := [4]) (TB _ (List.mem_of_getElem? (i := 1) rfl)) hcd (FcL.tabT_m (i := 1) rfl) (FcL.tabT_u (tnd T) (i := 1) rfl) (by show NdefX.ndefB (defScope sd_law_most_right) _ _ = true; decide +kernel) rfl rfl) pa_nil)) (pe_tup (pa_cons pe_str (pa_cons (pe_un un_neg pe_int) pa_nil))) (nomark _)) (pss_one (ps_ret pe_bl)) pss_nil) (pss_cons (ps_if (PW.pt (pw_or (pt_cmpR op_ne (pe_callB call_len_seq rfl (fr_len T) b_len (pa_cons (pe_meth0 (pv 4) (c_Session T) (me_Session_answers T) G_Session_answers (hr.mono (by decide)) bi_Session_answers .nil passF) pa_nil)) pe_int (nomark _)) (pw_or1 (pt_cmpR (op_neM hr) (pe_meth0 (pv 4) (c_Session T) (me_Session_now T) G_Session_now (hr.mono (by decide)) bi_Session_now .nil passF) (pe_tup (pa_cons pe_int (pa_cons (pe_lst pa_nil) pa_nil))) (nomark _))))) (pss_one (ps_ret pe_bl)) pss_nil) (pss_cons (ps_expr (pe_meth (pv 4) (c_Session T) (me_Session_undo T) G_Session_undo (hr.mono (by decide)) bi_Session_undo .nil passF (pa_cons pe_int pa_nil))) (pss_one (ps_ret (pe_and (pe_cmpR (op_eqM hr) (pe_meth0 (pv 4) (c_Session T) (me_Session_now T) G_Session_now (hr.mono (by decide)) bi_Session_now .nil passF) (pe_tup (pa_cons pe_int (pa_cons (pe_lst pa_nil) pa_nil))) (nomark _)) (pe_one (pe_cmpR op_isN (FcL.pe_callG (fun b _ => G_law_said b) (show _ = some [] from hgd) (hr.mono (by decide)) rfl (g_law_said T) kp_law_said bi_law_said (fun _ => rfl) (pa_cons (FcL.pe_lam (T := FcL.tabT K tfL) (P := (He.cT K ("_law_most_right", none)).2) (fr := ["_law_session"]) (js := [4]) (TB _ (List.mem_of_getElem? (i := 1) rfl)) hcd (FcL.tabT_m (i := 1) rfl) (FcL.tabT_u (tnd T) (i := 1) rfl) (by show NdefX.ndefB (defScope sd_law_most_right) _ _ = true; decide +kernel) rfl rfl) pa_nil)) pe_non (nomark _))))))))))))), ?_⟩
    refine ⟨sz (by simp), ?_⟩
    intro p1 n1
    generalize e1 : upd _ p1 _ = H1
    obtain ⟨x1, s1, o1⟩ := new_of e1 n1
    clear e1
    refine ⟨sz (by simp), ?_⟩
    intro p2 n2
    generalize e2 : upd _ p2 _ = H2
    obtain ⟨x2, s2, o2⟩ := new_of e2 n2
    clear e2
    refine ⟨_, rfl, sz (by simp), ?_⟩
    intro p3 n3
    generalize e3 : upd _ p3 _ = H3
    obtain ⟨x3, s3, o3⟩ := new_of e3 n3
    clear e3
    refine ⟨sz (by simp), ?_⟩
    intro p4 n4
    generalize e4 : upd _ p4 _ = H4
    obtain ⟨x4, s4, o4⟩ := new_of e4 n4
    clear e4
    refine ⟨sz (by simp), ?_⟩
    intro p5 n5
    generalize e5 : upd _ p5 _ = H5
    obtain ⟨x5, s5, o5⟩ := new_of e5 n5
    clear e5
    refine ⟨sz (by simp), ?_⟩
    intro p6 n6
    generalize e6 : upd _ p6 _ = H6
    obtain ⟨x6, s6, o6⟩ := new_of e6 n6
    clear e6
    refine ⟨sz (by simp), ?_⟩
    intro p7 n7
    generalize e7 : upd _ p7 _ = H7
    obtain ⟨x7, s7, o7⟩ := new_of e7 n7
    clear e7
    have x17 : Ex H H7 := x1.trans (x2.trans (x3.trans (x4.trans (x5.trans (x6.trans x7)))))
    have nL : ∀ b ∈ [p1, p2, p3, p4, p5, p6, p7], H b = none := fun b hb => by
      simp only [List.mem_cons, List.not_mem_nil, or_false] at hb
      rcases hb with rfl | rfl | rfl | rfl | rfl | rfl | rfl
      · exact n1
      · exact ex_none x1 n2
      · exact ex_none (x1.trans x2) n3
      · exact ex_none (x1.trans (x2.trans x3)) n4
      · exact ex_none (x1.trans (x2.trans (x3.trans x4))) n5
      · exact ex_none (x1.trans (x2.trans (x3.trans (x4.trans x5)))) n6
      · exact ex_none (x1.trans (x2.trans (x3.trans (x4.trans (x5.trans x6))))) n7
    have g7 := grow7 (F := hp0) (fun b o z => by cases z) x17 _ nL
    have ft7 : ∀ b, TM K b → frz hp0 H7 [p1, p2, p3, p4, p5, p6, p7] b = none := tm_grow7 (fun _ _ => rfl) tb nL
    have in7 : ∀ {b o}, b ∈ [p1, p2, p3, p4, p5, p6, p7] → H7 b = some o → frz hp0 H7 [p1, p2, p3, p4, p5, p6, p7] b = some o := fun hb e => by rw [frz_in hb]; exact e
    have y6 := x7
    have y5 := x6.trans y6
    have y4 := x5.trans y5
    have y3 := x4.trans y4
    have y2 := x3.trans y3
    have y1 := x2.trans y2
    have dv : Dp K (frz hp0 H7 [p1, p2, p3, p4, p5, p6, p7]) (.ref p7) whl7 := .tup (Evl.st_of (in7 (by simp) s7)) (.cons (.str _) (.cons (.str _) (.cons (.tup (Evl.st_of (in7 (by simp) (y6 _ _ s6))) (.cons (.str _) (.cons (.str _) (.cons (.tup (Evl.st_of (in7 (by simp) (y1 _ _ s1))) (.cons (.str _) (.cons (.int _) .nil))) (.cons (.tup (Evl.st_of (in7 (by simp) (y5 _ _ s5))) (.cons (.str _) (.cons (.tup (Evl.st_of (in7 (by simp) (y4 _ _ s4))) (.cons (.tup (Evl.st_of (in7 (by simp) (y2 _ _ s2))) (.cons (.str _) (.cons (.int _) .nil))) (.cons (.tup (Evl.st_of (in7 (by simp) (y3 _ _ s3))) (.cons (.str _) (.cons (.str _) .nil))) .nil))) .nil))) .nil))))) .nil)))
    have tb7 : Tb K H7 := LamX.Tabs.ext tb fun b o h => x17 b o h
    clear in7 nL
    generalize frz hp0 H7 [p1, p2, p3, p4, p5, p6, p7] = F7 at *
    obtain ⟨N, lp, dc⟩ := dc7
    intro q8 dx8 nq8 nd8 ne8
    generalize e8 : upd (upd _ dx8 _) q8 _ = H8
    obtain ⟨x8, hq8⟩ := make_of e8 nq8 nd8
    clear e8
    have xF8 : Ex F7 H8 := g7.fh.trans x8
    refine ⟨F7, q8, dx8, .ref p7, whl7, (fun e => ∃ k l, SD k l e), N, rows7, rfl, hq8, xF8, ex_none g7.fh nq8, dv, (fun e he => sd_parts he), ⟨_, _, sd7⟩, dc.bd, fun A F9 H9 eA g9 C9 => ⟨rfl, ?_⟩⟩
    subst eA
    have tb8 : Tb K H8 := LamX.Tabs.ext tb7 fun b o h => x8 b o h
    have ft9 : ∀ b, TM K b → F9 b = none := fun b hb => by
      obtain ⟨ps, hps⟩ := noT tb8 hb
      exact g9.nw b (by rw [hps]; exact fun z => nomatch z) (ft7 b hb) (fun z => by rw [z, hq8] at hps; cases hps)
    have tb9 : Tb K H9 := fun q hq => by
      obtain ⟨ps, h1, h2, h3⟩ := tb8 q hq
      refine ⟨ps, g9.kp _ _ h1 (fun e => by rw [e, hq8] at h1; cases h1), h2, fun pos cv hc => ?_⟩
      obtain ⟨c, e1, e2⟩ := h3 pos cv hc
      exact ⟨c, e1, g9.kp _ _ e2 (fun e => by rw [e, hq8] at e2; unfold LamX.CodeO at e2; cases e2)⟩
    -- Session(code)
    refine ⟨_, rfl, fun q10 dx10 nq10 nd10 ne10 => ?_⟩
    generalize e10 : upd (upd _ dx10 _) q10 _ = H10
    obtain ⟨x10, hq10⟩ := make_of e10 nq10 nd10
    clear e10
    have T7' := t7
    refine ⟨F9, A, rows7, lp, q10, dx10, 0, 0, 0, ⟨.inl 0, [], 0, []⟩, rfl, hq10, C9, dc.tw, g9.fh.trans x10, ex_none g9.fh nq10, T7'.e0, .stop (.wait T7'.a0 rfl) (Nat.zero_le _), Nat.zero_le _, (fun w z => nomatch z), fun F11 H11 S s11 ts11 eP fr g11 R11 => ⟨rfl, ?_⟩⟩
    subst eP
    have tb10 : Tb K H10 := LamX.Tabs.ext tb9 fun b o h => x10 b o h
    have tb11 : Tb K H11 := fun q hq => by
      obtain ⟨ps, h1, h2, h3⟩ := tb10 q hq
      refine ⟨ps, g11.kp _ _ h1 (fun e => by rw [e, hq10] at h1; cases h1), h2, fun pos cv hc => ?_⟩
      obtain ⟨c, e1, e2⟩ := h3 pos cv hc
      exact ⟨c, e1, g11.kp _ _ e2 (fun e => by rw [e, hq10] at e2; unfold LamX.CodeO at e2; cases e2)⟩
    have ft11 : ∀ b, TM K b → F11 b = none := fun b hb => by
      obtain ⟨ps, hps⟩ := noT tb10 hb
      exact g11.nw b (by rw [hps]; exact fun z => nomatch z) (ft9 b hb) (fun z => by rw [z, hq10] at hps; cases hps)
    refine ⟨100, rfl, by decide, by decide, ?_⟩
    refine for_it (walk_range (lo := 0) (n := 100)) (fun j σ' H' => j ≤ 100 ∧ ∃ (F' : Hp) (s' : Nat) (ts' : List Addr) (v : List Nat) (o3 : Option V), σ' = [some (bV x), some (.str "never"), some (.ref A.p), o3, some (.ref S.p)] ∧ Ses K F' H' A rows7 lp S (bits7 x j) s' ts' ⟨.inl 0, [], (bits7 x j).length, v⟩ ∧ v.length = 3 * j ∧ Tb K H' ∧ ∀ b, TM K b → F' b = none) ?_ ?_ ?_ ?_
    · exact ⟨Nat.zero_le _, F11, s11, ts11, [], _, rfl, R11, rfl, tb11, ft11⟩
    · exact fun _ _ _ _ _ => True.intro
    · rintro j vj σ' Ha H12 hj ⟨_, F12, s12, ts12, v, o3, rfl, R12, lv, tb12, ft12⟩ ⟨rfl, _⟩
      have hj : j < 100 := hj
      have lb := bits7_len x j
      refine ⟨_, rfl, S.p, _, _, rfl, R12.ob, fm_Session_answer _ _ _ _, ?_⟩
      refine ⟨F12, A, rows7, lp, S, bits7 x j, s12, ts12, _, true, 1, ⟨.inl 1, [], (bits7 x j).length + 1, v ++ [0]⟩, rfl, R12, ⟨0, rfl⟩, by omega, T7'.one, (by simp; omega), (fun w z => nomatch z), fun F13 H13 s13 ts13 v13 g13 R13 => ?_⟩
      have tb13 : Tb K H13 := R12.tb tb12 g13.kp
      have ft13 : ∀ b, TM K b → F13 b = none := fun b hb => by
        obtain ⟨ps, hps⟩ := noT tb12 hb
        exact g13.nw b (by rw [hps]; exact fun z => nomatch z) (ft12 b hb) (R12.noT tb12 b hb)
      have e1 : (bits7 x j).length + 1 = (bits7 x j ++ [true]).length := by simp
      obtain ⟨c, r2⟩ := T7'.two (bits := bits7 x j ++ [true]) (v := v ++ [0]) x
      refine ⟨_, rfl, S.p, _, _, rfl, R13.ob, fm_Session_answer _ _ _ _, _, rfl, ?_⟩
      refine ⟨F13, A, rows7, lp, S, bits7 x j ++ [true], s13, ts13, _, x, 2, ⟨.inl 0, [], (bits7 x j ++ [true]).length + 1, ((v ++ [0]) ++ [1]) ++ [c]⟩, rfl, R13, ⟨1, rfl⟩, (by simp; omega), (by rw [e1]; exact r2), (by simp; omega), (fun w z => nomatch z), fun F14 H14 s14 ts14 v14 g14 R14 => ?_⟩
      have tb14 : Tb K H14 := R13.tb tb13 g14.kp
      have ft14 : ∀ b, TM K b → F14 b = none := fun b hb => by
        obtain ⟨ps, hps⟩ := noT tb13 hb
        exact g14.nw b (by rw [hps]; exact fun z => nomatch z) (ft13 b hb) (R13.noT tb13 b hb)
      refine ⟨hj, F14, s14, ts14, ((v ++ [0]) ++ [1]) ++ [c], _, rfl, ?_, ?_, tb14, ft14⟩
      · have e2 : (bits7 x j ++ [true]).length + 1 = (bits7 x (j + 1)).length := by simp [bits7]
        rw [e2] at R14
        exact R14
      · simp
        omega
    rintro σ' H12 ⟨_, F12, s12, ts12, v, o3, rfl, R12, lv, tb12, ft12⟩
    have R12 : Ses K F12 H12 A rows7 lp S (bits7 x 100) s12 ts12 ⟨.inl 0, [], (bits7 x 100).length, v⟩ := R12
    have lb : (bits7 x 100).length = 200 := bits7_len x 100
    have et : (bits7 x 100).take ((bits7 x 100).length - 1) = bits7 x 99 ++ [true] := take7 x 99
    obtain ⟨N9, v9, re9, lv9⟩ := runs7 T7' x 99
    have lb9 : (bits7 x 99).length = 198 := bits7_len x 99
    generalize bits7 x 100 = bits at R12 lb et
    generalize bits7 x 99 = b99 at et re9 lb9
    have no1 : ∀ {b}, TM K b → ¬ S.M b := fun {b} hb => R12.noT tb12 b hb
    -- one too many
    refine ⟨tb12, fun f0 cl0 c0 dV0 H13 eT0 nn0 t13 nf0 la0 cp0 => ?_⟩
    obtain ⟨L0, hL0, la0⟩ : ∃ L, L = _ ∧ FcL.LamAt H13 f0 L [] := ⟨_, rfl, la0⟩
    have g13 : Gr (TM K) F12 H12 F12 H13 := gr_T R12.x ft12 eT0
    have R13 := R12.gr g13 (R12.noT tb12)
    refine fun base' gr => ?_
    refine ⟨f0, L0, [], ["_law_session"], fun ws H Q E => ∃ a, ws = [some a] ∧ sp_sansX K [a, .int 1] H Q E, [some (.ref S.p)], rfl, ?_, la0, ?_, .inl ⟨"LimitExceeded", "limit", "limit", .int 200, (by simp [saidT]), fun Q' E' ra => ⟨_, rfl, F12, A, rows7, lp, S, bits, s12, ts12, _, .int 1, rfl, R13, .inr (.inr ⟨true, 0, rfl, rfl, by omega, ra⟩)⟩, fun H14 t x14 nt st => ?_⟩⟩
    · subst hL0
      refine FcL.LOk.mono (j := 7) (FcL.lok_of (N := ["_law_session"]) (ps := []) (fr := ["_law_session"]) (NdefX.nscope_by (by dsimp only; decide +kernel)) rfl (fun s pm ctv us r z => z.elim (fun z => by cases r; obtain ⟨z1, _⟩ := z; dsimp only at z1; subst z1; exact .of_eq rfl) (fun z => by cases r; obtain ⟨_, _, _, _, z, _⟩ := z; exact absurd rfl z)) (fun A outer s H f ws Q E hr hl h => ?_)) (by decide)
      obtain ⟨a, rfl, F, A, rows, lp, S, bits, s, ts, cf, v, e, R, alt⟩ := h
      cases e
      exact ⟨_, (FcX.pe_methS (heldOf (ok_Session_answerX (P := P) (base := base') T)) (pv 0) (c_Session T) (me_Session_answer T) (hr.mono (by decide)) (takes_of rfl rfl rfl rfl) (pa_cons pe_int pa_nil)), _, rfl, S.p, _, _, rfl, R.ob, fm_Session_answer _ _ _ _, _, rfl, F, A, rows, lp, S, bits, s, ts, cf, _, rfl, R, alt⟩
    · subst hL0
      exact gr.cells _ cl0 _ _ rfl rfl cp0
    refine ⟨sz (by simp), ?_⟩
    intro p15 n15
    generalize e15 : upd _ p15 _ = H15
    obtain ⟨x15, s15, o15⟩ := new_of e15 n15
    clear e15
    refine ⟨.tuple [.str "limit", .int 200], .tuple [.str "limit", .int 200], .tup (Evl.st_of (x15 _ _ st)) (.cons (.str _) (.cons (.int _) .nil)), .tup (Evl.st_of s15) (.cons (.str _) (.cons (.int _) .nil)), (by kernel_rfl), (by kernel_rfl), by decide, _, rfl, itF (by decide +kernel) ?_⟩
    have g15 := g13.trans (Gr.new g13.fh (x14.trans x15))
    have t15 : Tb K H15 := LamX.Tabs.ext t13 fun b o h => x15 _ _ (x14 b o h)
    -- no answer
    refine ⟨t15, fun f1 cl1 c1 dV1 H16 eT1 nn1 t16 nf1 la1 cp1 => ?_⟩
    obtain ⟨L1, hL1, la1⟩ : ∃ L, L = _ ∧ FcL.LamAt H16 f1 L [] := ⟨_, rfl, la1⟩
    have g16 : Gr (TM K) F12 H12 F12 H16 := g15.trans (gr_T g15.fh ft12 eT1)
    have R16 := R12.gr g16 (R12.noT tb12)
    refine fun base' gr => ?_
    refine ⟨f1, L1, [], ["_law_session"], fun ws H Q E => ∃ a, ws = [some a] ∧ sp_sansX K [a, .int 2] H Q E, [some (.ref S.p)], rfl, ?_, la1, ?_, .inl ⟨"InvalidAnswers", "at", "answers", .int (-1), (by simp [saidT]), fun Q' E' ra => ⟨_, rfl, F12, A, rows7, lp, S, bits, s12, ts12, _, .int 2, rfl, R16, .inl ⟨.inl ⟨_, rfl, rfl⟩, ra⟩⟩, fun H17 t x17' nt st => ?_⟩⟩
    · subst hL1
      refine FcL.LOk.mono (j := 7) (FcL.lok_of (N := ["_law_session"]) (ps := []) (fr := ["_law_session"]) (NdefX.nscope_by (by dsimp only; decide +kernel)) rfl (fun s pm ctv us r z => z.elim (fun z => by cases r; obtain ⟨z1, _⟩ := z; dsimp only at z1; subst z1; exact .of_eq rfl) (fun z => by cases r; obtain ⟨_, _, _, _, z, _⟩ := z; exact absurd rfl z)) (fun A outer s H f ws Q E hr hl h => ?_)) (by decide)
      obtain ⟨a, rfl, F, A, rows, lp, S, bits, s, ts, cf, v, e, R, alt⟩ := h
      cases e
      exact ⟨_, (FcX.pe_methS (heldOf (ok_Session_answerX (P := P) (base := base') T)) (pv 0) (c_Session T) (me_Session_answer T) (hr.mono (by decide)) (takes_of rfl rfl rfl rfl) (pa_cons pe_int pa_nil)), _, rfl, S.p, _, _, rfl, R.ob, fm_Session_answer _ _ _ _, _, rfl, F, A, rows, lp, S, bits, s, ts, cf, _, rfl, R, alt⟩
    · subst hL1
      exact gr.cells _ cl1 _ _ rfl rfl cp1
    refine ⟨1, rfl, sz (by simp), ?_⟩
    intro p18 n18
    generalize e18 : upd _ p18 _ = H18
    obtain ⟨x18, s18, o18⟩ := new_of e18 n18
    clear e18
    refine ⟨.tuple [.str "answers", .int (-1)], .tuple [.str "answers", .int (-1)], .tup (Evl.st_of (x18 _ _ st)) (.cons (.str _) (.cons (.int _) .nil)), .tup (Evl.st_of s18) (.cons (.str _) (.cons (.int _) .nil)), (by kernel_rfl), (by kernel_rfl), by decide, _, rfl, itF (by decide +kernel) ?_⟩
    have g18 := g16.trans (Gr.new g16.fh (x17'.trans x18))
    have t18 : Tb K H18 := LamX.Tabs.ext t16 fun b o h => x18 _ _ (x17' b o h)
    have R18 := R12.gr g18 (R12.noT tb12)
    -- as it was
    refine ⟨_, rfl, S.p, _, _, rfl, R18.ob, fm_Session_answers _ _ _ _, F12, A, rows7, lp, S, bits, s12, ts12, _, rfl, R18, fun H19 p19 x19 n19 s19 => ?_⟩
    refine ⟨p19, _, rfl, .inl (Evl.sq_of s19), rfl, _, rfl, itF (by rw [List.length_map, lb] <;> rfl) ?_⟩
    have R19 := R18.new x19
    refine ⟨_, rfl, S.p, _, _, rfl, R19.ob, fm_Session_now _ _ _ _, F12, A, rows7, lp, S, bits, s12, ts12, _, rfl, R19, fun H20 tp l20 ts20 x20 nt20 nl20 tl20 s20 sl20 pa20 => ?_⟩
    refine ⟨sz (by simp), ?_⟩
    intro p21 n21
    generalize e21 : upd _ p21 _ = H21
    obtain ⟨x21, s21, o21⟩ := new_of e21 n21
    clear e21
    refine ⟨sz (by simp), ?_⟩
    intro p22 n22
    generalize e22 : upd _ p22 _ = H22
    obtain ⟨x22, s22, o22⟩ := new_of e22 n22
    clear e22
    obtain rfl : ts20 = [] := by cases pa20; rfl
    refine ⟨.tuple [.int 0, .list []], .tuple [.int 0, .list []], .tup (Evl.st_of (x22 _ _ (x21 _ _ s20))) (.cons (.int _) (.cons (.lst (Evl.sq_of (x22 _ _ (x21 _ _ sl20))) .nil) .nil)), .tup (Evl.st_of s22) (.cons (.int _) (.cons (.lst (Evl.sq_of (x22 _ _ s21)) .nil) .nil)), rfl, rfl, by decide, _, rfl, itF (by decide +kernel) ?_⟩
    have x1822 : Ex H18 H22 := x19.trans (x20.trans (x21.trans x22))
    have R22 := R18.new x1822
    have t22 : Tb K H22 := LamX.Tabs.ext t18 fun b o h => x1822 b o h
    -- undo
    obtain ⟨L9, re99⟩ := re_glue bits_up re9 (T7'.one (bits := b99))
    refine ⟨_, rfl, S.p, _, _, rfl, R22.ob, fm_Session_undo _ _ _ _, ?_⟩
    refine ⟨F12, A, rows7, lp, S, bits, s12, ts12, _, 1, 0, 0, L9, ⟨.inl 1, [], b99.length + 1, v9 ++ [0]⟩, rfl, R22, by omega, by omega, T7'.e0, (by rw [et]; exact re99), (by show b99.length + 1 = _; omega), (by simp; omega), (fun w z => nomatch z), fun F23 H23 S' s23 ts23 eP fr23 g23 R23 => ?_⟩
    rw [et] at R23
    have t23 : Tb K H23 := fun q hq => by
      obtain ⟨ps, h1, h2, h3⟩ := t22 q hq
      refine ⟨ps, g23.kp _ _ h1 (fun e => by rw [e, R22.ob] at h1; cases h1), h2, fun pos cv hc => ?_⟩
      obtain ⟨c, e1, e2⟩ := h3 pos cv hc
      exact ⟨c, e1, g23.kp _ _ e2 (fun e => by rw [e, R22.ob] at e2; unfold LamX.CodeO at e2; cases e2)⟩
    have ft23 : ∀ b, TM K b → F23 b = none := fun b hb => by
      obtain ⟨ps, hps⟩ := noT t22 hb
      exact g23.nw b (by rw [hps]; exact fun z => nomatch z) (ft12 b hb) (fun z => by rw [z, R22.ob] at hps; cases hps)
    rw [← eP]
    refine ⟨_, rfl, S'.p, _, _, rfl, R23.ob, fm_Session_now _ _ _ _, F23, A, rows7, lp, S', _, s23, ts23, _, rfl, R23, fun H24 tp24 l24 ts24 x24 nt24 nl24 tl24 s24 sl24 pa24 => ?_⟩
    refine ⟨sz (by simp), ?_⟩
    intro p25 n25
    generalize e25 : upd _ p25 _ = H25
    obtain ⟨x25, s25, o25⟩ := new_of e25 n25
    clear e25
    refine ⟨sz (by simp), ?_⟩
    intro p26 n26
    generalize e26 : upd _ p26 _ = H26
    obtain ⟨x26, s26, o26⟩ := new_of e26 n26
    clear e26
    obtain rfl : ts24 = [] := by cases pa24; rfl
    refine ⟨.tuple [.int 1, .list []], .tuple [.int 1, .list []], .tup (Evl.st_of (x26 _ _ (x25 _ _ s24))) (.cons (.int _) (.cons (.lst (Evl.sq_of (x26 _ _ (x25 _ _ sl24))) .nil) .nil)), .tup (Evl.st_of s26) (.cons (.int _) (.cons (.lst (Evl.sq_of (x26 _ _ s25)) .nil) .nil)), rfl, rfl, by decide, _, rfl, itT (by decide +kernel) ?_⟩
    have x236 : Ex H23 H26 := x24.trans (x25.trans x26)
    have R26 := R23.new x236
    have t26 : Tb K H26 := LamX.Tabs.ext t23 fun b o h => x236 b o h
    refine ⟨t26, fun f2 cl2 c2 dV2 H27 eT2 nn2 t27 nf2 la2 cp2 => ?_⟩
    obtain ⟨L2, hL2, la2⟩ : ∃ L, L = _ ∧ FcL.LamAt H27 f2 L [] := ⟨_, rfl, la2⟩
    have g27 : Gr (TM K) F23 H26 F23 H27 := gr_T R26.x ft23 eT2
    have R27 := R26.gr g27 (R26.noT t26)
    obtain ⟨c, r2⟩ := T7'.two (bits := b99 ++ [true]) (v := v9 ++ [0]) false
    have e1 : b99.length + 1 = (b99 ++ [true]).length := by simp
    refine fun base' gr => ?_
    refine ⟨f2, L2, [], ["_law_session"], fun ws H Q E => ∃ a, ws = [some a] ∧ sp_sans K [a, .int 0] H Q E, [some (.ref S'.p)], rfl, ?_, la2, ?_, .inr (.inr ⟨fun _ => True, fun Q' E' hG => ⟨_, rfl, F23, A, rows7, lp, S', b99 ++ [true], s23, ts23, _, false, 2, ⟨.inl 0, [], (b99 ++ [true]).length + 1, ((v9 ++ [0]) ++ [1]) ++ [c]⟩, rfl, R27, ⟨1, rfl⟩, (by simp; omega), (by rw [e1]; exact r2), (by simp; omega), (fun w z => nomatch z), fun F28 H28 s28 ts28 v28 g28 R28 => hG _ _ trivial⟩, fun H28 _ => ⟨rfl, q H28⟩⟩)⟩
    · subst hL2
      refine FcL.LOk.mono (j := 7) (FcL.lok_of (N := ["_law_session"]) (ps := []) (fr := ["_law_session"]) (NdefX.nscope_by (by dsimp only; decide +kernel)) rfl (fun s pm ctv us r z => z.elim (fun z => by cases r; obtain ⟨z1, _⟩ := z; dsimp only at z1; subst z1; exact .of_eq rfl) (fun z => by cases r; obtain ⟨_, _, _, _, z, _⟩ := z; exact absurd rfl z)) (fun A outer s H f ws Q E hr hl h => ?_)) (by decide)
      obtain ⟨a, rfl, F, A, rows, lp, S, bits, s, ts, cf, x, N, cf', e, R, alt⟩ := h
      injection e with e e2
      subst e
      exact ⟨_, (FcX.pe_methS (heldOf (ok_Session_answer (P := P) (base := base') T)) (pv 0) (c_Session T) (me_Session_answer T) (hr.mono (by decide)) (takes_of rfl rfl rfl rfl) (pa_cons pe_int pa_nil)), _, rfl, S.p, _, _, rfl, R.ob, fm_Session_answer _ _ _ _, _, rfl, F, A, rows, lp, S, bits, s, ts, cf, x, N, cf', (by rw [e2]), R, alt⟩
    · subst hL2
      exact gr.cells _ cl2 _ _ rfl rfl cp2
end

end Fc

set_option maxRecDepth 100000
set_option maxHeartbeats 4000000
namespace Fc
open PySem PySem.Spec PyProof.Rows L2 FcR
open Evl (Ex)
open FcM (Way Node Tab Pd Rs Wt)
theorem goU {t : Tab} {lp : Nat → Nat} {bits : List Bool} (W : t.WF lp) {h n : Nat} (hg : FcM.Hg t h n) (hn : n < t.len) {P : Pd} {u : Nat} {v : List Nat} (hP : P.length + h ≤ 900) (hu : u ≤ bits.length) : u ≤ (FcM.goF t bits h n P u v).2.1 ∧ (FcM.goF t bits h n P u v).2.1 ≤ bits.length := by
  have g := FcM.main (bits := bits) (B := 900) W h n hg hn P u v hP hu
  rcases hr : FcM.goF t bits h n P u v with ⟨x, u', v'⟩
  rw [hr] at g
  cases x with
  | inl x => exact ⟨g.1, g.2.1⟩
  | inr w => exact ⟨g.1, g.2.1⟩

end Fc

set_option maxRecDepth 100000
set_option maxHeartbeats 4000000
namespace Fc
open PySem PySem.Spec PyProof.Rows L2 FcR
open Evl (Ex)
def sp_oneV (K : PySem.W.Frag) : Sp := fun vs H Q _ => ∃ (p a : Addr) (xs : List V), vs = [.ref p, .ref a] ∧ Src H p ∧ H a = some (.lst xs) ∧ a ≠ p ∧ xs ≠ [] ∧ xs.length < 1000 ∧
  ∀ (H' : Hp) (x : V), x ∈ xs → Src H' p → (∀ b, b ≠ p → H' b = H b) → Q x H'
def sp_law (K : PySem.W.Frag) : Sp := fun vs H Q _ => ∃ (a : Addr) (ns : List Int), vs = [.ref a] ∧ ns.length ≤ 63 ∧ SqL K H a (ns.map V.int) ∧ ∀ H', Q (.bl true) H'
theorem cut_mem {xs : List V} {lo hi : Option Int} {x : V} (h : x ∈ cutV xs lo hi) : x ∈ xs := by
  unfold cutV at h
  exact List.mem_of_mem_drop (List.mem_of_mem_take h)
theorem src_kp {H H' : Hp} {p : Addr} (h : Src H p) (e : ∀ o, H p = some o → H' p = some o) : Src H' p := by
  obtain ⟨x, y, z, h⟩ := h
  exact ⟨x, y, z, e _ h⟩
section
variable {P : Program} {w : World} {h : Heap} {K : PySem.W.Frag} {mg : Str → Option Value} {base : Heap}
theorem ok_law_oneV (T : Tx w h K mg) : Ok P w K mg base 2 ("_law_one", none) ["_law_source", "_law_some"] (sp_oneV K) := by
  obtain ⟨fd, F⟩ := F_law_one T
  refine ⟨fd, ?_, F.bindsN (fun _ _ _ _ _ _ us hl => match us, hl with | [_, _], _ => rfl), F.kp⟩
  obtain ⟨fd_law_draw, G_law_draw, bi_law_draw, kp_law_draw⟩ := ok_law_draw (P := P) (base := base) T
  refine F.ok sc_law_one (fun vs H Q E h => ?_) (fun cdv A outer s H vs Q E hr h => ?_)
  · obtain ⟨p, a, xs, rfl, ⟨x, y, z, hp⟩, ha, hne, hk, hl, q⟩ := h
    rfl
  · obtain ⟨p, a, xs, rfl, ⟨x, y, z, hp⟩, ha, hne, hk, hl, q⟩ := h
    refine ⟨_, PSs.nox (pss_one (ps_ret (pe_ix ix_list (pv 1) (pe_call G_law_draw (hr.mono (by decide)) rfl (g_law_draw T) kp_law_draw bi_law_draw .nil passF (pa_cons (pv 0) (pa_cons (pe_callB call_len_seq rfl (fr_len T) b_len (pa_cons (pv 1) pa_nil)) pa_nil))) (fun _ _ => rfl)))), ?_⟩
    have lk : 0 < xs.length := List.length_pos_iff.mpr hk
    refine ⟨_, rfl, _, rfl, _, rfl, a, _, rfl, .inl (Evl.sq_of ha), ?_⟩
    refine ⟨p, x, y, z, _, rfl, hp, (by omega), (by omega), fun x' y' z' v v0 v1 => ?_⟩
    generalize e1 : upd _ p _ = H1
    obtain ⟨s1, o1⟩ := set_of e1
    clear e1
    obtain ⟨j, rfl⟩ : ∃ j : Nat, v = (j : Int) := ⟨v.toNat, by omega⟩
    have hj : j < xs.length := by omega
    have ha1 : H1 a = some (.lst xs) := by rw [o1 a hne]; exact ha
    refine ⟨a, _, _, xs[j], rfl, rfl, Evl.sq_of ha1, atI_nat (List.getElem?_eq_getElem hj), ?_⟩
    exact q H1 _ (List.getElem_mem hj) ⟨x', y', z', s1⟩ o1
end

end Fc

set_option maxRecDepth 100000
set_option maxHeartbeats 4000000
namespace Fc
open PySem PySem.Spec PyProof.Rows L2 FcR
open Evl (Ex)

open FcM (Way Node Tab Pd Rs Wt)
def sp_law76 (K : PySem.W.Frag) : Sp := fun vs H Q _ => ∃ (a : Addr) (ns : List Int), vs = [.ref a] ∧ ns.length ≤ 63 ∧ SqL K H a (ns.map V.int) ∧ Tb K H ∧ ∀ H', Q (.bl true) H'
theorem run7 {rows : List Row} {lp : Nat → Nat} {bits : List Bool} {w m : Nat} (W : TW rows lp) (hg : FcM.Hg (tabOf rows) m 0) (hm : m ≤ 900) (wg : FcM.Wg (tabOf rows) w 0) (hb : bits.length ≤ 20) (hw : w ≤ 400) : ∃ k e N cf, FcM.Ent (tabOf rows) k 0 e ∧ FcM.Re (tabOf rows) bits 1000 N ⟨.inl e, [], 0, []⟩ cf ∧ cf.vs.length ≤ 90000 ∧ ∀ w, cf.at_ = .inr w → FcM.WOk 0 w := by
  obtain ⟨k, e, N, cf, h1, h2, h3, h4, h5⟩ := FcM.whole (bits := bits) (B := 1000) W.wf hg (by omega)
  have bd := FcM.goF_bd (bits := bits) m 0 [] 0 [] w wg
  have gu := goU (bits := bits) (lp := lp) (v := []) W.wf hg W.wf.ne (P := []) (by simpa using hm) (Nat.zero_le _)
  rcases hr : FcM.goF (tabOf rows) bits m 0 [] 0 [] with ⟨r, u, v⟩
  rw [hr] at h3 h4 h5 bd gu
  obtain ⟨_, b2⟩ := bd
  dsimp only at b2 gu h3 h4 h5
  have b3 : w * (u + 1) ≤ 400 * 21 := Nat.mul_le_mul hw (by omega)
  refine ⟨k, e, N, cf, h1, h2, ?_, ?_⟩
  · rw [h3]
    simp at b2
    omega
  · intro w' hw'
    cases r with
    | inl x => rw [h5.1] at hw'; cases hw'
    | inr w => rw [h5.1] at hw'; cases hw'; exact h5.2
/-- one answer more -/
theorem more7 {rows : List Row} {lp : Nat → Nat} {bits : List Bool} {w m k e N : Nat} {cf : FcM.Cfg} (W : TW rows lp) (hg : FcM.Hg (tabOf rows) m 0) (hm : m ≤ 900) (wg : FcM.Wg (tabOf rows) w 0) (hb : bits.length ≤ 19) (hw : w ≤ 400) (he : FcM.Ent (tabOf rows) k 0 e) (re : FcM.Re (tabOf rows) bits 1000 N ⟨.inl e, [], 0, []⟩ cf) (x : Bool) : ∃ N' M cf', FcM.Re (tabOf rows) (bits ++ [x]) 1000 N' ⟨.inl e, [], 0, []⟩ cf' ∧ FcM.Re (tabOf rows) (bits ++ [x]) 1000 M cf cf' ∧ cf'.vs.length ≤ 90000 ∧ ∀ w, cf'.at_ = .inr w → FcM.WOk 0 w := by
  obtain ⟨k', e', N', cf', h1, h2, h3, h4⟩ := run7 (bits := bits ++ [x]) W hg hm wg (by simp; omega) hw
  obtain rfl := he.det h1
  obtain ⟨M, h5⟩ := FcM.Re.more W.wf bits_up re (fun s hs => by cases hs; exact FcM.ent_lt W.wf he W.wf.ne) h2
  exact ⟨N', M, cf', h2, h5, h3, h4⟩
theorem sq_kp {K : PySem.W.Frag} {H : Hp} {a : Addr} {xs : List V} (h : SqL K H a xs) : (∀ H', SqL K H' a xs) ∨ ∃ o, H a = some o ∧ (∀ ps, o ≠ .tbl ps) ∧ ∀ H', H' a = some o → SqL K H' a xs := by
  rcases h with (h | ⟨o, h⟩) | h
  · exact .inr ⟨_, h, (fun ps z => by cases z), fun H' e => .inl (.inl e)⟩
  · exact .inr ⟨_, h, (fun ps z => by cases z), fun H' e => .inl (.inr ⟨o, e⟩)⟩
  · exact .inl fun H' => .inr h
theorem bit_of {v : Int} (h0 : 0 ≤ v) (h1 : v < 2) : ∃ x : Bool, V.int v = bV x := by
  have : v = 0 ∨ v = 1 := by omega
  rcases this with rfl | rfl
  · exact ⟨false, rfl⟩
  · exact ⟨true, rfl⟩

section
variable {P : Program} {w : World} {h : Heap} {K : PySem.W.Frag} {mg : Str → Option Value} {base : Heap}
abbrev N_law : List Str := ["_law_script", "_law_cell", "_law_source", "_law_code", "_law_session", "_law_answers", "_law_turn"]
theorem sc_law : FnScope N_law ["_law_script"] (defScope sd_law) := ⟨rfl, rfl, rfl, by decide +kernel, rfl, by decide +kernel, by decide +kernel⟩
theorem okF_law (TB : FcL.TabG K base mg tfL) (T : Tx w h K mg) : ∃ fd, FcL.FnG P w K mg base 13 (He.fAd K ("law", none)) fd ["_law_script"] (sp_law76 K) ∧ Binds K fd ["_law_script"] [] ∧ PySem.W.keepIn K (.ref (He.fAd K ("law", none))) = true ∧ FunD K "law" "law" (defArgs sd_law) (defBody sd_law) (defScope sd_law) [] [] (He.fAd K ("law", none)) fd := by
  obtain ⟨fd, F⟩ := F_law T
  refine ⟨fd, ?_, F.bindsN (fun _ _ _ _ _ _ us hl => match us, hl with | [_], _ => rfl), F.kp, F⟩
  obtain ⟨fd_law_cell_at, G_law_cell_at, bi_law_cell_at, kp_law_cell_at⟩ := ok_law_cell_at (P := P) (base := base) T
  obtain ⟨fd_law_draw, G_law_draw, bi_law_draw, kp_law_draw⟩ := ok_law_draw (P := P) (base := base) T
  obtain ⟨fd_law_source_of, G_law_source_of, bi_law_source_of, kp_law_source_of⟩ := ok_law_source_of (P := P) (base := base) T
  obtain ⟨fd_run, G_run, bi_run, kp_run⟩ := ok_run (P := P) (base := base) T
  obtain ⟨fd_Code___init__, G_Code___init__, bi_Code___init__, kp_Code___init__⟩ := ok_Code___init__ (P := P) (base := base) T
  obtain ⟨fd_Session___init__, G_Session___init__, bi_Session___init__, kp_Session___init__⟩ := ok_Session___init__ (P := P) (base := base) T
  obtain ⟨fd_Session_answer, G_Session_answer, bi_Session_answer, kp_Session_answer⟩ := ok_Session_answer (P := P) (base := base) T
  obtain ⟨fd_law_statement, G_law_statement, bi_law_statement, kp_law_statement⟩ := ok_stm (P := P) (base := base) T 5
  obtain ⟨fd_law_refused_right, G_law_refused_right, bi_law_refused_right, kp_law_refused_right⟩ := ok_law_refused_right (P := P) (base := base) TB T
  obtain ⟨fd_law_most_right, G_law_most_right, bi_law_most_right, kp_law_most_right⟩ := ok_law_most_right (P := P) (base := base) TB T
  refine FcL.okG (at_ := ("law", none)) F sc_law (fun vs H Q E h => ?_) (fun cdv A outer s H vs Q E hgd hcd hr h => ?_)
  · obtain ⟨a, ns, rfl, hl, hs, tb, q⟩ := h
    rfl
  · have hun : (A.deeper (envOfC "law" (defScope sd_law) s.heap.objs.size (He.fAd K ("law", none)) cdv)).units + 100 < cLine := by have := hr.un; omega
    obtain ⟨a, ns, rfl, hl, hs, tb, q⟩ := h
    refine ⟨_, PSs.nox (pss_cons (ps_for PassesOwn.never rfl (pi_list (pe_op op_cat (pe_lst (pa_cons (pe_call G_law_cell_at (hr.mono (by decide)) rfl (g_law_cell_at T) kp_law_cell_at bi_law_cell_at .nil passF (pa_cons (pv 0) (pa_cons pe_int pa_nil))) pa_nil)) (pe_slice sl_list (pv 0) (po_some pe_int) (po_some pe_int)))) (pg_name (i := 1) sc_law.nd rfl (Or.inl rfl)) (pss_cons (ps_set (i := 2) sc_law.nd rfl (Or.inl rfl) (pe_call G_law_source_of (hr.mono (by decide)) rfl (g_law_source_of T) kp_law_source_of bi_law_source_of .nil passF (pa_cons (pv 1) pa_nil))) (pss_cons (ps_set (i := 3) sc_law.nd rfl (Or.inl rfl) (pe_make (mk_Code T) G_Code___init__ (hr.mono (by decide)) rfl (g_Code T) bi_Code___init__ .nil passF (pa_cons (pe_call G_law_statement (hr.mono (by decide)) rfl (g_law_statement T) kp_law_statement bi_law_statement .nil passF (pa_cons (pv 2) (pa_cons (pe_op op_add pe_int (pe_call G_law_draw (hr.mono (by decide)) rfl (g_law_draw T) kp_law_draw bi_law_draw .nil passF (pa_cons (pv 2) (pa_cons pe_int pa_nil)))) (pa_cons pe_int pa_nil)))) pa_nil))) (pss_cons (ps_par rfl sc_law.nd (i := 4) (j := 5) rfl rfl (by decide) rfl rfl (pa_cons (pe_make (mk_Session T) G_Session___init__ (hr.mono (by decide)) rfl (g_Session T) bi_Session___init__ .nil passF (pa_cons (pv 3) pa_nil)) (pa_cons (pe_lst pa_nil) pa_nil)) (by rfl)) (pss_one (ps_for PassesOwn.never rfl (pi_range1 rfl (fr_range T) (pa_cons pe_int pa_nil)) (pg_name (i := 6) sc_law.nd rfl (Or.inl rfl)) (pss_cons (ps_if (pt_not (pt_val (FcL.pe_callGd G_law_refused_right (show _ = some [] from hgd) (hr.mono (by decide)) rfl (g_law_refused_right T) kp_law_refused_right bi_law_refused_right (pa_cons (pv 4) (pa_cons (pv 3) (pa_cons (pv 5) pa_nil)))))) (pss_one (ps_ret pe_bl)) pss_nil) (pss_one (ps_if (pt_cmpR op_eq (pe_fld (pe_call G_run (hr.mono (by decide)) rfl (g_run T) kp_run bi_run .nil passF (pa_cons (pv 3) (pa_cons (pv 5) pa_nil))) rfl) pe_str (nomark _)) (pss_cons (ps_expr (pe_bm PySem.F.plainAttrs_list PySem.F.slot_list_append PySem.F.type_list_append mt_append (pv 5) (pa_cons (pe_call G_law_draw (hr.mono (by decide)) rfl (g_law_draw T) kp_law_draw bi_law_draw .nil passF (pa_cons (pv 2) (pa_cons pe_int pa_nil))) pa_nil))) (pss_one (ps_expr (pe_meth (pv 4) (c_Session T) (me_Session_answer T) G_Session_answer (hr.mono (by decide)) bi_Session_answer .nil passF (pa_cons (pe_ix ix_list (pv 5) (pe_un un_neg pe_int) (fun _ _ => rfl)) pa_nil))))) pss_nil))))))))) (pss_one (ps_ret (FcL.pe_callGd G_law_most_right (show _ = some [] from hgd) (hr.mono (by decide)) rfl (g_law_most_right T) kp_law_most_right bi_law_most_right (pa_cons (pe_call G_law_draw (hr.mono (by decide)) rfl (g_law_draw T) kp_law_draw bi_law_draw .nil passF (pa_cons (pe_call G_law_source_of (hr.mono (by decide)) rfl (g_law_source_of T) kp_law_source_of bi_law_source_of .nil passF (pa_cons (pe_call G_law_cell_at (hr.mono (by decide)) rfl (g_law_cell_at T) kp_law_cell_at bi_law_cell_at .nil passF (pa_cons (pv 0) (pa_cons pe_int pa_nil))) pa_nil)) (pa_cons pe_int pa_nil))) (pa_cons pe_str pa_nil)))))), ?_⟩
    refine ⟨_, rfl, a, ns, 0, rfl, hs, sz (by simp), ?_⟩
    intro p1 n1
    generalize e1 : upd _ p1 _ = H1
    obtain ⟨x1, s1, o1⟩ := new_of e1 n1
    clear e1
    have hs1 := Evl.ex_l x1 hs
    refine ⟨_, rfl, 1, rfl, 5, rfl, a, _, rfl, hs1, ?_⟩
    intro p2 n2
    generalize e2 : upd _ p2 _ = H2
    obtain ⟨x2, s2, o2⟩ := new_of e2 n2
    clear e2
    have hc2 : (cutV (ns.map V.int) (some 1) (some 5)).length ≤ 63 := Nat.le_trans (cutV_length ..) (by rw [List.length_map]; exact hl)
    refine ⟨p1, p2, _, _, rfl, rfl, x2 _ _ s1, s2, sz (by simp; omega), ?_⟩
    intro p3 n3
    generalize e3 : upd _ p3 _ = H3
    obtain ⟨x3, s3, o3⟩ := new_of e3 n3
    clear e3
    have isI : ∀ (i : Nat) (x : V), ([V.int (ns.getD 0 0)] ++ cutV (ns.map V.int) (some 1) (some 5))[i]? = some x → ∃ c, x = .int c := fun i x hx => by
      have hm := List.mem_of_getElem? hx
      rcases List.mem_append.mp hm with h1 | h1
      · exact ⟨_, List.mem_singleton.mp h1⟩
      · obtain ⟨c, _, e⟩ := List.mem_map.mp (cut_mem h1)
        exact ⟨c, e.symm⟩
    generalize [V.int (ns.getD 0 0)] ++ cutV (ns.map V.int) (some 1) (some 5) = cs at s3 isI
    have tb3 : Tb K H3 := LamX.Tabs.ext tb fun b o hb => x3 _ _ (x2 _ _ (x1 _ _ hb))
    have hs3 := Evl.ex_l (x2.trans x3) hs1
    have noTl : ∀ {Hx : Hp} {b : Addr} {o : HO}, Tb K Hx → Hx b = some o → (∀ ps, o ≠ .tbl ps) → ¬ TM K b := fun t e n z => by
      obtain ⟨ps, hps⟩ := noT t z
      rw [e] at hps
      cases hps
      exact n ps rfl
    have n3T : ¬ TM K p3 := noTl tb3 s3 fun ps z => by cases z
    refine ⟨p3, rfl, ⟨_, Evl.sq_of s3⟩, ?_⟩
    refine for_it (walk_list (xs := cs)) (fun i σ' H' => (∀ b o, H3 b = some o → ¬ TM K b → H' b = some o) ∧ Tb K H' ∧ ∃ u1 u2 u3 u4 u5 u6, σ' = [some (.ref a), u1, u2, u3, u4, u5, u6]) ?_ ?_ ?_ ?_
    · exact ⟨fun _ _ h _ => h, tb3, _, _, _, _, _, _, rfl⟩
    · exact fun i σ' H' _ ⟨k, _⟩ => Evl.sq_of (k _ _ s3 n3T)
    rotate_left
    · rintro σ' H' ⟨k3, tb', u1, u2, u3, u4, u5, u6, rfl⟩
      have hs' : SqL K H' a (ns.map V.int) := by
        rcases sq_kp hs3 with h | ⟨o, h1, h2, h3⟩
        · exact h H'
        · exact h3 H' (k3 _ _ h1 (noTl tb3 h1 h2))
      refine ⟨_, rfl, a, ns, 0, rfl, hs', _, rfl, fun pS tx ty nS => ?_⟩
      generalize eS : upd _ pS _ = HS
      obtain ⟨xS, sS, oS⟩ := new_of eS nS
      clear eS
      refine ⟨pS, tx, ty, 0, 2, rfl, sS, (by decide), (by decide), fun sx' sy' sz' v v0 v1 => ?_⟩
      generalize e5 : upd _ pS _ = H5
      obtain ⟨s5, o5⟩ := set_of e5
      clear e5
      obtain ⟨x, hx⟩ := bit_of v0 v1
      have tbS : Tb K HS := LamX.Tabs.ext tb' fun b o hb => xS _ _ hb
      exact ⟨x, (by rw [hx] <;> rfl), tb_kp tbS ⟨_, _, _, sS⟩ fun b o hb hn => by rw [o5 b hn]; exact hb, q⟩
    rintro i v σ' Ha Hb hi ⟨k3, tbH, u1, u2, u3, u4, u5, u6, rfl⟩ ⟨rfl, hv⟩
    obtain ⟨c, rfl⟩ := isI i v hv
    refine ⟨_, rfl, c, rfl, fun p4 sx sy n4 => ?_⟩
    generalize e4 : upd _ p4 _ = H4
    obtain ⟨x4, s4, o4⟩ := new_of e4 n4
    clear e4
    have r4 : Gr (fun b => b = p4) hp0 H4 hp0 H4 := Gr.refl (fun b o z => by cases z)
    have tb4 : Tb K H4 := LamX.Tabs.ext tbH fun b o hb => x4 _ _ hb
    refine ⟨_, rfl, _, rfl, p4, sx, sy, 0, 4, rfl, s4, (by decide), (by decide), fun sx' sy' sz' v v0 v1 => ?_⟩
    generalize e5 : upd _ p4 _ = H5
    obtain ⟨s5, o5⟩ := set_of e5
    clear e5
    obtain ⟨n, rfl⟩ : ∃ n : Nat, v = (n : Int) := ⟨v.toNat, by omega⟩
    have en : (2 : Int) + (n : Int) = ((2 + n : Nat) : Int) := by omega
    have g5 := r4.trans (Gr.set r4.fh rfl rfl o5)
    refine ⟨_, _, rfl, rfl, hp0, p4, 2 + n, 0, (by show [V.ref p4, V.int (2 + (n : Int)), V.int 0] = _; rw [en] <;> rfl), by omega, g5.fh, rfl, ⟨_, _, _, s5⟩, by omega, fun F6 H6 vd d g6 f6 s6 dvd sd => ?_⟩
    have sd6 : SD 5 0 d := sd.mono (by omega)
    have g46 := g5.trans g6
    obtain ⟨w8, hw8, ok8⟩ := okS_sd sd6 (deep := 1) (blocks := 0) (by decide) (by decide)
    obtain ⟨N, fin, lp, dc⟩ := dc_of ok8 (by have : wMax 5 = 121 := rfl; omega) (hd_sd sd6)
    obtain ⟨wt, hwt, wg⟩ := dc.wg
    have hg := dc.hg
    have W := dc.tw
    intro q7 dx nq nd ne
    generalize e7 : upd (upd _ dx _) q7 _ = H7
    obtain ⟨x7, hq7⟩ := make_of e7 nq nd
    clear e7
    have g7 := g46.trans (Gr.new g46.fh x7)
    refine ⟨F6, q7, dx, vd, d, (fun e => ∃ k l, SD k l e), N, fin, rfl, hq7, g7.fh, ex_none g46.fh nq, dvd, (fun e he => sd_parts he), ⟨_, _, sd6⟩, dc.bd, fun A F8 H8 eA g8 C8 => ⟨rfl, ?_⟩⟩
    subst eA
    have q4 : p4 ≠ A.p := fun z => by obtain ⟨_, _, _, z2⟩ := s6; rw [z, nq] at z2; cases z2
    have nA4 : H4 A.p = none := by
      cases z : H4 A.p with
      | none => rfl
      | some o => rw [g46.kp A.p o z (fun y => q4 y.symm)] at nq; cases nq
    have g48 : Gr (fun b => b = p4) hp0 H4 F8 H8 := g7.hide g8 fun x hx => .inl (by rw [hx]; exact nA4)
    have hs7 : Src H7 p4 := src_kp s6 fun o h => x7 _ _ h
    have f8 : F8 p4 = none := g8.nw p4 (by obtain ⟨y1, y2, y3, y4⟩ := hs7; rw [y4]; exact fun z => nomatch z) f6 q4
    have hs8 : Src H8 p4 := src_kp hs7 fun o h => g8.kp _ _ h q4
    have tb8 : Tb K H8 := tb_kp tb4 ⟨_, _, _, s4⟩ fun b o hb hn => g48.kp b o hb hn
    have ft8 : ∀ b, TM K b → F8 b = none := fun b hb => by
      obtain ⟨ps, hps⟩ := noT tb4 hb
      exact g48.nw b (by rw [hps]; exact fun z => nomatch z) rfl (fun z => by rw [z, s4] at hps; cases hps)
    have kp8 : ∀ b o, Hb b = some o → H8 b = some o := fun b o hb => g48.kp b o (x4 _ _ hb) fun z => by rw [z, n4] at hb; cases hb
    -- Session(code), []
    obtain ⟨k, e, N0, cf0, he, re0, hv0, hok0⟩ := run7 (bits := []) W hg (by decide) wg (by simp) hwt
    refine ⟨_, rfl, fun q9 dx9 nq9 nd9 ne9 => ?_⟩
    generalize e9 : upd (upd _ dx9 _) q9 _ = H9
    obtain ⟨x9, hq9⟩ := make_of e9 nq9 nd9
    clear e9
    refine ⟨F8, A, fin, lp, q9, dx9, k, e, N0, cf0, rfl, hq9, C8, W, g48.fh.trans x9, ex_none g48.fh nq9, he, re0, hv0, hok0, fun F10 H10 S s10 ts10 eP fr g10 R10 => ⟨rfl, ?_⟩⟩
    subst eP
    have tb9 : Tb K H9 := LamX.Tabs.ext tb8 fun b o h => x9 b o h
    have tb10 : Tb K H10 := fun q hq => by
      obtain ⟨ps, h1, h2, h3⟩ := tb9 q hq
      refine ⟨ps, g10.kp _ _ h1 (fun e => by rw [e, hq9] at h1; cases h1), h2, fun pos cv hc => ?_⟩
      obtain ⟨c, e1, e2⟩ := h3 pos cv hc
      exact ⟨c, e1, g10.kp _ _ e2 (fun e => by rw [e, hq9] at e2; unfold LamX.CodeO at e2; cases e2)⟩
    have ft10 : ∀ b, TM K b → F10 b = none := fun b hb => by
      obtain ⟨ps, hps⟩ := noT tb9 hb
      exact g10.nw b (by rw [hps]; exact fun z => nomatch z) (ft8 b hb) (fun z => by rw [z, hq9] at hps; cases hps)
    have nS8 : ∀ b, S.M b → H8 b = none := fun b hb => by
      rcases fr b hb with z | z
      · rw [z]; exact nq9
      · exact ex_none x9 z
    have nS : ∀ b, S.M b → Hb b = none := fun b hb => by
      cases z : Hb b with
      | none => rfl
      | some o => have y := nS8 b hb; rw [kp8 b o z] at y; cases y
    have nS4 : ¬ S.M p4 := fun hb => by
      obtain ⟨y1, y2, y3, y4⟩ := hs8
      have y := nS8 p4 hb
      rw [y4] at y
      cases y
    have p4q : p4 ≠ S.p := fun z => by
      obtain ⟨y1, y2, y3, y4⟩ := hs8
      rw [z, nq9] at y4
      cases y4
    have hs10 : Src H10 p4 := src_kp hs8 fun o h => g10.kp _ _ (x9 _ _ h) p4q
    have f10 : F10 p4 = none := g10.nw p4 (by obtain ⟨y1, y2, y3, y4⟩ := hs8; rw [x9 _ _ y4]; exact fun z => nomatch z) f8 p4q
    have kp10 : ∀ b o, Hb b = some o → H10 b = some o := fun b o hb => g10.kp b o (x9 _ _ (kp8 b o hb)) fun z => by have y := kp8 b o hb; rw [z, nq9] at y; cases y
    refine ⟨sz (by simp), ?_⟩
    intro p11 n11
    generalize e11 : upd _ p11 _ = H11
    obtain ⟨x11, s11, o11⟩ := new_of e11 n11
    clear e11
    have nS11 : ¬ S.M p11 := fun hb => (R10.in_ p11 hb).1 n11
    have nb11 : Hb p11 = none := by
      cases z : Hb p11 with
      | none => rfl
      | some o => rw [kp10 _ _ z] at n11; cases n11
    have p411 : p4 ≠ p11 := fun z => by obtain ⟨y1, y2, y3, y4⟩ := hs10; rw [z, n11] at y4; cases y4
    refine ⟨_, _, rfl, 10, rfl, by decide, by decide, ?_⟩
    refine for_it (walk_range (lo := 0) (n := 10)) (fun j σ' H' => j ≤ 10 ∧ ∃ (F' : Hp) (s' : Nat) (ts' : List Addr) (bits : List Bool) (cf : FcM.Cfg) (N' : Nat) (o6 : Option V), σ' = [some (.ref a), some (.int c), some (.ref p4), some (.ref A.p), some (.ref S.p), some (.ref p11), o6] ∧ Ses K F' H' A fin lp S bits s' ts' cf ∧ FcM.Re (tabOf fin) bits 1000 N' ⟨.inl e, [], 0, []⟩ cf ∧ bits.length ≤ j ∧ H' p11 = some (.lst (bits.map bV)) ∧ F' p11 = none ∧ Src H' p4 ∧ F' p4 = none ∧ (∀ b o, Hb b = some o → ¬ TM K b → H' b = some o) ∧ Tb K H' ∧ ∀ b, TM K b → F' b = none) ?_ ?_ ?_ ?_
    · exact ⟨Nat.zero_le _, F10, s10, ts10, [], cf0, N0, _, rfl, R10.new x11, re0, Nat.le_refl _, s11, ex_none R10.x n11, src_kp hs10 fun o h => x11 _ _ h, f10, fun b o hb _ => x11 _ _ (kp10 b o hb), LamX.Tabs.ext tb10 (fun b o h => x11 b o h), ft10⟩
    · exact fun _ _ _ _ _ => True.intro
    rotate_left
    · rintro σ' H' ⟨_, F', s', ts', bits, cf, N', o6, rfl, R, re, lb, l11, f11, sr, f4, kpH, tb', ft'⟩
      exact ⟨fun b o hb hn => kpH b o (k3 b o hb hn) hn, tb', _, _, _, _, _, _, rfl⟩
    rintro j vj σ' Hc H12 hj ⟨_, F', s', ts', bits, cf, N', o6, rfl, R, re, lb, l11, f11, sr, f4, kpH, tb', ft'⟩ ⟨rfl, _⟩
    have hj : j < 10 := hj
    -- what is refused
    have gx : Gr (fun b => b = p11) F' H12 (upd F' p11 (.lst (bits.map bV))) H12 := ⟨exu (Evl.Ex.refl _) f11, fun b o hb => by
      by_cases z : b = p11
      · rw [z, upd_same] at hb; cases hb; rw [z]; exact l11
      · rw [upd_ne z] at hb; exact R.x b o hb, fun b _ h2 h3 => by rw [upd_ne h3]; exact h2, fun b o h _ => h⟩
    have Rx := R.gr gx fun b z => by rw [z]; exact nS11
    have n11T : ¬ TM K p11 := noTl tb' l11 fun ps z => by cases z
    have ftx : ∀ b, TM K b → upd F' p11 (.lst (bits.map bV)) b = none := fun b hb => by rw [upd_ne (fun z => n11T (by rw [← z]; exact hb))]; exact ft' b hb
    have n4T : ¬ TM K p4 := by obtain ⟨y1, y2, y3, y4⟩ := sr; exact noTl tb' y4 fun ps z => by cases z
    refine ⟨_, rfl, _, rfl, _, rfl, upd F' p11 (.lst (bits.map bV)), A, fin, lp, S, bits, s', ts', cf, p11, k, e, N', rfl, Rx, upd_same, by omega, he, re, ftx, tb', fun H13 g13 tb13 => ⟨_, rfl, itF rfl ?_⟩⟩
    have g13' : Gr (TM K) F' H12 F' H13 := ⟨Evl.Ex.refl _, gx.ff.trans g13.fh, fun _ _ h _ => h, g13.kp⟩
    have R13 := R.gr g13' (R.noT tb')
    have l13 := g13.kp _ _ l11 n11T
    have sr13 : Src H13 p4 := src_kp sr fun o h => g13.kp _ _ h n4T
    -- run(code, answers).end == "wait"
    refine ⟨_, rfl, _, rfl, upd F' p11 (.lst (bits.map bV)), A, fin, lp, p11, bits, k, e, N', cf, rfl, Rx.c, W, g13.fh, Evl.sq_of upd_same, by omega, he, re, R.nv, R.en, fun H14 q14 dx14 p14 x14 nq14 np14 hq14 hp14 => ?_⟩
    have R14 := R13.new x14
    have tb14 : Tb K H14 := LamX.Tabs.ext tb13 fun b o h => x14 b o h
    have kp14 : ∀ b o, Hb b = some o → ¬ TM K b → H14 b = some o := fun b o hb hn => x14 _ _ (g13.kp b o (kpH b o hb hn) hn)
    refine ⟨q14, _, _, _, _, rfl, hq14, c_Run T, na_Run_end T, fl_Run_end _ _ _, rfl, _, rfl, ?_⟩
    cases hat : cf.at_ with
    | inr w' =>
      have et : endT cf = endS w' := by unfold endT; rw [hat]
      refine itF (by rw [et]; cases w' <;> kernel_rfl) ?_
      exact ⟨hj, F', s', ts', bits, cf, N', _, rfl, R14, re, by omega, x14 _ _ l13, f11, src_kp sr13 fun o h => x14 _ _ h, f4, kp14, tb14, ft'⟩
    | inl n =>
      have et : endT cf = "wait" := by unfold endT; rw [hat]
      refine itT (by rw [et] <;> rfl) ?_
      obtain ⟨y1, y2, y3, y4⟩ := src_kp sr13 fun o h => x14 _ _ h
      have l14 := x14 _ _ l13
      refine ⟨_, rfl, Or.inl ⟨rfl, _, Evl.sq_of l14⟩, _, rfl, p4, y1, y2, y3, 2, rfl, y4, (by decide), (by decide), fun z1 z2 z3 v v0 v1 => ?_⟩
      generalize e15 : upd _ p4 _ = H15
      obtain ⟨s15, o15⟩ := set_of e15
      clear e15
      obtain ⟨x, hx⟩ := bit_of v0 v1
      rw [hx]
      have l15 : H15 p11 = some (.lst (bits.map bV)) := by rw [o15 _ (fun z => p411 z.symm)]; exact l14
      refine ⟨p11, _, _, rfl, rfl, l15, szl (by rw [List.length_map]; omega), ?_⟩
      generalize e16 : upd _ p11 _ = H16
      obtain ⟨s16, o16⟩ := set_of e16
      clear e16
      have eb : bits.map bV ++ [bV x] = (bits ++ [x]).map bV := by rw [List.map_append] <;> rfl
      have g16 : Gr (fun b => b = p4 ∨ b = p11) F' H14 F' H16 := (Gr.set R14.x (.inl rfl) f4 o15).trans (Gr.set (set_ex R14.x f4 o15) (.inr rfl) f11 o16)
      have R16 := R14.gr g16 fun b z => by
        rcases z with z | z
        · rw [z]; exact nS4
        · rw [z]; exact nS11
      obtain ⟨N2, M2, cf2, re2, reM, hv2, hok2⟩ := more7 W hg (by decide) wg (by omega) hwt he re x
      refine ⟨_, rfl, S.p, _, _, rfl, R16.ob, fm_Session_answer _ _ _ _, ?_⟩
      refine ⟨_, rfl, 1, rfl, p11, _, _, bV x, rfl, rfl, Evl.sq_of s16, atI_last _ _, ?_⟩
      refine ⟨F', A, fin, lp, S, bits, s', ts', cf, x, M2, cf2, rfl, R16, ⟨n, hat⟩, by omega, reM, hv2, hok2, fun F17 H17 s17 ts17 v17 g17 R17 => ?_⟩
      have tb16 : Tb K H16 := by
        have t15 : Tb K H15 := tb_kp tb14 ⟨_, _, _, y4⟩ fun b o hb hn => by rw [o15 b hn]; exact hb
        intro q hq
        obtain ⟨ps, h1, h2, h3⟩ := t15 q hq
        refine ⟨ps, by rw [o16 _ (fun e => by rw [e, l15] at h1; cases h1)]; exact h1, h2, fun pos cv hc => ?_⟩
        obtain ⟨c, e1, e2⟩ := h3 pos cv hc
        exact ⟨c, e1, by rw [o16 _ (fun e => by rw [e, l15] at e2; unfold LamX.CodeO at e2; cases e2)]; exact e2⟩
      have s16p : H16 p4 = _ := (o16 p4 p411).trans s15
      refine ⟨hj, F17, s17, ts17, bits ++ [x], cf2, N2, _, rfl, R17, re2, (by simp; omega), ?_, ?_, ?_, ?_, fun b o hb hn => ?_, R16.tb tb16 g17.kp, fun b hb => ?_⟩
      · rw [← eb]
        exact g17.kp _ _ s16 nS11
      · exact g17.nw p11 (by rw [s16]; exact fun z => nomatch z) f11 nS11
      · exact ⟨_, _, _, g17.kp _ _ s16p nS4⟩
      · exact g17.nw p4 (by rw [s16p]; exact fun z => nomatch z) f4 nS4
      · refine g17.kp b o ?_ fun z => by have y := nS b z; rw [hb] at y; cases y
        rw [o16 b (fun z => by rw [z, nb11] at hb; cases hb), o15 b (fun z => by rw [z, n4] at hb; cases hb)]
        exact kp14 b o hb hn
      · obtain ⟨ps, hps⟩ := noT tb16 hb
        exact g17.nw b (by rw [hps]; exact fun z => nomatch z) (ft' b hb) (R16.noT tb16 b hb)
end

end Fc

open PySem PySem.W PyProof.Rows in
set_option maxRecDepth 100000 in
set_option maxHeartbeats 0 in
theorem PySem.Challenge.cw_finallycopies_k76_sessions_refuse_holds : PySem.Challenge.rw_finallycopies_k76_sessions_refuse.Holds := by
  w_on; o_law
  refine HandSHeadRun.head_any (r := Fc.R) (q := view Fc.R.prog [79]) (H := Fc.hk) (ob := Fc.ob) (M := 20000) (loose := Fc.looseL) (d := HandSHeadRun.topDef Fc.R.prog 79) (kwd := []) Fc.ob_eq
    (by kernel_rfl) (fun s => by kernel_rfl) Fc.run (by kernel_rfl) (by kernel_rfl) (by kernel_rfl) (by rfl) (by first | assumption | decide +kernel) (by decide +kernel) ⟨rfl, rfl, rfl, rfl, rfl, by decide +kernel⟩ ?hw ?hc
  case hw => w_witness2
  case hc =>
    refine FcL.walk_ofG (l := PySem.Challenge.rw_finallycopies_k76_sessions_refuse) (n := 63) (k := 13) (x := "_law_script") rfl (by decide) (by kernel_rfl) ⟨rfl, by decide, by decide⟩ ?F
    intro w mg fa h Y G hmg0
    obtain ⟨K, KX, c⟩ := Y
    have hmg : mg ("law" : PySem.Str) = some (.ref fa) := by
      have e : (HandSHeadRun.topDef Fc.R.prog 79).name = ("law" : PySem.Str) := by kernel_rfl
      rw [← e]
      exact hmg0
    have T : Fc.Tx w h K mg := ⟨KX, G, c⟩
    obtain rfl : fa = He.ga K "law" := Value.ref.inj (Option.some.inj (hmg.symm.trans (Fc.g_law T)))
    obtain ⟨fd, F⟩ := Fc.F_law T
    have b := L2.FunD.bindsA (ps := ["_law_script"]) F fun _ _ _ _ _ _ us hl => match us, hl with | [_], _ => rfl
    have mem : ∀ p ∈ Fc.tfL.map (He.cT K), ∃ q ∈ Fc.tfL, He.cT K q = p := fun p hp => List.mem_map.mp hp
    refine ⟨K, Fc.tfL.map (He.cT K), fd, Fc.sp_law76 K, KX, fun p hp => ?_, fun p hp => ?_, fun p hp => ?_, fun s v => b s [v] rfl, fun H a ns hl hT hS => ⟨a, ns, rfl, hl, hS, fun p hp => ?_, fun _ => rfl⟩, fun base _ TBs => ?_⟩
    · obtain ⟨q, hq, rfl⟩ := mem p hp
      exact c.empty q hq
    · obtain ⟨q, hq, rfl⟩ := mem p hp
      exact c.out q hq
    · obtain ⟨q, hq, rfl⟩ := mem p hp
      exact PySem.W.codeHd_of_K KX (c.hd q hq)
    · obtain ⟨q, hq, rfl⟩ := List.mem_map.mp hp
      exact LamX.TabS.nil (hT (He.cT K q) (List.mem_map.mpr ⟨q, hq, rfl⟩))
    · have TB : FcL.TabG K base mg Fc.tfL := fun p hp => TBs (He.cT K p) (List.mem_map.mpr ⟨p, hp, rfl⟩)
      obtain ⟨fd', G', _, _, F'⟩ := Fc.okF_law (P := (PySem.Challenge.rw_finallycopies_k76_sessions_refuse).prog) (base := base) TB T
      obtain rfl : fd = fd' := by
        obtain ⟨_, _, _, _, _, _, _, _, _, _, _, l1, _⟩ := F.ex
        obtain ⟨_, _, _, _, _, _, _, _, _, _, _, l2, _⟩ := F'.ex
        have z := l1.symm.trans l2
        cases z
        rfl
      exact G'


